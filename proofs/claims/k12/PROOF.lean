import PyProof.Rows.All
import Wide.All
import OpenK.AllK
import Wide.FinOn
import PySem.Challenge.RW_saltvault_k12_long_rows_coded
import HandS.ForMost
import HandS.ForExc
import HandS.HeadHook1
import HandS.TupAny
import HandS.TupMul
import HandS.IsInst
import HandS.Dict
import HandS.Iter
import HandS.Defaults
import HandS.HeadEnd
import KE.KRevSl
import HandS.Style
import HandS.Conv
import HandS.List
import KE.KTupSum
import HandS.Small
import HandS.Zip
import KE.GoesEnumKw
import HandS.HeadHook2
import PyProof.ReprRoads
import KE.DataMinMax
import HandS.SortKw
import PyProof.Rows.ChunkLeaf
import HandS.SetKeys
import HandS.SortInts
import HandS.More
import KE.DataCmp
import KE.SortData
import HandS.DictComp
import HandS.HeadHook4
import HandS.New
import HandS.SetFor
import HandS.Strs
import PyProof.AutoSeq1
import KE.KDictZip
import HandS.Head0
import HandS.Head1
import HandS.Head2
import HandS.HeadHook3
set_option Elab.async false
set_option linter.all false
set_option maxRecDepth 100000
set_option maxHeartbeats 4000000
namespace DL
open PySem PySem.Spec PyProof.Rows L2
/-- plain data, and names of things -/
inductive D where
  | non | bl (b : Bool) | int (i : Int) | str (x : Str)
  | tup (xs : List D) | lst (xs : List D) | dic (t : Bool) (kvs : List (D × D)) | ref (n : Nat) | raw (v : V) | scr (ns : List Int) | exn (c : Str) (p : D)
inductive Ob where
  | lst (xs : List D) | dic (t : Bool) (kvs : List (D × D)) | ins (c : Str) (fs : List (Str × D))
abbrev Sto := List (Option Ob)
inductive R (α : Type) where
  | ok (a : α) (S : Sto) | exc (c : Str) (p : D) (S : Sto) | bad
def R.bind {α β : Type} (r : R α) (g : α → Sto → R β) : R β := match r with
  | .ok a S => g a S
  | .exc c p S => .exc c p S
  | .bad => .bad
abbrev Ev := List (Option D)
abbrev Ex := Ev → Sto → R D
/-- a list that is read, not written by us -/
def SqF (K : PySem.W.Frag) (H : Hp) (Fb : Addr → Prop) (a : Addr) (xs : List V) : Prop :=
  (Rd H a (.lst xs) ∧ ¬ Fb a) ∨ ∃ (o : Obj) (its : Array Value) (n : Nat), K.lookup a = some o ∧ o.cls = .type "list" ∧ o.dict = none ∧ o.data = .seq its n ∧ its.size ≤ sizeLine ∧ Vals xs its.toList
theorem SqF.sq {K : PySem.W.Frag} {H : Hp} {Fb : Addr → Prop} {a : Addr} {xs : List V} (h : SqF K H Fb a xs) : SqL K H a xs := h.elim (fun h => .inl h.1) .inr
/-- locked for ever -/
def Lk (H : Hp) (a : Addr) (u : HO) : Prop := ∃ o, H a = some (.frz o u)
def Fixd : HO → Prop
  | .tup _ => True
  | .frz _ _ => True
  | _ => False
def keyD : Key → D
  | .inl i => .int i
  | .inr x => .str x
def keyT (ks : List Key) : D := .tup (ks.map keyD)
/-- an exception object at a, of the class cls, with its own dict d if it has one -/
def ExH (cls : Value) (d : Option Addr) (a : Addr) : HO := .ext fun h => ∃ (oe : Obj) (vs : Array Value), h.get? a = some oe ∧ Zc cls d oe ∧ oe.data = .fields vs
mutual
inductive Rep (K : PySem.W.Frag) (H : Hp) (Fb : Addr → Prop) (m : List Addr) : V → D → Prop
  | non : Rep K H Fb m .non .non
  | bl (b : Bool) : Rep K H Fb m (.bl b) (.bl b)
  | int (i : Int) : Rep K H Fb m (.int i) (.int i)
  | str (x : Str) : Rep K H Fb m (.str x) (.str x)
  | tup {a : Addr} {vs : List V} {ds : List D} : SqT K H a vs → vs.length ≤ sizeLine → RepA K H Fb m vs ds → Rep K H Fb m (.ref a) (.tup ds)
  | lst {a : Addr} {vs : List V} {ds : List D} : H a = some (.lst vs) → ¬ Fb a → vs.length ≤ sizeLine → RepA K H Fb m vs ds → Rep K H Fb m (.ref a) (.lst ds)
  | dK {a : Addr} {kv : List (Key × V)} {kvs : List (D × D)} : Lk H a (.dK kv) → kv.length ≤ sizeLine → kvs.map (·.1) = kv.map (fun p => keyD p.1) → RepA K H Fb m (kv.map (·.2)) (kvs.map (·.2)) → Rep K H Fb m (.ref a) (.dic false kvs)
  | dT {a : Addr} {kv : List (List Key × V)} {kvs : List (D × D)} : Lk H a (.dT kv) → kv.length ≤ sizeLine → kvs.map (·.1) = kv.map (fun p => keyT p.1) → RepA K H Fb m (kv.map (·.2)) (kvs.map (·.2)) → Rep K H Fb m (.ref a) (.dic true kvs)
  | ref {n : Nat} {a : Addr} : m[n]? = some a → Rep K H Fb m (.ref a) (.ref n)
  | raw (v : V) : Rep K H Fb m v (.raw v)
  | scr {a : Addr} {ns : List Int} : SqF K H Fb a (ns.map V.int) → ns.length ≤ sizeLine → Rep K H Fb m (.ref a) (.scr ns)
  | exn {a : Addr} {c : Str} : Rd H a (ExH (.ref (He.ga K c)) none a) → ¬ Fb a → Rep K H Fb m (.ref a) (.exn c .non)
  | exp {a dd : Addr} {c : Str} {v : V} {p : D} : Rd H a (ExH (.ref (He.ga K c)) (some dd) a) → ¬ Fb a → Rd H dd (.xd [("key", v)]) → ¬ Fb dd → p ≠ .non → Rep K H Fb m v p → Rep K H Fb m (.ref a) (.exn c p)
inductive RepA (K : PySem.W.Frag) (H : Hp) (Fb : Addr → Prop) (m : List Addr) : List V → List D → Prop
  | nil : RepA K H Fb m [] []
  | cons {v : V} {vs : List V} {d : D} {ds : List D} : Rep K H Fb m v d → RepA K H Fb m vs ds → RepA K H Fb m (v :: vs) (d :: ds)
end
/-- what a state keeps of another -/
structure Kp (H H' : Hp) (Fb Fb' : Addr → Prop) (m m' : List Addr) : Prop where
  lst : ∀ a xs, H a = some (.lst xs) → ¬ Fb a → H' a = some (.lst xs)
  obj : ∀ a u, Rd H a u → ¬ Fb a → Rd H' a u
  fix : ∀ a o, Fixd o → H a = some o → H' a = some o
  fb : ∀ a u, Rd H a u → ¬ Fb a → ¬ Fb' a
  ix : ∀ (n : Nat) a, m[n]? = some a → m'[n]? = some a
section
variable {K : PySem.W.Frag} {H H' : Hp} {Fb Fb' : Addr → Prop} {m m' : List Addr}
theorem Kp.tup (k : Kp H H' Fb Fb' m m') (a : Addr) (xs : List V) (h : Rd H a (.tup xs)) : Rd H' a (.tup xs) := h.elim (fun h => .inl (k.fix _ _ trivial h)) fun ⟨o, h⟩ => .inr ⟨o, k.fix _ _ trivial h⟩
theorem Kp.lk (k : Kp H H' Fb Fb' m m') {a : Addr} {u : HO} (h : Lk H a u) : Lk H' a u := h.imp fun _ h => k.fix _ _ trivial h
theorem Kp.sqT (k : Kp H H' Fb Fb' m m') {a : Addr} {xs : List V} (h : SqT K H a xs) : SqT K H' a xs := by
  rcases h with h | h
  · exact .inl (k.tup a xs h)
  · exact .inr h
mutual
theorem Rep.kp (k : Kp H H' Fb Fb' m m') : ∀ {v : V} {d : D}, Rep K H Fb m v d → Rep K H' Fb' m' v d
  | _, _, .non => .non
  | _, _, .bl b => .bl b
  | _, _, .int i => .int i
  | _, _, .str x => .str x
  | _, _, .tup h z r => .tup (k.sqT h) z (RepA.kp k r)
  | _, _, .lst h f z r => .lst (k.lst _ _ h f) (k.fb _ _ (.inl h) f) z (RepA.kp k r)
  | _, _, .dK h z e r => .dK (k.lk h) z e (RepA.kp k r)
  | _, _, .dT h z e r => .dT (k.lk h) z e (RepA.kp k r)
  | _, _, .ref h => .ref (k.ix _ _ h)
  | _, _, .raw v => .raw v
  | _, _, .scr h z => .scr (h.imp (fun h => ⟨k.obj _ _ h.1 h.2, k.fb _ _ h.1 h.2⟩) id) z
  | _, _, .exn h f => .exn (k.obj _ _ h f) (k.fb _ _ h f)
  | _, _, .exp h f h2 f2 n r => .exp (k.obj _ _ h f) (k.fb _ _ h f) (k.obj _ _ h2 f2) (k.fb _ _ h2 f2) n (Rep.kp k r)
theorem RepA.kp (k : Kp H H' Fb Fb' m m') : ∀ {vs : List V} {ds : List D}, RepA K H Fb m vs ds → RepA K H' Fb' m' vs ds
  | _, _, .nil => .nil
  | _, _, .cons h r => .cons (Rep.kp k h) (RepA.kp k r)
end
end
def Liv (m : List Addr) (S : Sto) (a : Addr) : Prop := ∃ (n : Nat) (o : Ob), m[n]? = some a ∧ S[n]? = some (some o)
def Fo (B : Addr → Prop) (m : List Addr) (S : Sto) (a : Addr) : Prop := B a ∨ Liv m S a
/-- what stands for a live object -/
inductive ObR (K : PySem.W.Frag) (mg : Str → Option Value) (H : Hp) (Fb : Addr → Prop) (m : List Addr) (a : Addr) : Ob → Prop
  | lst {vs : List V} {ds : List D} : H a = some (.lst vs) → vs.length ≤ sizeLine → RepA K H Fb m vs ds → ObR K mg H Fb m a (.lst ds)
  | dK {kv : List (Key × V)} {kvs : List (D × D)} : H a = some (.dK kv) → kv.length ≤ sizeLine → kvs.map (·.1) = kv.map (fun p => keyD p.1) → RepA K H Fb m (kv.map (·.2)) (kvs.map (·.2)) → ObR K mg H Fb m a (.dic false kvs)
  | dT {kv : List (List Key × V)} {kvs : List (D × D)} : H a = some (.dT kv) → kv.length ≤ sizeLine → kvs.map (·.1) = kv.map (fun p => keyT p.1) → RepA K H Fb m (kv.map (·.2)) (kvs.map (·.2)) → ObR K mg H Fb m a (.dic true kvs)
  | ins {c : Str} {C dx : Addr} {fv : List (Str × V)} {fs : List (Str × D)} : mg c = some (.ref C) → H a = some (.ins C dx fv) → fs.map (·.1) = fv.map (·.1) → RepA K H Fb m (fv.map (·.2)) (fs.map (·.2)) → ObR K mg H Fb m a (.ins c fs)
structure Rl (K : PySem.W.Frag) (mg : Str → Option Value) (B : Addr → Prop) (m : List Addr) (H : Hp) (S : Sto) : Prop where
  len : m.length = S.length
  nod : m.Nodup
  nb : ∀ a, Liv m S a → ¬ B a
  bt : ∀ a, B a → H a ≠ none
  mt : ∀ a, a ∈ m → H a ≠ none
  obj : ∀ (n : Nat) a o, m[n]? = some a → S[n]? = some (some o) → ObR K mg H (Fo B m S) m a o
structure Post (K : PySem.W.Frag) (mg : Str → Option Value) (B : Addr → Prop) (m : List Addr) (S : Sto) (H : Hp) (m' : List Addr) (S' : Sto) (H' : Hp) : Prop where
  ext : ∃ l, m' = m ++ l ∧ ∀ a, a ∈ l → H a = none
  keep : ∀ a o, H a = some o → ¬ Liv m S a → H' a = some o
  smm : ∀ a, H a ≠ none → H' a ≠ none
  rl : Rl K mg B m' H' S'
  liv : ∀ a, Liv m' S' a → Liv m S a ∨ H a = none
section
variable {K : PySem.W.Frag} {mg : Str → Option Value} {B : Addr → Prop} {m m' m1 m2 : List Addr} {S S' S1 S2 : Sto} {H H' H1 H2 : Hp}
theorem ObR.not_fix {Fb : Addr → Prop} {a : Addr} {o : Ob} (h : ObR K mg H Fb m a o) {u : HO} (f : Fixd u) (e : H a = some u) : False := by
  cases h with
  | lst h _ _ => rw [h] at e; cases e; exact f
  | dK h _ _ _ => rw [h] at e; cases e; exact f
  | dT h _ _ _ => rw [h] at e; cases e; exact f
  | ins _ h _ _ => rw [h] at e; cases e; exact f
theorem Post.refl (r : Rl K mg B m H S) : Post K mg B m S H m S H :=
  ⟨⟨[], by simp, fun a h => by simp at h⟩, fun _ _ h _ => h, fun _ h => h, r, fun _ h => .inl h⟩
theorem Post.trans (p : Post K mg B m S H m1 S1 H1) (q : Post K mg B m1 S1 H1 m2 S2 H2) : Post K mg B m S H m2 S2 H2 := by
  refine ⟨?_, fun a o h hl => ?_, fun a h => q.smm a (p.smm a h), q.rl, fun a h => ?_⟩
  · obtain ⟨l, e, f⟩ := p.ext
    obtain ⟨l', e', f'⟩ := q.ext
    refine ⟨l ++ l', by rw [e', e, List.append_assoc], fun a h => ?_⟩
    rcases List.mem_append.mp h with h | h
    · exact f a h
    · have z := f' a h
      cases q2 : H a with
      | none => rfl
      | some o => exact absurd z (p.smm a (by rw [q2]; simp))
  · refine q.keep a o (p.keep a o h hl) fun l1 => ?_
    rcases p.liv a l1 with z | z
    · exact hl z
    · rw [h] at z; cases z
  · rcases q.liv a h with z | z
    · exact p.liv a z
    · right
      cases q2 : H a with
      | none => rfl
      | some o => exact absurd z (p.smm a (by rw [q2]; simp))
theorem rd_some {a : Addr} {u : HO} (h : Rd H a u) : ∃ o, H a = some o := by
  rcases h with h | ⟨o, h⟩
  · exact ⟨_, h⟩
  · exact ⟨_, h⟩
theorem Post.kp (r : Rl K mg B m H S) (p : Post K mg B m S H m' S' H') : Kp H H' (Fo B m S) (Fo B m' S') m m' := by
  refine ⟨fun a xs h f => p.keep _ _ h fun z => f (.inr z), fun a u h f => ?_, fun a o f h => ?_, fun a u h f => ?_, fun n a h => ?_⟩
  · have nl : ¬ Liv m S a := fun z => f (.inr z)
    rcases h with h | ⟨o, h⟩
    · exact .inl (p.keep _ _ h nl)
    · exact .inr ⟨o, p.keep _ _ h nl⟩
  · exact p.keep _ _ h fun ⟨n, o, e1, e2⟩ => (r.obj n a o e1 e2).not_fix f h
  · rintro (z | z)
    · exact f (.inl z)
    · rcases p.liv a z with y | y
      · exact f (.inr y)
      · obtain ⟨o, e⟩ := rd_some h
        rw [y] at e; cases e
  · obtain ⟨l, e, _⟩ := p.ext
    rw [e, List.getElem?_append_left (List.getElem?_eq_some_iff.mp h).1]
    exact h
/-- the heap has grown -/
theorem Rl.grow (r : Rl K mg B m H S) (s : Same H H') : Rl K mg B m H' S := by
  have kp : Kp H H' (Fo B m S) (Fo B m S) m m := ⟨fun a xs h _ => s _ _ h, fun a u h _ => h.elim (fun h => .inl (s _ _ h)) fun ⟨o, h⟩ => .inr ⟨o, s _ _ h⟩, fun a o _ h => s _ _ h, fun _ _ _ f => f, fun _ _ h => h⟩
  have sm : ∀ a, H a ≠ none → H' a ≠ none := fun a h => by
    cases e : H a with
    | none => exact absurd e h
    | some o => rw [s _ _ e]; simp
  refine ⟨r.len, r.nod, r.nb, fun a h => sm a (r.bt a h), fun a h => sm a (r.mt a h), fun n a o e1 e2 => ?_⟩
  cases r.obj n a o e1 e2 with
  | lst h z q => exact .lst (s _ _ h) z (q.kp kp)
  | dK h z e q => exact .dK (s _ _ h) z e (q.kp kp)
  | dT h z e q => exact .dT (s _ _ h) z e (q.kp kp)
  | ins g h e q => exact .ins g (s _ _ h) e (q.kp kp)
theorem Post.grow (r : Rl K mg B m H S) (s : Same H H') : Post K mg B m S H m S H' :=
  ⟨⟨[], by simp, fun a h => by simp at h⟩, fun _ _ h _ => s _ _ h, fun a h => by
    cases e : H a with
    | none => exact absurd e h
    | some o => rw [s _ _ e]; simp, r.grow s, fun _ h => .inl h⟩
theorem same_upd {a : Addr} {o : HO} (h : H a = none) : Same H (upd H a o) := fun b u e => by
  rw [upd_ne (ne_of_none e h)]; exact e
end
/-- the slots -/
def RepE (K : PySem.W.Frag) (H : Hp) (Fb : Addr → Prop) (m : List Addr) (σ : L2.St) (ρ : Ev) : Prop :=
  σ.length = ρ.length ∧ ∀ (i : Nat) d, ρ[i]? = some (some d) → ∃ v, σ[i]? = some (some v) ∧ Rep K H Fb m v d
theorem RepE.kp {K : PySem.W.Frag} {H H' : Hp} {Fb Fb' : Addr → Prop} {m m' : List Addr} {σ : L2.St} {ρ : Ev} (k : Kp H H' Fb Fb' m m') (h : RepE K H Fb m σ ρ) : RepE K H' Fb' m' σ ρ :=
  ⟨h.1, fun i d e => let ⟨v, e1, r⟩ := h.2 i d e; ⟨v, e1, r.kp k⟩⟩
theorem RepE.set {K : PySem.W.Frag} {H : Hp} {Fb : Addr → Prop} {m : List Addr} {σ : L2.St} {ρ : Ev} {i : Nat} {v : V} {d : D} (h : RepE K H Fb m σ ρ) (r : Rep K H Fb m v d) : RepE K H Fb m (σ.set i (some v)) (ρ.set i (some d)) := by
  refine ⟨by simp [h.1], fun j e q => ?_⟩
  by_cases hj : j = i
  · subst hj
    have hl : j < ρ.length := by
      have := (List.getElem?_eq_some_iff.mp q).1
      simpa using this
    rw [List.getElem?_set_self hl] at q
    cases q
    exact ⟨v, List.getElem?_set_self (by rw [h.1]; exact hl), r⟩
  · rw [List.getElem?_set_ne (Ne.symm hj)] at q
    obtain ⟨w, e1, r1⟩ := h.2 j e q
    exact ⟨w, by rw [List.getElem?_set_ne (Ne.symm hj)]; exact e1, r1⟩
/-- an exception's class, its payload -/
def XcR (K : PySem.W.Frag) (mg : Str → Option Value) (H : Hp) (Fb : Addr → Prop) (m : List Addr) (c : Str) (p : D) (cls : Value) (dd : Option Addr) : Prop :=
  ∃ C, mg c = some (.ref C) ∧ cls = .ref C ∧ ((p = .non ∧ dd = none) ∨ (p ≠ .non ∧ ∃ a v, dd = some a ∧ H a = some (.xd [("key", v)]) ∧ Rep K H Fb m v p))
section
variable (K : PySem.W.Frag) (mg : Str → Option Value) (W : WX)
/-- what is left of a result, from (m, S, H) -/
def fin (B : Addr → Prop) (m : List Addr) (S : Sto) (σ : L2.St) (H : Hp) (r : R D) (Q : VK) : Prop := match r with
  | .ok d S' => ∀ m' H' v, Post K mg B m S H m' S' H' → Rep K H' (Fo B m' S') m' v d → Q v H'
  | .exc c p S' => ∀ m' H' cls dd, Post K mg B m S H m' S' H' → XcR K mg H' (Fo B m' S') m' c p cls dd → W cls dd σ H'
  | .bad => False
def up (f : Ex) : TE := fun σ H Q => ∃ B m ρ S, Rl K mg B m H S ∧ RepE K H (Fo B m S) m σ ρ ∧ fin K mg W B m S σ H (f ρ S) Q
end
section
variable {K : PySem.W.Frag} {mg : Str → Option Value} {W : WX} {B : Addr → Prop} {m m' m1 : List Addr} {S S' S1 : Sto} {H H' H1 : Hp} {σ : L2.St} {ρ : Ev}
/-- a later state -/
theorem fin.later (p : Post K mg B m S H m1 S1 H1) {r : R D} {Q : VK} (h : fin K mg W B m S σ H r Q) : fin K mg W B m1 S1 σ H1 r Q := by
  cases r with
  | ok d S' => exact fun m' H' v q => h m' H' v (p.trans q)
  | exc c p' S' => exact fun m' H' cls dd q => h m' H' cls dd (p.trans q)
  | bad => exact h
theorem fin.mono {r : R D} {Q Q' : VK} (h : fin K mg W B m S σ H r Q) (k : ∀ v H, Q v H → Q' v H) : fin K mg W B m S σ H r Q' := by
  cases r with
  | ok d S' => exact fun m' H' v p r => k _ _ (h m' H' v p r)
  | exc c p' S' => exact h
  | bad => exact h
/-- one step, then the rest -/
theorem fin.bind {r : R D} {g : D → Sto → R D} {Q : VK} (h : fin K mg W B m S σ H (r.bind g) Q) :
    fin K mg W B m S σ H r (fun v H1 => ∃ m1 S1 d, Post K mg B m S H m1 S1 H1 ∧ Rep K H1 (Fo B m1 S1) m1 v d ∧ fin K mg W B m1 S1 σ H1 (g d S1) Q) := by
  cases r with
  | ok d S' => exact fun m' H' v p r => ⟨m', S', d, p, r, fin.later p h⟩
  | exc c p' S' => exact h
  | bad => exact h
/-- a value at once -/
theorem fin.ok {d : D} {Q : VK} (r : Rl K mg B m H S) (h : fin K mg W B m S σ H (.ok d S) Q) {H' : Hp} {v : V} (s : Same H H') (q : Rep K H' (Fo B m S) m v d) : Q v H' := h m H' v (Post.grow r s) q
end
/-- an expression has a denotation -/
def EV (X : Cx) (W : WX) (e : Expr) (f : Ex) : Prop := PE X e (up X.K X.mg W f)
theorem pe_imp {X : Cx} {e : Expr} {t t' : TE} (h : PE X e t) (k : ∀ σ H Q, t' σ H Q → t σ H Q) : PE X e t' := ⟨fun pins s σ H Q I q => h.run pins s σ H Q I (k σ H Q q)⟩
def eVar (i : Nat) : Ex := fun ρ S => match ρ[i]? with
  | some (some d) => .ok d S
  | _ => .bad
def eC (d : D) : Ex := fun _ S => .ok d S
section
variable {X : Cx} {W : WX}
theorem ev_var {i : Nat} {x : Str} {pos : Pos} (hN : X.N[i]? = some x := by rfl) (hv : Vis X.env.scope x := by first | exact Or.inl rfl | exact Or.inr (Or.inl rfl) | exact Or.inr (Or.inr rfl)) (hd : (x == ("__debug__" : Str)) = false := by decide)
    (hcd : (x == ("__classdict__" : Str)) = false := by decide) : EV X W (.Name x pos) (eVar i) := by
  refine pe_imp (pe_var hN hv hd hcd) fun σ H Q h => ?_
  obtain ⟨B, m, ρ, S, r, re, f⟩ := h
  unfold eVar at f
  split at f
  · rename_i d e
    obtain ⟨v, e1, q⟩ := re.2 i d e
    exact ⟨v, e1, f.ok r (Same.refl H) q⟩
  · exact f.elim
theorem ev_int {i : Int} {j : Nat} {pos : Pos} : EV X W (.Constant (.int i) j pos) (eC (.int i)) := pe_imp pe_int fun σ H Q ⟨B, m, ρ, S, r, re, f⟩ => fin.ok r f (Same.refl H) (.int i)
theorem ev_bl {b : Bool} {j : Nat} {pos : Pos} : EV X W (.Constant (.bool b) j pos) (eC (.bl b)) := pe_imp pe_bl fun σ H Q ⟨B, m, ρ, S, r, re, f⟩ => fin.ok r f (Same.refl H) (.bl b)
theorem ev_str {x : Str} {j : Nat} {pos : Pos} : EV X W (.Constant (.str x) j pos) (eC (.str x)) := pe_imp pe_str fun σ H Q ⟨B, m, ρ, S, r, re, f⟩ => fin.ok r f (Same.refl H) (.str x)
end
end DL
set_option Elab.async false
set_option linter.all false
set_option maxRecDepth 100000
set_option maxHeartbeats 4000000
namespace DL
open PySem PySem.Spec PyProof.Rows L2
/-- what a value reads as -/
def view (S : Sto) : D → D
  | .ref n => match S[n]? with
    | some (some (.lst xs)) => .lst xs
    | some (some (.dic t kvs)) => .dic t kvs
    | _ => .ref n
  | d => d
inductive Vw (K : PySem.W.Frag) (H : Hp) (Fb : Addr → Prop) (m : List Addr) : V → D → Prop
  | lst {a : Addr} {vs : List V} {ds : List D} : H a = some (.lst vs) → vs.length ≤ sizeLine → RepA K H Fb m vs ds → Vw K H Fb m (.ref a) (.lst ds)
  | dK {a : Addr} {kv : List (Key × V)} {kvs : List (D × D)} : Rd H a (.dK kv) → kv.length ≤ sizeLine → kvs.map (·.1) = kv.map (fun p => keyD p.1) → RepA K H Fb m (kv.map (·.2)) (kvs.map (·.2)) → Vw K H Fb m (.ref a) (.dic false kvs)
  | dT {a : Addr} {kv : List (List Key × V)} {kvs : List (D × D)} : Rd H a (.dT kv) → kv.length ≤ sizeLine → kvs.map (·.1) = kv.map (fun p => keyT p.1) → RepA K H Fb m (kv.map (·.2)) (kvs.map (·.2)) → Vw K H Fb m (.ref a) (.dic true kvs)
  | oth {v : V} {d : D} : Rep K H Fb m v d → Vw K H Fb m v d
section
variable {K : PySem.W.Frag} {mg : Str → Option Value} {B : Addr → Prop} {m : List Addr} {S : Sto} {H H' : Hp} {Fb : Addr → Prop} {v : V} {d : D}
theorem vw (r : Rl K mg B m H S) (h : Rep K H (Fo B m S) m v d) : Vw K H (Fo B m S) m v (view S d) := by
  cases d with
  | ref n =>
    simp only [view]
    cases h with
    | ref e1 =>
      cases e : S[n]? with
      | none => exact .oth (.ref e1)
      | some o =>
        cases o with
        | none => exact .oth (.ref e1)
        | some o =>
          have ob := r.obj n _ _ e1 e
          cases ob with
          | lst h z q => exact .lst h z q
          | dK h z q1 q => exact .dK (.inl h) z q1 q
          | dT h z q1 q => exact .dT (.inl h) z q1 q
          | ins _ _ _ _ => exact .oth (.ref e1)
  | _ => exact .oth h
theorem Vw.asL {xs : List D} (h : Vw K H Fb m v (.lst xs)) : ∃ a vs, v = .ref a ∧ H a = some (.lst vs) ∧ vs.length ≤ sizeLine ∧ RepA K H Fb m vs xs := by
  cases h with
  | lst h z q => exact ⟨_, _, rfl, h, z, q⟩
  | oth h => cases h with
    | lst h f z q => exact ⟨_, _, rfl, h, z, q⟩
theorem Vw.asT {xs : List D} (h : Vw K H Fb m v (.tup xs)) : ∃ a vs, v = .ref a ∧ SqT K H a vs ∧ vs.length ≤ sizeLine ∧ RepA K H Fb m vs xs := by
  cases h with
  | oth h => cases h with
    | tup h z q => exact ⟨_, _, rfl, h, z, q⟩
theorem Vw.asI {i : Int} (h : Vw K H Fb m v (.int i)) : v = .int i := by
  cases h with
  | oth h => cases h; rfl
theorem Vw.asB {b : Bool} (h : Vw K H Fb m v (.bl b)) : v = .bl b := by
  cases h with
  | oth h => cases h; rfl
theorem Vw.asS {x : Str} (h : Vw K H Fb m v (.str x)) : v = .str x := by
  cases h with
  | oth h => cases h; rfl
theorem RepA.length {vs : List V} {ds : List D} (h : RepA K H Fb m vs ds) : vs.length = ds.length := by
  induction vs generalizing ds with
  | nil => cases h; rfl
  | cons v vs ih => cases h with
    | cons h t => simp [ih t]
theorem RepA.append {vs ws : List V} {ds es : List D} (h : RepA K H Fb m vs ds) (h' : RepA K H Fb m ws es) : RepA K H Fb m (vs ++ ws) (ds ++ es) := by
  induction vs generalizing ds with
  | nil => cases h; exact h'
  | cons v vs ih => cases h with
    | cons h t => exact .cons h (ih t)
theorem RepA.get {vs : List V} {ds : List D} (h : RepA K H Fb m vs ds) {i : Nat} {d : D} (e : ds[i]? = some d) : ∃ v, vs[i]? = some v ∧ Rep K H Fb m v d := by
  induction vs generalizing ds i with
  | nil => cases h; simp at e
  | cons v vs ih => cases h with
    | cons h t =>
      cases i with
      | zero => simp at e; subst e; exact ⟨v, rfl, h⟩
      | succ i => obtain ⟨w, e1, r⟩ := ih t (by simpa using e); exact ⟨w, by simpa using e1, r⟩
theorem RepA.drop {vs : List V} {ds : List D} (h : RepA K H Fb m vs ds) (n : Nat) : RepA K H Fb m (vs.drop n) (ds.drop n) := by
  induction n generalizing vs ds with
  | zero => simpa using h
  | succ n ih => cases h with
    | nil => simpa using RepA.nil
    | cons h t => simpa using ih t
theorem RepA.take {vs : List V} {ds : List D} (h : RepA K H Fb m vs ds) (n : Nat) : RepA K H Fb m (vs.take n) (ds.take n) := by
  induction n generalizing vs ds with
  | zero => simpa using RepA.nil
  | succ n ih => cases h with
    | nil => simpa using RepA.nil
    | cons h t => simpa using RepA.cons h (ih t)
theorem RepA.set {vs : List V} {ds : List D} (h : RepA K H Fb m vs ds) (n : Nat) {v : V} {d : D} (r : Rep K H Fb m v d) : RepA K H Fb m (vs.set n v) (ds.set n d) := by
  induction n generalizing vs ds with
  | zero => cases h with
    | nil => exact .nil
    | cons h t => exact .cons r t
  | succ n ih => cases h with
    | nil => exact .nil
    | cons h t => exact .cons h (ih t)
theorem RepA.reverse {vs : List V} {ds : List D} (h : RepA K H Fb m vs ds) : RepA K H Fb m vs.reverse ds.reverse := by
  induction vs generalizing ds with
  | nil => cases h; exact .nil
  | cons v vs ih => cases h with
    | cons h t => simpa using (ih t).append (.cons h .nil)
theorem RepA.eraseIdx {vs : List V} {ds : List D} (h : RepA K H Fb m vs ds) (n : Nat) : RepA K H Fb m (vs.eraseIdx n) (ds.eraseIdx n) := by
  induction n generalizing vs ds with
  | zero => cases h with
    | nil => exact .nil
    | cons h t => exact t
  | succ n ih => cases h with
    | nil => exact .nil
    | cons h t => exact .cons h (ih t)
theorem RepA.rep {vs : List V} {ds : List D} (h : RepA K H Fb m vs ds) (n : Nat) : RepA K H Fb m (List.replicate n vs).flatten (List.replicate n ds).flatten := by
  induction n with
  | zero => exact .nil
  | succ n ih => simpa [List.replicate_succ] using h.append ih
theorem kp_same (s : Same H H') : Kp H H' Fb Fb m m := ⟨fun a xs h _ => s _ _ h, fun a u h _ => h.elim (fun h => .inl (s _ _ h)) fun ⟨o, h⟩ => .inr ⟨o, s _ _ h⟩, fun a o _ h => s _ _ h, fun _ _ _ f => f, fun _ _ h => h⟩
theorem fr_of (r : Rl K mg B m H S) : ∀ p, H p = none → ¬ Fo B m S p := fun p e z => by
  rcases z with z | ⟨n, o, e1, _⟩
  · exact r.bt p z e
  · exact r.mt p (List.mem_of_getElem? e1) e
end
section
variable {K : PySem.W.Frag} {mg : Str → Option Value} {W : WX} {σ : L2.St} {H : Hp} {Q : VK}
theorem up_one {fa : Ex} {g : D → Ev → Sto → R D} (h : up K mg W (fun ρ S => (fa ρ S).bind fun x S => g x ρ S) σ H Q) :
    up K mg W fa σ H fun x H1 => ∃ B m ρ S dx, Rl K mg B m H1 S ∧ RepE K H1 (Fo B m S) m σ ρ ∧ Rep K H1 (Fo B m S) m x dx ∧ fin K mg W B m S σ H1 (g dx ρ S) Q := by
  obtain ⟨B, m, ρ, S, r, re, f⟩ := h
  refine ⟨B, m, ρ, S, r, re, fin.mono (fin.bind f) fun v H1 => ?_⟩
  rintro ⟨m1, S1, d, p, q, f1⟩
  exact ⟨B, m1, ρ, S1, d, p.rl, re.kp (p.kp r), q, f1⟩
theorem up_two {fa fb : Ex} {g : D → D → Ev → Sto → R D} (h : up K mg W (fun ρ S => (fa ρ S).bind fun x S => (fb ρ S).bind fun y S => g x y ρ S) σ H Q) :
    up K mg W fa σ H fun x H1 => up K mg W fb σ H1 fun y H2 => ∃ B m ρ S dx dy, Rl K mg B m H2 S ∧ RepE K H2 (Fo B m S) m σ ρ ∧ Rep K H2 (Fo B m S) m x dx ∧ Rep K H2 (Fo B m S) m y dy ∧ fin K mg W B m S σ H2 (g dx dy ρ S) Q := by
  obtain ⟨B, m, ρ, S, r, re, f⟩ := h
  refine ⟨B, m, ρ, S, r, re, fin.mono (fin.bind f) fun v H1 => ?_⟩
  rintro ⟨m1, S1, d, p, q, f1⟩
  refine ⟨B, m1, ρ, S1, p.rl, re.kp (p.kp r), fin.mono (fin.bind f1) fun v2 H2 => ?_⟩
  rintro ⟨m2, S2, d2, p2, q2, f2⟩
  exact ⟨B, m2, ρ, S2, d, d2, p2.rl, (re.kp (p.kp r)).kp (p2.kp p.rl), q.kp (p2.kp p.rl), q2, f2⟩
end
/-- an answer without a change -/
def ans (S : Sto) : Option D → R D
  | some d => .ok d S
  | none => .bad
def eOp2 (g : D → D → Option D) (a b : Ex) : Ex := fun ρ S => (a ρ S).bind fun x S => (b ρ S).bind fun y S => ans S (g (view S x) (view S y))
def eOp1 (g : D → Option D) (a : Ex) : Ex := fun ρ S => (a ρ S).bind fun x S => ans S (g (view S x))
/-- what is asked of a rule by values: from readable arguments -/
def rG2 (K : PySem.W.Frag) (g : D → D → Option D) : R2 := fun x y H Q => ∃ Fb m dx dy d, (∀ p, H p = none → ¬ Fb p) ∧ Vw K H Fb m x dx ∧ Vw K H Fb m y dy ∧ g dx dy = some d ∧ ∀ H' z, Same H H' → Rep K H' Fb m z d → Q z H'
def rG1 (K : PySem.W.Frag) (g : D → Option D) : V → Hp → VK → Prop := fun x H Q => ∃ Fb m dx d, (∀ p, H p = none → ¬ Fb p) ∧ Vw K H Fb m x dx ∧ g dx = some d ∧ ∀ H' z, Same H H' → Rep K H' Fb m z d → Q z H'
section
variable {X : Cx} {W : WX} {a b : Expr} {fa fb : Ex} {pos : Pos}
theorem two_of {K : PySem.W.Frag} {mg : Str → Option Value} {W : WX} {σ : L2.St} {H : Hp} {Q : VK} {g : D → D → Option D} (h : up K mg W (eOp2 g fa fb) σ H Q) : tOp (rG2 K g) (up K mg W fa) (up K mg W fb) σ H Q := by
  obtain ⟨B, m, ρ, S, r, re, f⟩ := up_two (g := fun x y ρ S => ans S (g (view S x) (view S y))) h
  refine ⟨B, m, ρ, S, r, re, f.mono fun x H1 => ?_⟩
  rintro ⟨B, m, ρ, S, r, re, f⟩
  refine ⟨B, m, ρ, S, r, re, f.mono fun y H2 => ?_⟩
  rintro ⟨B, m, ρ, S, dx, dy, r, re, rx, ry, f⟩
  cases e : g (view S dx) (view S dy) with
  | none => rw [e] at f; exact f.elim
  | some d =>
    rw [e] at f
    exact ⟨_, m, _, _, d, fr_of r, vw r rx, vw r ry, e, fun H' z s q => f.ok r s q⟩
theorem one_of {K : PySem.W.Frag} {mg : Str → Option Value} {W : WX} {σ : L2.St} {H : Hp} {Q : VK} {g : D → Option D} (h : up K mg W (eOp1 g fa) σ H Q) : up K mg W fa σ H fun x H1 => rG1 K g x H1 Q := by
  obtain ⟨B, m, ρ, S, r, re, f⟩ := up_one (g := fun x ρ S => ans S (g (view S x))) h
  refine ⟨B, m, ρ, S, r, re, f.mono fun x H1 => ?_⟩
  rintro ⟨B, m, ρ, S, dx, r, re, rx, f⟩
  cases e : g (view S dx) with
  | none => rw [e] at f; exact f.elim
  | some d =>
    rw [e] at f
    exact ⟨_, m, _, d, fr_of r, vw r rx, e, fun H' z s q => f.ok r s q⟩
theorem ev_op {op : Operator} {g : D → D → Option D} (ho : OpR X (binaryOp op) (rG2 X.K g)) (ha : EV X W a fa) (hb : EV X W b fb) : EV X W (.BinOp a op b pos) (eOp2 g fa fb) := pe_imp (pe_op ho ha hb) fun σ H Q h => two_of h
theorem ev_cmp {op : CmpOp} {g : D → D → Option D} (ho : OpR X (compareOp op) (rG2 X.K g)) (ha : EV X W a fa) (hb : EV X W b fb) (hm : behindInMarks op b = false) : EV X W (.Compare a [op] [b] pos) (eOp2 g fa fb) := pe_imp (pe_cmpR ho ha hb hm) fun σ H Q h => two_of h
theorem ev_un {op : UnaryOp} {g : D → Option D} (ho : UnR X (unaryOp op) (rG1 X.K g)) (ha : EV X W a fa) : EV X W (.UnaryOp op a pos) (eOp1 g fa) := pe_imp (pe_un ho ha) fun σ H Q h => one_of h
end
def addD : D → D → Option D
  | .int i, .int j => some (.int (i + j))
  | .str x, .str y => if x.length + y.length ≤ sizeLine then some (.str (x ++ y)) else none
  | .tup xs, .tup ys => if xs.length + ys.length ≤ sizeLine then some (.tup (xs ++ ys)) else none
  | .lst xs, .lst ys => if xs.length + ys.length ≤ sizeLine then some (.lst (xs ++ ys)) else none
  | _, _ => none
def subD : D → D → Option D
  | .int i, .int j => some (.int (i - j))
  | _, _ => none
def mulD : D → D → Option D
  | .int i, .int j => if (-(2 ^ 64) < i ∧ i < 2 ^ 64) ∨ (-(2 ^ 64) < j ∧ j < 2 ^ 64) then some (.int (i * j)) else none
  | .tup xs, .int k => if k ≤ 1000000 ∧ -1000000 ≤ k ∧ xs.length * k.toNat ≤ sizeLine then some (.tup (List.replicate k.toNat xs).flatten) else none
  | .lst xs, .int k => if k ≤ 1000000 ∧ -1000000 ≤ k ∧ xs.length * k.toNat ≤ sizeLine then some (.lst (List.replicate k.toNat xs).flatten) else none
  | _, _ => none
def modD : D → D → Option D
  | .int i, .int j => if 0 < j then some (.int (i % j)) else none
  | _, _ => none
def divD : D → D → Option D
  | .int i, .int j => if 0 < j ∧ j < 1073741824 then some (.int (i / j)) else none
  | _, _ => none
def powD : D → D → Option D
  | .int i, .int j => if 0 ≤ j ∧ j ≤ 1000000 ∧ i.natAbs < 2 ^ 64 then some (.int (i ^ j.toNat)) else none
  | _, _ => none
section
variable {X : Cx}
/-- two ints: by the layer's own rule -/
theorem og_int {f : Value → Value → Sem Value} {g : D → D → Option D} {r : R2} (h : OpR X f r)
    (hg : ∀ dx dy d, g dx dy = some d → ∃ i j z, dx = .int i ∧ dy = .int j ∧ d = z ∧ ∀ (H : Hp) (Q : VK), (∀ v, (∀ (H : Hp) Fb m, Rep X.K H Fb m v d) → Q v H) → r (.int i) (.int j) H Q) : OpR X f (rG2 X.K g) := by
  intro pins s σ H x y v u Q I rx ry ⟨Fb, m, dx, dy, d, fr, vx, vy, e, k⟩
  obtain ⟨i, j, z, rfl, rfl, rfl, q⟩ := hg dx dy d e
  cases vx.asI
  cases vy.asI
  exact h pins s σ H _ _ v u Q I rx ry (q H Q fun v hv => k H v (Same.refl H) (hv _ _ _))
theorem og_sub : OpR X (binaryOp .Sub) (rG2 X.K subD) := og_int op_sub fun dx dy d e => by
  unfold subD at e
  split at e
  · rename_i i j
    cases e
    exact ⟨i, j, _, rfl, rfl, rfl, fun H Q k => ⟨i, j, rfl, rfl, k _ fun _ _ _ => .int _⟩⟩
  · cases e
theorem og_mod : OpR X (binaryOp .Mod) (rG2 X.K modD) := og_int op_mod fun dx dy d e => by
  unfold modD at e
  split at e
  · rename_i i j
    split at e
    · rename_i hj
      cases e
      exact ⟨i, j, _, rfl, rfl, rfl, fun H Q k => ⟨i, j, rfl, rfl, hj, k _ fun _ _ _ => .int _⟩⟩
    · cases e
  · cases e
theorem og_div : OpR X (binaryOp .FloorDiv) (rG2 X.K divD) := og_int op_fdiv fun dx dy d e => by
  unfold divD at e
  split at e
  · rename_i i j
    split at e
    · rename_i hj
      cases e
      exact ⟨i, j, _, rfl, rfl, rfl, fun H Q k => ⟨i, j, rfl, rfl, hj, k _ fun _ _ _ => .int _⟩⟩
    · cases e
  · cases e
theorem og_pow : OpR X (binaryOp .Pow) (rG2 X.K powD) := og_int op_pow fun dx dy d e => by
  unfold powD at e
  split at e
  · rename_i i j
    split at e
    · rename_i hj
      cases e
      exact ⟨i, j, _, rfl, rfl, rfl, fun H Q k => ⟨i, j, rfl, rfl, hj, k _ fun _ _ _ => .int _⟩⟩
    · cases e
  · cases e
theorem og_add : OpR X (binaryOp .Add) (rG2 X.K addD) := by
  intro pins s σ H x y v u Q I rx ry ⟨Fb, m, dx, dy, d, fr, vx, vy, e, k⟩
  unfold addD at e
  split at e
  · rename_i i j
    cases e
    cases vx.asI; cases vy.asI
    exact op_add pins s σ H _ _ v u Q I rx ry ⟨i, j, rfl, rfl, k H _ (Same.refl H) (.int _)⟩
  · rename_i i j
    split at e
    · rename_i hl
      cases e
      cases vx.asS; cases vy.asS
      exact op_add_str pins s σ H _ _ v u Q I rx ry ⟨i, j, rfl, rfl, hl, k H _ (Same.refl H) (.str _)⟩
    · cases e
  · rename_i xs ys
    split at e
    · rename_i hl
      cases e
      obtain ⟨a, vs, rfl, h1, z1, q1⟩ := vx.asT
      obtain ⟨b, ws, rfl, h2, z2, q2⟩ := vy.asT
      refine op_catA pins s σ H _ _ v u Q I rx ry ⟨a, b, vs, ws, rfl, rfl, h1, h2, by rw [q1.length, q2.length]; exact hl, ?_, ?_, ?_⟩
      · rintro rfl
        cases q1
        exact k H _ (Same.refl H) (.tup h2 z2 q2)
      · intro _ e2
        subst e2
        cases q2
        exact k H _ (Same.refl H) (by simpa using Rep.tup h1 z1 q1)
      · intro _ _ p hp
        exact k _ _ (same_upd hp) (.tup (.of upd_same) (by rw [List.length_append, q1.length, q2.length]; exact hl) ((q1.append q2).kp (kp_same (same_upd hp))))
    · cases e
  · rename_i xs ys
    split at e
    · rename_i hl
      cases e
      obtain ⟨a, vs, rfl, h1, z1, q1⟩ := vx.asL
      obtain ⟨b, ws, rfl, h2, z2, q2⟩ := vy.asL
      refine op_cat pins s σ H _ _ v u Q I rx ry ⟨a, b, vs, ws, rfl, rfl, h1, h2, by rw [q1.length, q2.length]; exact hl, fun p hp => ?_⟩
      exact k _ _ (same_upd hp) (.lst upd_same (fr p hp) (by rw [List.length_append, q1.length, q2.length]; exact hl) ((q1.append q2).kp (kp_same (same_upd hp))))
    · cases e
  · cases e
end
end DL
set_option Elab.async false
set_option linter.all false
set_option maxRecDepth 100000
set_option maxHeartbeats 4000000
namespace DL
open PySem PySem.Spec PyProof.Rows L2
theorem tuple_mul_same (l : Addr) (items : Array Value) (n : Nat) (dd : Option Addr) (sl : Array (Option Value)) (x : Int) (u : Tok) (c0 : (decide (x < -(2 ^ 63)) || decide (x ≥ 2 ^ 63)) = false) (c1 : (items.isEmpty || x == 1) = true) :
    Meets (Builtin.«tuple.__mul__» ⟨[.ref l, .int x u], []⟩) (fun _ R s => s.heap.get? l = some { cls := .type "tuple", dict := dd, data := .seq items n, slots := sl } ∧
      R (.ok (.ret (Value.ref l))) s) :=
  .of_wp fun prog w A R s h => by
    obtain ⟨hp, g, d, tk, os⟩ := s
    obtain ⟨hl, h⟩ := h
    have f1 := AutoSeq1.idx_int
    wp_walk using wpAny_loadPart' hl
    repeat (first
      | (refine wpAny_ite_false (decide_eq_false (by rw [c0]; exact Bool.false_ne_true)) ?_; wp_walk using wpAny_loadPart' hl)
      | (refine wpAny_ite_true (decide_eq_true c1) ?_; wp_walk using wpAny_loadPart' hl))
    first
      | exact ⟨_, rfl, h⟩
      | exact h
theorem tuple_mul_none (l : Addr) (items : Array Value) (n : Nat) (dd : Option Addr) (sl : Array (Option Value)) (x : Int) (u : Tok) (c0 : (decide (x < -(2 ^ 63)) || decide (x ≥ 2 ^ 63)) = false) (c1 : (items.isEmpty || x == 1) = false) (c2 : (decide (x ≤ 0) || items.isEmpty) = true) :
    Meets (Builtin.«tuple.__mul__» ⟨[.ref l, .int x u], []⟩) (fun _ R s => s.heap.get? l = some { cls := .type "tuple", dict := dd, data := .seq items n, slots := sl } ∧
      R (.ok (.ret (Value.ref s.heap.objs.size))) { s with heap := s.heap.push { cls := Value.type "tuple", data := Data.seq #[] }, toks := s.toks }) :=
  .of_wp fun prog w A R s h => by
    obtain ⟨hp, g, d, tk, os⟩ := s
    obtain ⟨hl, h⟩ := h
    have f1 := AutoSeq1.idx_int
    wp_walk using wpAny_loadPart' hl
    repeat (first
      | (refine wpAny_ite_false (decide_eq_false (by rw [c0]; exact Bool.false_ne_true)) ?_; wp_walk using wpAny_loadPart' hl)
      | (refine wpAny_ite_false (decide_eq_false (by rw [c1]; exact Bool.false_ne_true)) ?_; wp_walk using wpAny_loadPart' hl)
      | (refine wpAny_ite_true (decide_eq_true c2) ?_; wp_walk using wpAny_loadPart' hl))
    first
      | exact ⟨_, rfl, h⟩
      | exact h
section
variable {X : Cx}
def rRepA (K : PySem.W.Frag) : R2 := fun x y H Q => ∃ l k xs, x = .ref l ∧ y = .int k ∧ SqT K H l xs ∧ k ≤ 1000000 ∧ -1000000 ≤ k ∧ xs.length * k.toNat ≤ sizeLine ∧
  (xs = [] ∨ k = 1 → Q (.ref l) H) ∧ (∀ p, H p = none → Q (.ref p) (upd H p (.tup (List.replicate k.toNat xs).flatten)))
theorem op_repA : OpR X (binaryOp .Mult) (rRepA X.K) := by
  intro pins s σ H x y v u Q I rx ry h
  obtain ⟨l, k, xs, rfl, rfl, hT, h1, h2, hz, q1, q⟩ := h
  cases rx
  obtain ⟨t, rfl⟩ := ry
  obtain ⟨its, r, ⟨⟨cls, dd, data, sl⟩, ho, hc, n, hd⟩, hs⟩ := I.tuple hT
  simp only at hc hd
  subst hc hd
  have hle : its.length = xs.length := r.length.symm
  have hsz0 : its.toArray.size = xs.length := by rw [List.size_toArray, hle]
  have c0 : (decide (k < -(2 ^ 63)) || decide (k ≥ 2 ^ 63)) = false := by
    rw [decide_eq_false (by omega), decide_eq_false (by omega)] <;> rfl
  by_cases c1 : (its.toArray.isEmpty || k == 1) = true
  · refine wpAny_binaryOp_repeat_ref (T := "tuple") (U := "int") (by decide) ⟨_, ho, rfl⟩ (fun s' => typeIs_int s' k t) noFill_tuple_mul F.fills_int_mul F.slot_int_rmul repeat_tuple F.slot_int_index.lookup
      (call_meets F.slot_int_rmul (typeIs_int s k t) F.entry_int_rmul (F.args_int_rmul_2 _ _) (int_rmul_tuple k t l its.toArray n dd sl)
        ⟨ho, rfl, ⟨_, ho, rfl⟩, call_meets F.slot_tuple_mul ⟨_, ho, rfl⟩ F.entry_tuple_mul (F.args_tuple_mul_2 _ _) (tuple_mul_same l its.toArray n dd sl k t c0 c1) ⟨ho, ?_⟩⟩)
    refine ⟨.ref l, H, I, rfl, q1 ?_⟩
    rcases Bool.or_eq_true_iff.mp c1 with z | z
    · left
      have : its = [] := by cases its with
        | nil => rfl
        | cons a b => simp at z
      rw [this] at hle
      exact List.eq_nil_of_length_eq_zero hle.symm
    · right
      exact beq_iff_eq.mp z
  · have c1' : (its.toArray.isEmpty || k == 1) = false := by simpa using c1
    by_cases c2 : (decide (k ≤ 0) || its.toArray.isEmpty) = true
    · refine wpAny_binaryOp_repeat_ref (T := "tuple") (U := "int") (by decide) ⟨_, ho, rfl⟩ (fun s' => typeIs_int s' k t) noFill_tuple_mul F.fills_int_mul F.slot_int_rmul repeat_tuple F.slot_int_index.lookup
        (call_meets F.slot_int_rmul (typeIs_int s k t) F.entry_int_rmul (F.args_int_rmul_2 _ _) (int_rmul_tuple k t l its.toArray n dd sl)
          ⟨ho, rfl, ⟨_, ho, rfl⟩, call_meets F.slot_tuple_mul ⟨_, ho, rfl⟩ F.entry_tuple_mul (F.args_tuple_mul_2 _ _) (tuple_mul_none l its.toArray n dd sl k t c0 c1' c2) ⟨ho, ?_⟩⟩)
      have hk : k ≤ 0 := by
        rcases Bool.or_eq_true_iff.mp c2 with z | z
        · exact of_decide_eq_true z
        · rw [z] at c1'; simp at c1'
      have e0 : k.toNat = 0 := by omega
      have q' := q s.heap.objs.size (I.hok.fresh (Nat.le_refl _))
      rw [e0] at q'
      refine ⟨.ref s.heap.objs.size, _, I.laid (t' := s.toks) (o := .tup []) (fun b ob q => Heap.get?_push_of_some _ q) (Nat.le_refl _) ?_, rfl, q'⟩
      exact ⟨by simp, _, .nil, IsTup.new _ _⟩
    · have c2' : (decide (k ≤ 0) || its.toArray.isEmpty) = false := by simpa using c2
      have hk : 0 < k := by
        have := (Bool.or_eq_false_iff.mp c2').1
        simpa using this
      have hm : ((its.toArray.size : Nat) : Int) * k ≤ sizeLine := by
        rw [hsz0]
        have e : k = ((k.toNat : Nat) : Int) := by omega
        rw [e, ← Int.natCast_mul]
        exact Int.ofNat_le.mpr hz
      rw [sizeLine_eq] at hm
      have flen : (List.replicate k.toNat its).flatten.length ≤ sizeLine := by
        rw [PyProof.Rows.lm_len_rep_flat, hle, Nat.mul_comm]
        exact hz
      have c4 : Builtin.Tuple.tupleTooMany (((its.toArray.size : Nat) : Int) * k) = false := by
        unfold Builtin.Tuple.tupleTooMany
        rw [sizeLine_eq]
        exact decide_eq_false (by omega)
      refine wpAny_binaryOp_repeat_ref (T := "tuple") (U := "int") (by decide) ⟨_, ho, rfl⟩ (fun s' => typeIs_int s' k t) noFill_tuple_mul F.fills_int_mul F.slot_int_rmul repeat_tuple F.slot_int_index.lookup
        (call_meets F.slot_int_rmul (typeIs_int s k t) F.entry_int_rmul (F.args_int_rmul_2 _ _) (int_rmul_tuple k t l its.toArray n dd sl)
          ⟨ho, rfl, ⟨_, ho, rfl⟩, call_meets F.slot_tuple_mul ⟨_, ho, rfl⟩ F.entry_tuple_mul (F.args_tuple_mul_2 _ _) (tuple_mulW l its.toArray n dd sl k t c0 c1' c2' (by omega) c4 (by rw [size_rep, List.size_toArray]; exact flen)) ⟨ho, ?_⟩⟩)
      rw [size_rep]
      refine ⟨.ref s.heap.objs.size, _, I.laid (t' := s.toks) (o := .tup (List.replicate k.toNat xs).flatten) (fun b ob q => Heap.get?_push_of_some _ q) (Nat.le_refl _) ?_, rfl, q _ (I.hok.fresh (Nat.le_refl _))⟩
      exact ⟨by rw [PyProof.Rows.lm_len_rep_flat, Nat.mul_comm]; exact hz, _, r.rep k.toNat, IsTup.new _ _⟩
theorem flat_rep_one {α : Type} (xs : List α) : (List.replicate 1 xs).flatten = xs := by simp
theorem og_mul : OpR X (binaryOp .Mult) (rG2 X.K mulD) := by
  intro pins s σ H x y v u Q I rx ry ⟨Fb, m, dx, dy, d, fr, vx, vy, e, k⟩
  unfold mulD at e
  split at e
  · rename_i i j
    split at e
    · rename_i hc
      cases e
      cases vx.asI; cases vy.asI
      exact op_mul pins s σ H _ _ v u Q I rx ry ⟨i, j, rfl, rfl, hc, k H _ (Same.refl H) (.int _)⟩
    · cases e
  · rename_i xs n
    split at e
    · rename_i hl
      cases e
      obtain ⟨a, vs, rfl, h1, z1, q1⟩ := vx.asT
      cases vy.asI
      refine op_repA pins s σ H _ _ v u Q I rx ry ⟨a, n, vs, rfl, rfl, h1, hl.1, hl.2.1, by rw [q1.length]; exact hl.2.2, ?_, fun p hp => ?_⟩
      · intro z
        refine k H _ (Same.refl H) ?_
        rcases z with z | z
        · subst z
          cases q1
          have e0 : (List.replicate n.toNat ([] : List D)).flatten = [] := by simp
          rw [e0]
          exact .tup h1 z1 .nil
        · subst z
          rw [show (1 : Int).toNat = 1 from rfl, flat_rep_one]
          exact .tup h1 z1 q1
      · exact k _ _ (same_upd hp) (.tup (.of upd_same) (by rw [PyProof.Rows.lm_len_rep_flat, Nat.mul_comm, q1.length]; exact hl.2.2) ((q1.rep _).kp (kp_same (same_upd hp))))
    · cases e
  · rename_i xs n
    split at e
    · rename_i hl
      cases e
      obtain ⟨a, vs, rfl, h1, z1, q1⟩ := vx.asL
      cases vy.asI
      refine op_rep pins s σ H _ _ v u Q I rx ry ⟨a, n, vs, rfl, rfl, h1, by omega, by omega, by rw [q1.length]; exact hl.2.2, fun p hp => ?_⟩
      exact k _ _ (same_upd hp) (.lst upd_same (fr p hp) (by rw [PyProof.Rows.lm_len_rep_flat, Nat.mul_comm, q1.length]; exact hl.2.2) ((q1.rep _).kp (kp_same (same_upd hp))))
    · cases e
  · cases e
end
end DL
set_option Elab.async false
set_option linter.all false
set_option maxRecDepth 100000
set_option maxHeartbeats 4000000
namespace DL
open PySem PySem.Spec PyProof.Rows L2
def evL : List Ex → Ev → Sto → R (List D)
  | [], _, S => .ok [] S
  | f :: fs, ρ, S => (f ρ S).bind fun d S => (evL fs ρ S).bind fun ds S => .ok (d :: ds) S
section
variable (K : PySem.W.Frag) (mg : Str → Option Value) (W : WX)
def finA (B : Addr → Prop) (m : List Addr) (S : Sto) (σ : L2.St) (H : Hp) (r : R (List D)) (Q : List V → Hp → Prop) : Prop := match r with
  | .ok ds S' => ∀ m' H' vs, Post K mg B m S H m' S' H' → RepA K H' (Fo B m' S') m' vs ds → Q vs H'
  | .exc c p S' => ∀ m' H' cls dd, Post K mg B m S H m' S' H' → XcR K mg H' (Fo B m' S') m' c p cls dd → W cls dd σ H'
  | .bad => False
def upA (f : Ev → Sto → R (List D)) : TA := fun σ H Q => ∃ B m ρ S, Rl K mg B m H S ∧ RepE K H (Fo B m S) m σ ρ ∧ finA K mg W B m S σ H (f ρ S) Q
end
section
variable {K : PySem.W.Frag} {mg : Str → Option Value} {W : WX} {B : Addr → Prop} {m m' m1 : List Addr} {S S' S1 : Sto} {H H' H1 : Hp} {σ : L2.St} {ρ : Ev}
theorem finA.later (p : Post K mg B m S H m1 S1 H1) {r : R (List D)} {Q : List V → Hp → Prop} (h : finA K mg W B m S σ H r Q) : finA K mg W B m1 S1 σ H1 r Q := by
  cases r with
  | ok d S' => exact fun m' H' v q => h m' H' v (p.trans q)
  | exc c p' S' => exact fun m' H' cls dd q => h m' H' cls dd (p.trans q)
  | bad => exact h
theorem finA.mono {r : R (List D)} {Q Q' : List V → Hp → Prop} (h : finA K mg W B m S σ H r Q) (k : ∀ v H, Q v H → Q' v H) : finA K mg W B m S σ H r Q' := by
  cases r with
  | ok d S' => exact fun m' H' v p r => k _ _ (h m' H' v p r)
  | exc c p' S' => exact h
  | bad => exact h
theorem fin.bindA {r : R D} {g : D → Sto → R (List D)} {Q : List V → Hp → Prop} (h : finA K mg W B m S σ H (r.bind g) Q) :
    fin K mg W B m S σ H r (fun v H1 => ∃ m1 S1 d, Post K mg B m S H m1 S1 H1 ∧ Rep K H1 (Fo B m1 S1) m1 v d ∧ finA K mg W B m1 S1 σ H1 (g d S1) Q) := by
  cases r with
  | ok d S' => exact fun m' H' v p r => ⟨m', S', d, p, r, finA.later p h⟩
  | exc c p' S' => exact h
  | bad => exact h
theorem finA.bindA {r : R (List D)} {g : List D → Sto → R (List D)} {Q : List V → Hp → Prop} (h : finA K mg W B m S σ H (r.bind g) Q) :
    finA K mg W B m S σ H r (fun v H1 => ∃ m1 S1 d, Post K mg B m S H m1 S1 H1 ∧ RepA K H1 (Fo B m1 S1) m1 v d ∧ finA K mg W B m1 S1 σ H1 (g d S1) Q) := by
  cases r with
  | ok d S' => exact fun m' H' v p r => ⟨m', S', d, p, r, finA.later p h⟩
  | exc c p' S' => exact h
  | bad => exact h
theorem finA.bind {r : R (List D)} {g : List D → Sto → R D} {Q : VK} (h : fin K mg W B m S σ H (r.bind g) Q) :
    finA K mg W B m S σ H r (fun v H1 => ∃ m1 S1 d, Post K mg B m S H m1 S1 H1 ∧ RepA K H1 (Fo B m1 S1) m1 v d ∧ fin K mg W B m1 S1 σ H1 (g d S1) Q) := by
  cases r with
  | ok d S' => exact fun m' H' v p r => ⟨m', S', d, p, r, fin.later p h⟩
  | exc c p' S' => exact h
  | bad => exact h
theorem upA_nil {Q : List V → Hp → Prop} (h : upA K mg W (evL []) σ H Q) : tNil σ H Q := by
  obtain ⟨B, m, ρ, S, r, re, f⟩ := h
  exact f m H [] (Post.refl r) .nil
theorem upA_cons {fa : Ex} {fs : List Ex} {Q : List V → Hp → Prop} (h : upA K mg W (evL (fa :: fs)) σ H Q) : tCons (up K mg W fa) (upA K mg W (evL fs)) σ H Q := by
  obtain ⟨B, m, ρ, S, r, re, f⟩ := h
  refine ⟨B, m, ρ, S, r, re, fin.mono (fin.bindA f) fun v H1 => ?_⟩
  rintro ⟨m1, S1, d, p, q, f1⟩
  refine ⟨B, m1, ρ, S1, p.rl, re.kp (p.kp r), finA.mono (finA.bindA f1) fun vs H2 => ?_⟩
  rintro ⟨m2, S2, ds, p2, q2, f2⟩
  exact f2 m2 H2 (v :: vs) (Post.refl p2.rl) (.cons (q.kp (p2.kp p.rl)) q2)
theorem upA_one {f : Ev → Sto → R (List D)} {g : List D → Ev → Sto → R D} {Q : VK} (h : up K mg W (fun ρ S => (f ρ S).bind fun x S => g x ρ S) σ H Q) :
    upA K mg W f σ H fun xs H1 => ∃ B m ρ S ds, Rl K mg B m H1 S ∧ RepE K H1 (Fo B m S) m σ ρ ∧ RepA K H1 (Fo B m S) m xs ds ∧ fin K mg W B m S σ H1 (g ds ρ S) Q := by
  obtain ⟨B, m, ρ, S, r, re, f⟩ := h
  refine ⟨B, m, ρ, S, r, re, finA.mono (finA.bind f) fun v H1 => ?_⟩
  rintro ⟨m1, S1, d, p, q, f1⟩
  exact ⟨B, m1, ρ, S1, d, p.rl, re.kp (p.kp r), q, f1⟩
end
def EVA (X : Cx) (W : WX) (es : List Expr) (fs : List Ex) : Prop := PA X es (upA X.K X.mg W (evL fs))
theorem pa_imp {X : Cx} {es : List Expr} {t t' : TA} (h : PA X es t) (k : ∀ σ H Q, t' σ H Q → t σ H Q) : PA X es t' := ⟨fun pos pins s σ H Q I q => h.run pos pins s σ H Q I (k σ H Q q)⟩
section
variable {X : Cx} {W : WX} {e : Expr} {es : List Expr} {fa : Ex} {fs : List Ex} {pos : Pos}
theorem ea_nil : EVA X W [] [] := pa_imp pa_nil fun σ H Q h => upA_nil h
theorem ea_cons (ha : EV X W e fa) (hr : EVA X W es fs) (hs : starEach (e :: es) X.env = (false, eval e X.env) :: starEach es X.env := by rfl) : EVA X W (e :: es) (fa :: fs) := pa_imp (pa_cons ha hr hs) fun σ H Q h => upA_cons h
end
def eTup (fs : List Ex) : Ex := fun ρ S => (evL fs ρ S).bind fun ds S => if ds.length ≤ sizeLine then .ok (.tup ds) S else .bad
def eLst (fs : List Ex) : Ex := fun ρ S => (evL fs ρ S).bind fun ds S => if ds.length ≤ sizeLine then .ok (.lst ds) S else .bad
/-- a list that will be written: a new object -/
def eLstM (fs : List Ex) : Ex := fun ρ S => (evL fs ρ S).bind fun ds S => if ds.length ≤ sizeLine then .ok (.ref S.length) (S ++ [some (.lst ds)]) else .bad
section
variable {K : PySem.W.Frag} {mg : Str → Option Value} {B : Addr → Prop} {m : List Addr} {S : Sto} {H : Hp}
theorem liv_app {m : List Addr} {S : Sto} {p : Addr} {x : Option Ob} (hl : m.length = S.length) {a : Addr} (h : Liv (m ++ [p]) (S ++ [x]) a) : Liv m S a ∨ (a = p ∧ ∃ o, x = some o) := by
  obtain ⟨n, o, e1, e2⟩ := h
  by_cases hn : n < m.length
  · rw [List.getElem?_append_left hn] at e1
    rw [List.getElem?_append_left (by omega)] at e2
    exact .inl ⟨n, o, e1, e2⟩
  · rw [List.getElem?_append_right (by omega)] at e1
    rw [List.getElem?_append_right (by omega)] at e2
    have hz : n - m.length = 0 := by
      have := (List.getElem?_eq_some_iff.mp e1).1
      simp at this
      omega
    rw [hz] at e1
    rw [show n - S.length = 0 by omega] at e2
    simp at e1 e2
    exact .inr ⟨e1.symm, o, e2⟩
/-- a new object of ours -/
theorem kp_new (r : Rl K mg B m H S) {p : Addr} (hp : H p = none) {ho : HO} {o : Ob} : Kp H (upd H p ho) (Fo B m S) (Fo B (m ++ [p]) (S ++ [some o])) m (m ++ [p]) := by
  have s := same_upd (o := ho) hp
  refine ⟨fun a xs h _ => s _ _ h, fun a u h _ => h.elim (fun h => .inl (s _ _ h)) fun ⟨o, h⟩ => .inr ⟨o, s _ _ h⟩, fun a o _ h => s _ _ h, fun a u h f z => ?_, fun n a h => ?_⟩
  · rcases z with z | z
    · exact f (.inl z)
    · rcases liv_app r.len z with z | ⟨z, _⟩
      · exact f (.inr z)
      · obtain ⟨o, e⟩ := rd_some h
        rw [z, hp] at e; cases e
  · rw [List.getElem?_append_left (List.getElem?_eq_some_iff.mp h).1]; exact h
theorem Post.new (r : Rl K mg B m H S) {p : Addr} (hp : H p = none) {ho : HO} {o : Ob} (no : ObR K mg (upd H p ho) (Fo B (m ++ [p]) (S ++ [some o])) (m ++ [p]) p o) : Post K mg B m S H (m ++ [p]) (S ++ [some o]) (upd H p ho) := by
  have s := same_upd (o := ho) hp
  have sm : ∀ a, H a ≠ none → upd H p ho a ≠ none := fun a h => by
    cases e : H a with
    | none => exact absurd e h
    | some o => rw [s _ _ e]; simp
  have kp := kp_new (ho := ho) (o := o) r hp
  refine ⟨⟨[p], rfl, fun a h => by simp at h; rw [h]; exact hp⟩, fun a u h _ => s _ _ h, sm, ⟨by simp [r.len], ?_, fun a h => ?_, fun a h => sm a (r.bt a h), fun a h => ?_, fun n a u e1 e2 => ?_⟩, fun a h => ?_⟩
  · refine List.nodup_append.mpr ⟨r.nod, by simp, fun a h1 b h2 e => ?_⟩
    simp at h2
    subst h2
    subst e
    exact r.mt _ h1 hp
  · intro z
    rcases liv_app r.len h with h | ⟨h, _⟩
    · exact r.nb a h z
    · exact r.bt a z (h ▸ hp)
  · rcases List.mem_append.mp h with h | h
    · exact sm a (r.mt a h)
    · simp at h
      subst h
      rw [upd_same]; simp
  · by_cases hn : n < m.length
    · rw [List.getElem?_append_left hn] at e1
      rw [List.getElem?_append_left (by rw [← r.len]; exact hn)] at e2
      cases r.obj n a u e1 e2 with
      | lst h z q => exact .lst (s _ _ h) z (q.kp kp)
      | dK h z e q => exact .dK (s _ _ h) z e (q.kp kp)
      | dT h z e q => exact .dT (s _ _ h) z e (q.kp kp)
      | ins g h e q => exact .ins g (s _ _ h) e (q.kp kp)
    · rw [List.getElem?_append_right (by omega)] at e1
      have hl := r.len
      rw [List.getElem?_append_right (by omega)] at e2
      have hz : n - m.length = 0 := by
        have := (List.getElem?_eq_some_iff.mp e1).1
        simp at this
        omega
      rw [hz] at e1
      rw [show n - S.length = 0 by omega] at e2
      simp at e1 e2
      subst e1 e2
      exact no
  · rcases liv_app r.len h with h | ⟨h, _⟩
    · exact .inl h
    · right; rw [h]; exact hp
theorem rep_new (r : Rl K mg B m H S) {p : Addr} {H' : Hp} {Fb : Addr → Prop} : Rep K H' Fb (m ++ [p]) (.ref p) (.ref S.length) := .ref (by rw [List.getElem?_append_right (by rw [r.len]; exact Nat.le_refl _), r.len]; simp)
end
section
variable {X : Cx} {W : WX} {es : List Expr} {fs : List Ex} {pos : Pos}
theorem ev_tup {k : Nat} (h : EVA X W es fs) : EV X W (.Tuple es k pos) (eTup fs) := by
  refine pe_imp (pe_tup h) fun σ H Q h => ?_
  obtain ⟨B, m, ρ, S, r, re, f⟩ := upA_one (g := fun ds ρ S => if ds.length ≤ sizeLine then .ok (.tup ds) S else .bad) h
  refine ⟨B, m, ρ, S, r, re, finA.mono f fun vs H1 => ?_⟩
  rintro ⟨B, m, ρ, S, ds, r, re, q, f⟩
  split at f
  · rename_i hl
    refine ⟨by rw [q.length]; exact hl, fun p hp => f.ok r (same_upd hp) (.tup (.of upd_same) (by rw [q.length]; exact hl) (q.kp (kp_same (same_upd hp))))⟩
  · exact f.elim
theorem ev_lst (h : EVA X W es fs) : EV X W (.List es pos) (eLst fs) := by
  refine pe_imp (pe_lst h) fun σ H Q h => ?_
  obtain ⟨B, m, ρ, S, r, re, f⟩ := upA_one (g := fun ds ρ S => if ds.length ≤ sizeLine then .ok (.lst ds) S else .bad) h
  refine ⟨B, m, ρ, S, r, re, finA.mono f fun vs H1 => ?_⟩
  rintro ⟨B, m, ρ, S, ds, r, re, q, f⟩
  split at f
  · rename_i hl
    refine ⟨by rw [q.length]; exact hl, fun p hp => f.ok r (same_upd hp) (.lst upd_same (fr_of r p hp) (by rw [q.length]; exact hl) (q.kp (kp_same (same_upd hp))))⟩
  · exact f.elim
theorem ev_lstM (h : EVA X W es fs) : EV X W (.List es pos) (eLstM fs) := by
  refine pe_imp (pe_lst h) fun σ H Q h => ?_
  obtain ⟨B, m, ρ, S, r, re, f⟩ := upA_one (g := fun ds ρ S => if ds.length ≤ sizeLine then .ok (.ref S.length) (S ++ [some (.lst ds)]) else .bad) h
  refine ⟨B, m, ρ, S, r, re, finA.mono f fun vs H1 => ?_⟩
  rintro ⟨B, m, ρ, S, ds, r, re, q, f⟩
  split at f
  · rename_i hl
    refine ⟨by rw [q.length]; exact hl, fun p hp => f (m ++ [p]) _ _ (Post.new r hp (.lst upd_same (by rw [q.length]; exact hl) (q.kp (kp_new r hp)))) (rep_new r)⟩
  · exact f.elim
end
inductive VwA (K : PySem.W.Frag) (H : Hp) (Fb : Addr → Prop) (m : List Addr) : List V → List D → Prop
  | nil : VwA K H Fb m [] []
  | cons {v : V} {vs : List V} {d : D} {ds : List D} : Vw K H Fb m v d → VwA K H Fb m vs ds → VwA K H Fb m (v :: vs) (d :: ds)
theorem vwA {K : PySem.W.Frag} {mg : Str → Option Value} {B : Addr → Prop} {m : List Addr} {S : Sto} {H : Hp} (r : Rl K mg B m H S) : ∀ {vs : List V} {ds : List D}, RepA K H (Fo B m S) m vs ds → VwA K H (Fo B m S) m vs (ds.map (view S))
  | _, _, .nil => .nil
  | _, _, .cons h t => .cons (vw r h) (vwA r t)
def eCall (g : List D → Option D) (fs : List Ex) : Ex := fun ρ S => (evL fs ρ S).bind fun ds S => ans S (g (ds.map (view S)))
def rGn (K : PySem.W.Frag) (g : List D → Option D) : List V → Hp → VK → Prop := fun xs H Q => ∃ Fb m ds d, (∀ p, H p = none → ¬ Fb p) ∧ VwA K H Fb m xs ds ∧ g ds = some d ∧ ∀ H' z, Same H H' → Rep K H' Fb m z d → Q z H'
theorem n_of {K : PySem.W.Frag} {mg : Str → Option Value} {W : WX} {σ : L2.St} {H : Hp} {Q : VK} {g : List D → Option D} {fs : List Ex} (h : up K mg W (eCall g fs) σ H Q) : upA K mg W (evL fs) σ H fun xs H1 => rGn K g xs H1 Q := by
  obtain ⟨B, m, ρ, S, r, re, f⟩ := upA_one (g := fun ds ρ S => ans S (g (ds.map (view S)))) h
  refine ⟨B, m, ρ, S, r, re, finA.mono f fun vs H1 => ?_⟩
  rintro ⟨B, m, ρ, S, ds, r, re, q, f⟩
  cases e : g (ds.map (view S)) with
  | none => rw [e] at f; exact f.elim
  | some d =>
    rw [e] at f
    exact ⟨_, m, _, d, fr_of r, vwA r q, e, fun H' z s q => f.ok r s q⟩
section
variable {X : Cx} {W : WX} {e : Expr} {es : List Expr} {fs : List Ex} {pos p : Pos} {x : Str}
theorem ev_callB {id : String} {g : List D → Option D} (hc : CallR X (.builtin id) (rGn X.K g)) (hg : Gl X x) (hm : X.mg x = none) (hv : bootBuiltins x = some (.builtin id)) (ha : EVA X W (e :: es) fs) (hn : x ≠ "__name__" := by decide) (hdb : (x == ("__debug__" : Str)) = false := by decide)
    (he : starEach (e :: es) X.env = (false, eval e X.env) :: starEach es X.env := by rfl) (hpl : (backTo pos (starEach es X.env)).any (·.1) = false := by rfl) : EV X W (.Call (.Name x p) (e :: es) [] pos) (eCall g fs) :=
  pe_imp (pe_callB hc hg hm hv ha hn hdb he hpl) fun σ H Q h => n_of h
theorem ev_callTy {T : String} {g : List D → Option D} (hc : CallR X (.type T) (rGn X.K g)) (hg : Gl X x) (hm : X.mg x = none) (hv : bootBuiltins x = some (.type T)) (ha : EVA X W (e :: es) fs) (hn : x ≠ "__name__" := by decide) (hdb : (x == ("__debug__" : Str)) = false := by decide)
    (he : starEach (e :: es) X.env = (false, eval e X.env) :: starEach es X.env := by rfl) (hpl : (backTo pos (starEach es X.env)).any (·.1) = false := by rfl) : EV X W (.Call (.Name x p) (e :: es) [] pos) (eCall g fs) :=
  pe_imp (pe_callTy hc hg hm hv ha hn hdb he hpl) fun σ H Q h => n_of h
end
end DL
set_option Elab.async false
set_option linter.all false
set_option maxRecDepth 100000
set_option maxHeartbeats 4000000
namespace DL
open PySem PySem.Spec PyProof.Rows L2
inductive Fl where
  | nx (ρ : Ev) | rt (d : D) | bk (ρ : Ev) | ct (ρ : Ev)
inductive RS where
  | fl (f : Fl) (S : Sto) | exc (c : Str) (p : D) (ρ : Ev) (S : Sto) | bad
abbrev Sx := Ev → Sto → RS
/-- an expression's answer, then a statement -/
def R.bindS {α : Type} (r : R α) (ρ : Ev) (g : α → Sto → RS) : RS := match r with
  | .ok a S => g a S
  | .exc c p S => .exc c p ρ S
  | .bad => .bad
section
variable (K : PySem.W.Frag) (mg : Str → Option Value) (W : WX)
def finS (B : Addr → Prop) (m : List Addr) (S : Sto) (H : Hp) (r : RS) (E : Ends) : Prop := match r with
  | .fl (.nx ρ') S' => ∀ m' H' σ', Post K mg B m S H m' S' H' → RepE K H' (Fo B m' S') m' σ' ρ' → E.nx σ' H'
  | .fl (.bk ρ') S' => ∀ m' H' σ', Post K mg B m S H m' S' H' → RepE K H' (Fo B m' S') m' σ' ρ' → E.bk σ' H'
  | .fl (.ct ρ') S' => ∀ m' H' σ', Post K mg B m S H m' S' H' → RepE K H' (Fo B m' S') m' σ' ρ' → E.ct σ' H'
  | .fl (.rt d) S' => ∀ m' H' v, Post K mg B m S H m' S' H' → Rep K H' (Fo B m' S') m' v d → E.rt v H'
  | .exc c p ρ' S' => ∀ m' H' σ' cls dd, Post K mg B m S H m' S' H' → RepE K H' (Fo B m' S') m' σ' ρ' → XcR K mg H' (Fo B m' S') m' c p cls dd → W cls dd σ' H'
  | .bad => False
def upS (f : Sx) : TS := fun E σ H => ∃ B m ρ S, Rl K mg B m H S ∧ RepE K H (Fo B m S) m σ ρ ∧ finS K mg W B m S H (f ρ S) E
end
section
variable {K : PySem.W.Frag} {mg : Str → Option Value} {W : WX} {B : Addr → Prop} {m m' m1 : List Addr} {S S' S1 : Sto} {H H' H1 : Hp} {σ : L2.St} {ρ : Ev} {E : Ends}
theorem finS.later (p : Post K mg B m S H m1 S1 H1) {r : RS} (h : finS K mg W B m S H r E) : finS K mg W B m1 S1 H1 r E := by
  cases r with
  | fl f S' => cases f with
    | nx ρ => exact fun m' H' σ' q => h m' H' σ' (p.trans q)
    | bk ρ => exact fun m' H' σ' q => h m' H' σ' (p.trans q)
    | ct ρ => exact fun m' H' σ' q => h m' H' σ' (p.trans q)
    | rt d => exact fun m' H' v q => h m' H' v (p.trans q)
  | exc c p' ρ S' => exact fun m' H' σ' cls dd q => h m' H' σ' cls dd (p.trans q)
  | bad => exact h
theorem fin.bindS {r : R D} {g : D → Sto → RS} (re : RepE K H (Fo B m S) m σ ρ) (rl : Rl K mg B m H S) (h : finS K mg W B m S H (r.bindS ρ g) E) :
    fin K mg W B m S σ H r (fun v H1 => ∃ m1 S1 d, Post K mg B m S H m1 S1 H1 ∧ Rep K H1 (Fo B m1 S1) m1 v d ∧ finS K mg W B m1 S1 H1 (g d S1) E) := by
  cases r with
  | ok d S' => exact fun m' H' v p r => ⟨m', S', d, p, r, finS.later p h⟩
  | exc c p' S' => exact fun m' H' cls dd p x => h m' H' σ cls dd p (re.kp (p.kp rl)) x
  | bad => exact h
/-- an expression, then a statement's rest -/
theorem upS_one {fa : Ex} {g : D → Ev → Sto → RS} (h : upS K mg W (fun ρ S => (fa ρ S).bindS ρ fun x S => g x ρ S) E σ H) :
    up K mg W fa σ H fun x H1 => ∃ B m ρ S dx, Rl K mg B m H1 S ∧ RepE K H1 (Fo B m S) m σ ρ ∧ Rep K H1 (Fo B m S) m x dx ∧ finS K mg W B m S H1 (g dx ρ S) E := by
  obtain ⟨B, m, ρ, S, r, re, f⟩ := h
  refine ⟨B, m, ρ, S, r, re, fin.mono (fin.bindS re r f) fun v H1 => ?_⟩
  rintro ⟨m1, S1, d, p, q, f1⟩
  exact ⟨B, m1, ρ, S1, d, p.rl, re.kp (p.kp r), q, f1⟩
end
def SV (X : Cx) (W : WX) (st : Stmt) (f : Sx) : Prop := PS X st (upS X.K X.mg W f)
def SVs (X : Cx) (W : WX) (st : List Stmt) (f : Sx) : Prop := PSs X st (upS X.K X.mg W f)
theorem ps_imp {X : Cx} {st : Stmt} {t t' : TS} (h : PS X st t) (k : ∀ E σ H, t' E σ H → t E σ H) : PS X st t' := ⟨fun pins s σ H E I q => h.run pins s σ H E I (k E σ H q)⟩
theorem pss_imp {X : Cx} {st : List Stmt} {t t' : TS} (h : PSs X st t) (k : ∀ E σ H, t' E σ H → t E σ H) : PSs X st t' := ⟨fun pins s σ H E I q => h.run pins s σ H E I (k E σ H q)⟩
def sSkip : Sx := fun ρ S => .fl (.nx ρ) S
def sSeq (a b : Sx) : Sx := fun ρ S => match a ρ S with
  | .fl (.nx ρ') S' => b ρ' S'
  | r => r
def sRet (e : Ex) : Sx := fun ρ S => (e ρ S).bindS ρ fun d S => .fl (.rt d) S
def sRetN : Sx := fun ρ S => .fl (.rt .non) S
def sExpr (e : Ex) : Sx := fun ρ S => (e ρ S).bindS ρ fun _ S => .fl (.nx ρ) S
def sAsg (i : Nat) (e : Ex) : Sx := fun ρ S => (e ρ S).bindS ρ fun d S => .fl (.nx (ρ.set i (some d))) S
def sBrk : Sx := fun ρ S => .fl (.bk ρ) S
def sCont : Sx := fun ρ S => .fl (.ct ρ) S
section
variable {X : Cx} {W : WX} {st : Stmt} {sts : List Stmt} {a b : Sx} {e : Expr} {fe : Ex} {pos : Pos}
theorem sv_nil : SVs X W [] sSkip := pss_imp pss_nil fun E σ H ⟨B, m, ρ, S, r, re, f⟩ => f m H σ (Post.refl r) re
theorem sv_cons (h1 : SV X W st a) (h2 : SVs X W sts b) : SVs X W (st :: sts) (sSeq a b) := by
  refine pss_imp (pss_cons h1 h2) fun E σ H h => ?_
  obtain ⟨B, m, ρ, S, r, re, f⟩ := h
  refine ⟨B, m, ρ, S, r, re, ?_⟩
  unfold sSeq at f
  cases e1 : a ρ S with
  | bad => rw [e1] at f; exact f
  | exc c p ρ' S' => rw [e1] at f; exact f
  | fl fl S' =>
    rw [e1] at f
    cases fl with
    | nx ρ' => exact fun m' H' σ' p q => ⟨B, m', ρ', S', p.rl, q, finS.later p f⟩
    | rt d => exact f
    | bk ρ' => exact f
    | ct ρ' => exact f
theorem sv_one (h1 : SV X W st a) : SVs X W [st] a := pss_one h1
theorem sv_ret (h : EV X W e fe) : SV X W (.Return (some e) pos) (sRet fe) := by
  refine ps_imp (ps_ret h) fun E σ H h => ?_
  obtain ⟨B, m, ρ, S, r, re, f⟩ := upS_one (g := fun d ρ S => .fl (.rt d) S) h
  refine ⟨B, m, ρ, S, r, re, f.mono fun x H1 => ?_⟩
  rintro ⟨B, m, ρ, S, dx, r, re, rx, f⟩
  exact f m H1 x (Post.refl r) rx
theorem sv_expr (h : EV X W e fe) (hs : swapsWith e none pos.line X.env = pure false := by rfl) : SV X W (.Expr e pos) (sExpr fe) := by
  refine ps_imp (ps_expr h hs) fun E σ H h => ?_
  obtain ⟨B, m, ρ, S, r, re, f⟩ := upS_one (g := fun d ρ S => .fl (.nx ρ) S) h
  refine ⟨B, m, ρ, S, r, re, f.mono fun x H1 => ?_⟩
  rintro ⟨B, m, ρ, S, dx, r, re, rx, f⟩
  exact f m H1 σ (Post.refl r) re
theorem sv_asg {i : Nat} {x : Str} {pos' : Pos} (hN : X.N.Nodup) (hi : X.N[i]? = some x) (hx : Loc X.env.scope x) (h : EV X W e fe) (hs : swapsWith e (some (.Name x pos')) pos.line X.env = pure false := by rfl) (hf : X.fn x = true ∨ X.env.scope.names.lookup x = some .local := by first | exact .inl rfl | exact .inr rfl | assumption) :
    SV X W (.Assign [.Name x pos'] e pos) (sAsg i fe) := by
  refine ps_imp (ps_set hN hi hx h hs hf) fun E σ H h => ?_
  obtain ⟨B, m, ρ, S, r, re, f⟩ := upS_one (g := fun d ρ S => .fl (.nx (ρ.set i (some d))) S) h
  refine ⟨B, m, ρ, S, r, re, f.mono fun x H1 => ?_⟩
  rintro ⟨B, m, ρ, S, dx, r, re, rx, f⟩
  exact f m H1 _ (Post.refl r) (re.set rx)
end
abbrev Tx := Ev → Sto → R Bool
def tVal (e : Ex) : Tx := fun ρ S => (e ρ S).bind fun d S => match d with
  | .bl b => .ok b S
  | _ => .bad
def tNotX (t : Tx) : Tx := fun ρ S => (t ρ S).bind fun b S => .ok (!b) S
def tAndX (t u : Tx) : Tx := fun ρ S => (t ρ S).bind fun b S => if b = true then u ρ S else .ok false S
def tOrX (t u : Tx) : Tx := fun ρ S => (t ρ S).bind fun b S => if b = true then .ok true S else u ρ S
section
variable (K : PySem.W.Frag) (mg : Str → Option Value) (W : WX)
def finT (B : Addr → Prop) (m : List Addr) (S : Sto) (σ : L2.St) (H : Hp) (r : R Bool) (Q : Bool → Hp → Prop) : Prop := match r with
  | .ok b S' => ∀ m' H', Post K mg B m S H m' S' H' → Q b H'
  | .exc c p S' => ∀ m' H' cls dd, Post K mg B m S H m' S' H' → XcR K mg H' (Fo B m' S') m' c p cls dd → W cls dd σ H'
  | .bad => False
def upT (f : Tx) : TT := fun σ H Q => ∃ B m ρ S, Rl K mg B m H S ∧ RepE K H (Fo B m S) m σ ρ ∧ finT K mg W B m S σ H (f ρ S) Q
end
section
variable {K : PySem.W.Frag} {mg : Str → Option Value} {W : WX} {B : Addr → Prop} {m m' m1 : List Addr} {S S' S1 : Sto} {H H' H1 : Hp} {σ : L2.St} {ρ : Ev} {E : Ends}
theorem finT.later (p : Post K mg B m S H m1 S1 H1) {r : R Bool} {Q : Bool → Hp → Prop} (h : finT K mg W B m S σ H r Q) : finT K mg W B m1 S1 σ H1 r Q := by
  cases r with
  | ok d S' => exact fun m' H' q => h m' H' (p.trans q)
  | exc c p' S' => exact fun m' H' cls dd q => h m' H' cls dd (p.trans q)
  | bad => exact h
theorem finT.mono {r : R Bool} {Q Q' : Bool → Hp → Prop} (h : finT K mg W B m S σ H r Q) (k : ∀ v H, Q v H → Q' v H) : finT K mg W B m S σ H r Q' := by
  cases r with
  | ok d S' => exact fun m' H' p => k _ _ (h m' H' p)
  | exc c p' S' => exact h
  | bad => exact h
theorem fin.bindT {r : R D} {g : D → Sto → R Bool} {Q : Bool → Hp → Prop} (h : finT K mg W B m S σ H (r.bind g) Q) :
    fin K mg W B m S σ H r (fun v H1 => ∃ m1 S1 d, Post K mg B m S H m1 S1 H1 ∧ Rep K H1 (Fo B m1 S1) m1 v d ∧ finT K mg W B m1 S1 σ H1 (g d S1) Q) := by
  cases r with
  | ok d S' => exact fun m' H' v p r => ⟨m', S', d, p, r, finT.later p h⟩
  | exc c p' S' => exact h
  | bad => exact h
theorem finT.bindT {r : R Bool} {g : Bool → Sto → R Bool} {Q : Bool → Hp → Prop} (h : finT K mg W B m S σ H (r.bind g) Q) :
    finT K mg W B m S σ H r (fun b H1 => ∃ m1 S1, Post K mg B m S H m1 S1 H1 ∧ finT K mg W B m1 S1 σ H1 (g b S1) Q) := by
  cases r with
  | ok d S' => exact fun m' H' p => ⟨m', S', p, finT.later p h⟩
  | exc c p' S' => exact h
  | bad => exact h
theorem finT.bindS {r : R Bool} {g : Bool → Sto → RS} (re : RepE K H (Fo B m S) m σ ρ) (rl : Rl K mg B m H S) (h : finS K mg W B m S H (r.bindS ρ g) E) :
    finT K mg W B m S σ H r (fun b H1 => ∃ m1 S1, Post K mg B m S H m1 S1 H1 ∧ finS K mg W B m1 S1 H1 (g b S1) E) := by
  cases r with
  | ok d S' => exact fun m' H' p => ⟨m', S', p, finS.later p h⟩
  | exc c p' S' => exact fun m' H' cls dd p x => h m' H' σ cls dd p (re.kp (p.kp rl)) x
  | bad => exact h
theorem finT.bind {r : R Bool} {g : Bool → Sto → R D} {Q : VK} (h : fin K mg W B m S σ H (r.bind g) Q) :
    finT K mg W B m S σ H r (fun b H1 => ∃ m1 S1, Post K mg B m S H m1 S1 H1 ∧ fin K mg W B m1 S1 σ H1 (g b S1) Q) := by
  cases r with
  | ok d S' => exact fun m' H' p => ⟨m', S', p, fin.later p h⟩
  | exc c p' S' => exact h
  | bad => exact h
end
def TV (X : Cx) (W : WX) (e : Expr) (f : Tx) : Prop := PT X e (upT X.K X.mg W f)
def WV (X : Cx) (W : WX) (e : Expr) (f : Tx) : Prop := PW X e (upT X.K X.mg W f)
theorem pt_imp {X : Cx} {e : Expr} {t t' : TT} (h : PT X e t) (k : ∀ σ H Q, t' σ H Q → t σ H Q) : PT X e t' := ⟨fun pins s σ H Q I q => h.run pins s σ H Q I (k σ H Q q)⟩
theorem pw_imp {X : Cx} {e : Expr} {t t' : TT} (h : PW X e t) (k : ∀ σ H Q, t' σ H Q → t σ H Q) : PW X e t' := ⟨fun wh pins s σ H Q I q => h.run wh pins s σ H Q I (k σ H Q q)⟩
section
variable {X : Cx} {W : WX} {e e2 : Expr} {es : List Expr} {f : Ex} {t u : Tx} {pos : Pos}
theorem tval_of {K : PySem.W.Frag} {mg : Str → Option Value} {σ : L2.St} {H : Hp} {Q : Bool → Hp → Prop} (h : upT K mg W (tVal f) σ H Q) : up K mg W f σ H fun x H1 => ∃ c, x = .bl c ∧ Q c H1 := by
  obtain ⟨B, m, ρ, S, r, re, g⟩ := h
  refine ⟨B, m, ρ, S, r, re, fin.mono (fin.bindT g) fun v H1 => ?_⟩
  rintro ⟨m1, S1, d, p, q, g1⟩
  cases d with
  | bl b => cases q; exact ⟨b, rfl, g1 m1 H1 (Post.refl p.rl)⟩
  | _ => exact g1.elim
/-- an expression whose value is a truth -/
theorem tv_val (h : EV X W e f) (he : ∀ whole, isTrue e X.env whole = (do let v ← whole; standAt e.pos; holding [v] (truthy v)) := by intro _; rfl) : TV X W e (tVal f) := pt_imp (pt_val h he) fun σ H Q h => tval_of h
theorem tv_cmp {op : CmpOp} {a b : Expr} {fa fb : Ex} {g : D → D → Option D} (ho : OpR X (compareOp op) (rG2 X.K g)) (ha : EV X W a fa) (hb : EV X W b fb) (hm : behindInMarks op b = false) : TV X W (.Compare a [op] [b] pos) (tVal (eOp2 g fa fb)) := by
  refine pt_imp (pt_cmpR ho ha hb hm) fun σ H Q h => ?_
  obtain ⟨B, m, ρ, S, r, re, g⟩ := tval_of h
  exact two_of ⟨B, m, ρ, S, r, re, g⟩
theorem tv_not (h : TV X W e t) : TV X W (.UnaryOp .Not e pos) (tNotX t) := by
  refine pt_imp (pt_not h) fun σ H Q h => ?_
  obtain ⟨B, m, ρ, S, r, re, g⟩ := h
  refine ⟨B, m, ρ, S, r, re, finT.mono (finT.bindT g) fun b H1 => ?_⟩
  rintro ⟨m1, S1, p, g1⟩
  exact g1 m1 H1 (Post.refl p.rl)
theorem wv_and1 (h : TV X W e t) : WV X W (.BoolOp .And [e] pos) t := pw_and1 h
theorem wv_or1 (h : TV X W e t) : WV X W (.BoolOp .Or [e] pos) t := pw_or1 h
theorem wv_and (h : TV X W e t) (h2 : WV X W (.BoolOp .And (e2 :: es) pos) u) : WV X W (.BoolOp .And (e :: e2 :: es) pos) (tAndX t u) := by
  refine pw_imp (pw_and h h2) fun σ H Q h => ?_
  obtain ⟨B, m, ρ, S, r, re, g⟩ := h
  refine ⟨B, m, ρ, S, r, re, finT.mono (finT.bindT g) fun b H1 => ?_⟩
  rintro ⟨m1, S1, p, g1⟩
  cases b with
  | true =>
    rw [if_pos rfl] at g1 ⊢
    exact ⟨B, m1, ρ, S1, p.rl, re.kp (p.kp r), g1⟩
  | false =>
    rw [if_neg Bool.false_ne_true] at g1 ⊢
    exact g1 m1 H1 (Post.refl p.rl)
theorem wv_or (h : TV X W e t) (h2 : WV X W (.BoolOp .Or (e2 :: es) pos) u) : WV X W (.BoolOp .Or (e :: e2 :: es) pos) (tOrX t u) := by
  refine pw_imp (pw_or h h2) fun σ H Q h => ?_
  obtain ⟨B, m, ρ, S, r, re, g⟩ := h
  refine ⟨B, m, ρ, S, r, re, finT.mono (finT.bindT g) fun b H1 => ?_⟩
  rintro ⟨m1, S1, p, g1⟩
  cases b with
  | false =>
    rw [if_neg Bool.false_ne_true] at g1 ⊢
    exact ⟨B, m1, ρ, S1, p.rl, re.kp (p.kp r), g1⟩
  | true =>
    rw [if_pos rfl] at g1 ⊢
    exact g1 m1 H1 (Post.refl p.rl)
theorem tv_w (h : WV X W e t) : TV X W e t := PW.pt h
end
/-- a test as a value -/
def eAndX (a b : Ex) : Ex := fun ρ S => (a ρ S).bind fun d S => match d with
  | .bl true => b ρ S
  | .bl false => .ok (.bl false) S
  | _ => .bad
def eOrX (a b : Ex) : Ex := fun ρ S => (a ρ S).bind fun d S => match d with
  | .bl true => .ok (.bl true) S
  | .bl false => b ρ S
  | _ => .bad
def eNotX (a : Ex) : Ex := fun ρ S => (a ρ S).bind fun d S => match d with
  | .bl b => .ok (.bl (!b)) S
  | _ => .bad
def eIfX (t : Tx) (a b : Ex) : Ex := fun ρ S => (t ρ S).bind fun c S => if c = true then a ρ S else b ρ S
def sIf (t : Tx) (a b : Sx) : Sx := fun ρ S => (t ρ S).bindS ρ fun c S => if c = true then a ρ S else b ρ S
section
variable {X : Cx} {W : WX} {e e2 c : Expr} {es : List Expr} {f g : Ex} {t u : Tx} {pos : Pos} {op : BoolOp}
theorem ev_one (h : EV X W e f) : EV X W (.BoolOp op [e] pos) f := pe_one h
theorem ev_and (h : EV X W e f) (h2 : EV X W (.BoolOp .And (e2 :: es) pos) g) : EV X W (.BoolOp .And (e :: e2 :: es) pos) (eAndX f g) := by
  refine pe_imp (pe_and h h2) fun σ H Q h => ?_
  obtain ⟨B, m, ρ, S, r, re, k⟩ := h
  refine ⟨B, m, ρ, S, r, re, fin.mono (fin.bind k) fun v H1 => ?_⟩
  rintro ⟨m1, S1, d, p, q, g1⟩
  cases d with
  | bl b =>
    cases q
    refine ⟨b, rfl, ?_⟩
    cases b with
    | true => rw [if_pos rfl]; exact ⟨B, m1, ρ, S1, p.rl, re.kp (p.kp r), g1⟩
    | false => rw [if_neg Bool.false_ne_true]; exact g1 m1 H1 _ (Post.refl p.rl) (.bl false)
  | _ => exact g1.elim
theorem ev_not (h : EV X W e f) : EV X W (.UnaryOp .Not e pos) (eNotX f) := by
  refine pe_imp (pe_not h) fun σ H Q h => ?_
  obtain ⟨B, m, ρ, S, r, re, k⟩ := h
  refine ⟨B, m, ρ, S, r, re, fin.mono (fin.bind k) fun v H1 => ?_⟩
  rintro ⟨m1, S1, d, p, q, g1⟩
  cases d with
  | bl b => cases q; exact ⟨b, rfl, g1 m1 H1 _ (Post.refl p.rl) (.bl _)⟩
  | _ => exact g1.elim
theorem sv_if {a b : List Stmt} {sa sb : Sx} (hc : TV X W c t) (ha : SVs X W a sa) (hb : SVs X W b sb) : SV X W (.If c a b pos) (sIf t sa sb) := by
  refine ps_imp (ps_if hc ha hb) fun E σ H h => ?_
  obtain ⟨B, m, ρ, S, r, re, k⟩ := h
  refine ⟨B, m, ρ, S, r, re, finT.mono (finT.bindS re r k) fun b H1 => ?_⟩
  rintro ⟨m1, S1, p, g1⟩
  cases b with
  | true => rw [if_pos rfl] at g1 ⊢; exact ⟨B, m1, ρ, S1, p.rl, re.kp (p.kp r), g1⟩
  | false => rw [if_neg Bool.false_ne_true] at g1 ⊢; exact ⟨B, m1, ρ, S1, p.rl, re.kp (p.kp r), g1⟩
end
end DL
set_option Elab.async false
set_option linter.all false
set_option maxRecDepth 100000
set_option maxHeartbeats 4000000
namespace DL
open PySem PySem.Spec PyProof.Rows L2
def unK : D → Option Key
  | .int i => some (.inl i)
  | .str x => some (.inr x)
  | _ => none
theorem unK_keyD (k : Key) : unK (keyD k) = some k := by cases k <;> rfl
def valD (kvs : List (D × D)) (k : Key) : Option D := (kvs.find? fun p => decide (unK p.1 = some k)).map (·.2)
def putD (kvs : List (D × D)) (k : Key) (d : D) : List (D × D) :=
  if (kvs.any fun p => decide (unK p.1 = some k)) = true then kvs.map (fun p => if unK p.1 = some k then (p.1, d) else p) else kvs ++ [(keyD k, d)]
def dropD (kvs : List (D × D)) (k : Key) : List (D × D) := kvs.filter fun p => decide (unK p.1 ≠ some k)
inductive KR (K : PySem.W.Frag) (H : Hp) (Fb : Addr → Prop) (m : List Addr) : List (Key × V) → List (D × D) → Prop
  | nil : KR K H Fb m [] []
  | cons {k : Key} {v : V} {d : D} {kv : List (Key × V)} {kvs : List (D × D)} : Rep K H Fb m v d → KR K H Fb m kv kvs → KR K H Fb m ((k, v) :: kv) ((keyD k, d) :: kvs)
section
variable {K : PySem.W.Frag} {H H' : Hp} {Fb Fb' : Addr → Prop} {m m' : List Addr}
theorem kr_of : ∀ {kv : List (Key × V)} {kvs : List (D × D)}, kvs.map (·.1) = kv.map (fun p => keyD p.1) → RepA K H Fb m (kv.map (·.2)) (kvs.map (·.2)) → KR K H Fb m kv kvs
  | [], [], _, _ => .nil
  | [], _ :: _, e, _ => by simp at e
  | _ :: _, [], e, _ => by simp at e
  | (k, v) :: kv, (x, d) :: kvs, e, q => by
    simp only [List.map_cons, List.cons.injEq] at e
    obtain ⟨rfl, e⟩ := e
    cases q with
    | cons q1 q2 => exact .cons q1 (kr_of e q2)
theorem KR.keys {kv : List (Key × V)} {kvs : List (D × D)} (h : KR K H Fb m kv kvs) : kvs.map (·.1) = kv.map (fun p => keyD p.1) := by
  induction h with
  | nil => rfl
  | cons _ _ ih => simp [ih]
theorem KR.vals {kv : List (Key × V)} {kvs : List (D × D)} (h : KR K H Fb m kv kvs) : RepA K H Fb m (kv.map (·.2)) (kvs.map (·.2)) := by
  induction h with
  | nil => exact .nil
  | cons r _ ih => exact .cons r ih
theorem KR.length {kv : List (Key × V)} {kvs : List (D × D)} (h : KR K H Fb m kv kvs) : kv.length = kvs.length := by
  induction h with
  | nil => rfl
  | cons _ _ ih => simp [ih]
theorem KR.kp (k : Kp H H' Fb Fb' m m') {kv : List (Key × V)} {kvs : List (D × D)} (h : KR K H Fb m kv kvs) : KR K H' Fb' m' kv kvs := by
  induction h with
  | nil => exact .nil
  | cons r _ ih => exact .cons (r.kp k) ih
theorem KR.val {kv : List (Key × V)} {kvs : List (D × D)} (h : KR K H Fb m kv kvs) (k : Key) : (∃ v d, valV kv k = some v ∧ valD kvs k = some d ∧ Rep K H Fb m v d) ∨ (valV kv k = none ∧ valD kvs k = none) := by
  induction h with
  | nil => exact .inr ⟨rfl, rfl⟩
  | @cons j v d kv kvs r h ih =>
    by_cases e : j = k
    · refine .inl ⟨v, d, valV_pos e, ?_, r⟩
      simp [valD, List.find?_cons, unK_keyD, e]
    · have e1 : valD ((keyD j, d) :: kvs) k = valD kvs k := by simp [valD, List.find?_cons, unK_keyD, e]
      rw [valV_neg (p := (j, v)) e, e1]
      exact ih
theorem KR.some {kv : List (Key × V)} {kvs : List (D × D)} (h : KR K H Fb m kv kvs) {k : Key} {d : D} (e : valD kvs k = some d) : ∃ v, valV kv k = some v ∧ Rep K H Fb m v d := by
  rcases h.val k with ⟨v, d', e1, e2, r⟩ | ⟨_, e2⟩
  · rw [e] at e2; cases e2; exact ⟨v, e1, r⟩
  · rw [e] at e2; cases e2
theorem KR.none {kv : List (Key × V)} {kvs : List (D × D)} (h : KR K H Fb m kv kvs) {k : Key} (e : valD kvs k = none) : valV kv k = none := by
  rcases h.val k with ⟨v, d', e1, e2, r⟩ | ⟨e1, _⟩
  · rw [e] at e2; cases e2
  · exact e1
theorem KR.isSome {kv : List (Key × V)} {kvs : List (D × D)} (h : KR K H Fb m kv kvs) (k : Key) : (valV kv k).isSome = (valD kvs k).isSome := by
  rcases h.val k with ⟨v, d', e1, e2, r⟩ | ⟨e1, e2⟩ <;> rw [e1, e2] <;> rfl
theorem KR.any {kv : List (Key × V)} {kvs : List (D × D)} (h : KR K H Fb m kv kvs) (k : Key) : (kv.any fun p => decide (p.1 = k)) = (kvs.any fun p => decide (unK p.1 = .some k)) := by
  induction h with
  | nil => rfl
  | cons r h ih => simp [List.any_cons, unK_keyD, ih]
theorem KR.repl {kv : List (Key × V)} {kvs : List (D × D)} (h : KR K H Fb m kv kvs) (k : Key) {v : V} {d : D} (r : Rep K H Fb m v d) : KR K H Fb m (kv.map fun p => if p.1 = k then (p.1, v) else p) (kvs.map fun p => if unK p.1 = .some k then (p.1, d) else p) := by
  induction h with
  | nil => exact .nil
  | @cons j w e kv kvs rw h ih =>
    simp only [List.map_cons, unK_keyD, Option.some.injEq]
    by_cases ej : j = k
    · rw [if_pos ej, if_pos ej]; exact .cons r ih
    · rw [if_neg ej, if_neg ej]; exact .cons rw ih
theorem KR.snoc {kv : List (Key × V)} {kvs : List (D × D)} (h : KR K H Fb m kv kvs) (k : Key) {v : V} {d : D} (r : Rep K H Fb m v d) : KR K H Fb m (kv ++ [(k, v)]) (kvs ++ [(keyD k, d)]) := by
  induction h with
  | nil => exact .cons r .nil
  | cons rw h ih => exact .cons rw ih
theorem KR.put {kv : List (Key × V)} {kvs : List (D × D)} (h : KR K H Fb m kv kvs) (k : Key) {v : V} {d : D} (r : Rep K H Fb m v d) : KR K H Fb m (putK kv k v) (putD kvs k d) := by
  unfold putK putD
  rw [h.any k]
  split
  · exact h.repl k r
  · exact h.snoc k r
theorem KR.drop {kv : List (Key × V)} {kvs : List (D × D)} (h : KR K H Fb m kv kvs) (k : Key) : KR K H Fb m (dropK kv k) (dropD kvs k) := by
  unfold dropK dropD
  induction h with
  | nil => exact .nil
  | @cons j w e kv kvs rw h ih =>
    by_cases ej : j = k
    · simpa [List.filter_cons, unK_keyD, ej] using ih
    · simp only [List.filter_cons, unK_keyD, ej, Option.some.injEq, ne_eq, not_false_eq_true, decide_true, if_true]
      exact .cons rw ih
theorem Vw.asD {v : V} {kvs : List (D × D)} (h : Vw K H Fb m v (.dic false kvs)) : ∃ a kv, v = .ref a ∧ Rd H a (.dK kv) ∧ kv.length ≤ sizeLine ∧ KR K H Fb m kv kvs := by
  cases h with
  | dK h z e q => exact ⟨_, _, rfl, h, z, kr_of e q⟩
  | oth h => cases h with
    | dK h z e q => exact ⟨_, _, rfl, .inr h, z, kr_of e q⟩
theorem Vw.key {v : V} {d : D} {k : Key} (h : Vw K H Fb m v d) (e : unK d = .some k) : v = kV k := by
  cases d with
  | int i => cases e; cases h.asI; rfl
  | str x => cases e; cases h.asS; rfl
  | _ => simp [unK] at e
theorem Rep.key {v : V} {d : D} {k : Key} (h : Rep K H Fb m v d) (e : unK d = .some k) : v = kV k := Vw.key (.oth h) e
end
/-- what a dict tells of a key -/
def dgetD (x y : D) : Option D := match x with
  | .dic false kvs => (unK y).bind (valD kvs)
  | _ => none
def dhasD (x y : D) : Option Bool := match x with
  | .dic false kvs => (unK y).map fun k => (valD kvs k).isSome
  | _ => none
section
variable {K : PySem.W.Frag} {H : Hp} {Fb : Addr → Prop} {m : List Addr} {x y : V} {dx dy d : D}
theorem dget_ok (vx : Vw K H Fb m x dx) (vy : Vw K H Fb m y dy) (e : dgetD dx dy = some d) : ∃ a w, x = .ref a ∧ DGet H a y (some w) ∧ Rep K H Fb m w d := by
  unfold dgetD at e
  split at e
  · obtain ⟨k, e1, e2⟩ := Option.bind_eq_some_iff.mp e
    obtain ⟨a, kv, rfl, h1, z1, q1⟩ := vx.asD
    obtain ⟨w, e3, r⟩ := q1.some e2
    exact ⟨a, w, rfl, .inl ⟨kv, k, h1, vy.key e1, e3.symm⟩, r⟩
  · cases e
theorem dhas_ok {b : Bool} (vx : Vw K H Fb m x dx) (vy : Vw K H Fb m y dy) (e : dhasD dx dy = some b) : ∃ a o, x = .ref a ∧ DGet H a y o ∧ o.isSome = b := by
  unfold dhasD at e
  split at e
  · obtain ⟨k, e1, rfl⟩ := Option.map_eq_some_iff.mp e
    obtain ⟨a, kv, rfl, h1, z1, q1⟩ := vx.asD
    exact ⟨a, _, rfl, .inl ⟨kv, k, h1, vy.key e1, rfl⟩, q1.isSome k⟩
  · cases e
end
section
variable {X : Cx}
/-- d[y] by values -/
theorem ix_dict (hu : X.A.units + 1 < cLine) : IxR X (fun x y H Q => ∃ a v, x = .ref a ∧ DGet H a y (some v) ∧ Q v H) := by
  intro value slice pins s σ H x y o i Q I rx ry ⟨a, v, ex, g, q⟩ hs
  subst ex
  obtain rfl : o = Value.ref a := rx
  have hT := dict_typeIs I g
  unfold subscriptTail
  refine wpAny_bind ?_
  rw [getitemInPython_of_ne hT.not_modules]
  refine wpAny_bind (wpAny_specialOf hT PySem.F.slot_dict_getitem.lookup ?_)
  have fin : wpAny (model X.prog X.w) X.A (subscripted slice false (.ref a) i) (fun r s₃ => wpAny (model X.prog X.w) X.A (letTemporaryGo value (.ref a) r >>= fun _ => pure r) (EP X pins σ Q) X.xe s₃) X.xe s := by
    rw [hs]
    refine wpAny_operating (d_getItem hu I g ry fun w' s3 I3 rw' => wpAny_bind (wpAny_letTemporaryGo (wpAny_pure ⟨v, H, I3, rw', q⟩)))
  first
    | exact wpAny_pure (wpAny_bind fin)
    | exact wpAny_bind (wpAny_pure (wpAny_bind fin))
    | exact wpAny_bind fin
end
end DL
set_option Elab.async false
set_option linter.all false
set_option maxRecDepth 100000
set_option maxHeartbeats 4000000
namespace DL
open PySem PySem.Spec PyProof.Rows L2
inductive Tg where
  | nm (i : Nat) | tp (ts : List Tg)
mutual
def Tg.put : Tg → D → Ev → Option Ev
  | .nm i, d, ρ => some (ρ.set i (some d))
  | .tp ts, .tup ds, ρ => Tg.puts ts ds ρ
  | .tp _, _, _ => none
def Tg.puts : List Tg → List D → Ev → Option Ev
  | [], [], ρ => some ρ
  | t :: ts, d :: ds, ρ => match t.put d ρ with
    | some ρ' => Tg.puts ts ds ρ'
    | none => none
  | _, _, _ => none
end
mutual
def Tg.rd (K : PySem.W.Frag) : Tg → TG
  | .nm i => gName i
  | .tp ts => gTup K ts.length (Tg.rds K ts)
def Tg.rds (K : PySem.W.Frag) : List Tg → TGs
  | [] => gNil
  | t :: ts => gCons (Tg.rd K t) (Tg.rds K ts)
end
section
variable {K : PySem.W.Frag} {H : Hp} {Fb : Addr → Prop} {m : List Addr}
mutual
theorem Tg.rd_ok : ∀ (t : Tg) {v : V} {d : D} {σ : L2.St} {ρ ρ' : Ev} {Q : L2.St → Hp → Prop}, t.put d ρ = some ρ' → Rep K H Fb m v d → RepE K H Fb m σ ρ → (∀ σ', RepE K H Fb m σ' ρ' → Q σ' H) → Tg.rd K t v σ H Q
  | .nm i, v, d, σ, ρ, ρ', Q, e, r, re, q => by
    simp only [Tg.put, Option.some.injEq] at e
    subst e
    exact q _ (re.set r)
  | .tp ts, v, d, σ, ρ, ρ', Q, e, r, re, q => by
    cases d with
    | tup ds =>
      cases r with
      | tup h z rr =>
        have e' : Tg.puts ts ds ρ = some ρ' := by simpa [Tg.put] using e
        exact ⟨_, _, rfl, h, by rw [rr.length]; exact (Tg.puts_len ts e').symm, Tg.rds_ok ts e' rr re q⟩
    | _ => simp [Tg.put] at e
theorem Tg.puts_len : ∀ (ts : List Tg) {ds : List D} {ρ ρ' : Ev}, Tg.puts ts ds ρ = some ρ' → ts.length = ds.length
  | [], [], _, _, _ => rfl
  | [], _ :: _, _, _, e => by simp [Tg.puts] at e
  | _ :: _, [], _, _, e => by simp [Tg.puts] at e
  | t :: ts, d :: ds, ρ, ρ', e => by
    simp only [Tg.puts] at e
    split at e
    · rename_i ρ1 e1
      simp [Tg.puts_len ts e]
    · cases e
theorem Tg.rds_ok : ∀ (ts : List Tg) {vs : List V} {ds : List D} {σ : L2.St} {ρ ρ' : Ev} {Q : L2.St → Hp → Prop}, Tg.puts ts ds ρ = some ρ' → RepA K H Fb m vs ds → RepE K H Fb m σ ρ → (∀ σ', RepE K H Fb m σ' ρ' → Q σ' H) → Tg.rds K ts vs σ H Q
  | [], vs, ds, σ, ρ, ρ', Q, e, r, re, q => by
    cases ds with
    | nil =>
      cases r
      simp only [Tg.puts, Option.some.injEq] at e
      subst e
      exact ⟨rfl, q σ re⟩
    | cons _ _ => simp [Tg.puts] at e
  | t :: ts, vs, ds, σ, ρ, ρ', Q, e, r, re, q => by
    cases ds with
    | nil => simp [Tg.puts] at e
    | cons d ds =>
      cases r with
      | cons r rr =>
        simp only [Tg.puts] at e
        split at e
        · rename_i ρ1 e1
          exact ⟨_, _, rfl, Tg.rd_ok t e1 r re fun σ' re' => Tg.rds_ok ts e rr re' q⟩
        · cases e
end
end
/-- the target of the text is this one -/
def GV (X : Cx) (e : Expr) (t : Tg) : Prop := PG X e (Tg.rd X.K t)
def GVs (X : Cx) (es : List Expr) (ts : List Tg) : Prop := PGs X es (Tg.rds X.K ts)
section
variable {X : Cx} {pos : Pos} {e : Expr} {es : List Expr} {t : Tg} {ts : List Tg}
theorem gv_nm {i : Nat} {x : Str} (hN : X.N.Nodup) (hi : X.N[i]? = some x) (hx : Loc X.env.scope x) (hf : X.fn x = true ∨ X.env.scope.names.lookup x = some .local := by first | exact .inl rfl | exact .inr rfl | assumption) : GV X (.Name x pos) (.nm i) := pg_name hN hi hx hf
theorem gv_nil : GVs X [] [] := pgs_nil
theorem gv_cons (h : GV X e t) (hr : GVs X es ts) (hs : (assignEach (e :: es) X.env).map (·.2) = assign e X.env :: (assignEach es X.env).map (·.2) := by rfl) : GVs X (e :: es) (t :: ts) := pgs_cons h hr hs
theorem gv_tp {k : Nat} (hc : X.calm = true) (h : GVs X es ts) (hn : (assignEach es X.env).length = ts.length := by rfl) (hst : (assignEach es X.env).findIdx? (·.1) = none := by rfl) : GV X (.Tuple es k pos) (.tp ts) := pg_tup hc h hn hst
end
def sAsgT (t : Tg) (e : Ex) : Sx := fun ρ S => (e ρ S).bindS ρ fun d S => match t.put d ρ with
  | some ρ' => .fl (.nx ρ') S
  | none => .bad
theorem Kp.trans {H H1 H2 : Hp} {F F1 F2 : Addr → Prop} {m m1 m2 : List Addr} (p : Kp H H1 F F1 m m1) (q : Kp H1 H2 F1 F2 m1 m2) : Kp H H2 F F2 m m2 :=
  ⟨fun a xs h f => q.lst a xs (p.lst a xs h f) (p.fb a _ (.inl h) f), fun a u h f => q.obj a u (p.obj a u h f) (p.fb a u h f), fun a o f h => q.fix a o f (p.fix a o f h), fun a u h f => q.fb a u (p.obj a u h f) (p.fb a u h f), fun n a h => q.ix n a (p.ix n a h)⟩
def ItR (K : PySem.W.Frag) (H : Hp) (Fb : Addr → Prop) (m : List Addr) (J : It) (xs : List D) : Prop :=
  ∀ H2 Fb2 m2, Kp H H2 Fb Fb2 m m2 → (∀ i, i < xs.length → J.go i H2 ∧ ∀ x H3, J.yld i H2 x H3 → ∃ d, xs[i]? = some d ∧ Same H2 H3 ∧ Rep K H3 Fb2 m2 x d) ∧ (∀ i, xs.length ≤ i → J.stop i H2)
abbrev Ix := Ev → Sto → R (List D)
section
variable (K : PySem.W.Frag) (mg : Str → Option Value) (W : WX)
def finI (B : Addr → Prop) (m : List Addr) (S : Sto) (σ : L2.St) (H : Hp) (r : R (List D)) (Q : It → Hp → Prop) : Prop := match r with
  | .ok xs S' => ∀ m' H' J, Post K mg B m S H m' S' H' → ItR K H' (Fo B m' S') m' J xs → Q J H'
  | .exc c p S' => ∀ m' H' cls dd, Post K mg B m S H m' S' H' → XcR K mg H' (Fo B m' S') m' c p cls dd → W cls dd σ H'
  | .bad => False
def upI (f : Ix) : TI := fun σ H Q => ∃ B m ρ S, Rl K mg B m H S ∧ RepE K H (Fo B m S) m σ ρ ∧ finI K mg W B m S σ H (f ρ S) Q
end
def IV (X : Cx) (W : WX) (tg iter : Expr) (f : Ix) : Prop := PI X tg iter (upI X.K X.mg W f)
theorem pi_imp {X : Cx} {tg e : Expr} {t t' : TI} (h : PI X tg e t) (k : ∀ σ H Q, t' σ H Q → t σ H Q) : PI X tg e t' := ⟨fun pins s σ H Q I q => h.run pins s σ H Q I (k σ H Q q)⟩
section
variable {K : PySem.W.Frag} {mg : Str → Option Value} {W : WX} {B : Addr → Prop} {m m' m1 : List Addr} {S S' S1 : Sto} {H H' H1 : Hp} {σ : L2.St} {ρ : Ev} {E : Ends}
theorem finI.later (p : Post K mg B m S H m1 S1 H1) {r : R (List D)} {Q : It → Hp → Prop} (h : finI K mg W B m S σ H r Q) : finI K mg W B m1 S1 σ H1 r Q := by
  cases r with
  | ok d S' => exact fun m' H' v q => h m' H' v (p.trans q)
  | exc c p' S' => exact fun m' H' cls dd q => h m' H' cls dd (p.trans q)
  | bad => exact h
theorem finI.mono {r : R (List D)} {Q Q' : It → Hp → Prop} (h : finI K mg W B m S σ H r Q) (k : ∀ v H, Q v H → Q' v H) : finI K mg W B m S σ H r Q' := by
  cases r with
  | ok d S' => exact fun m' H' v p r => k _ _ (h m' H' v p r)
  | exc c p' S' => exact h
  | bad => exact h
theorem fin.bindI {r : R D} {g : D → Sto → R (List D)} {Q : It → Hp → Prop} (h : finI K mg W B m S σ H (r.bind g) Q) :
    fin K mg W B m S σ H r (fun v H1 => ∃ m1 S1 d, Post K mg B m S H m1 S1 H1 ∧ Rep K H1 (Fo B m1 S1) m1 v d ∧ finI K mg W B m1 S1 σ H1 (g d S1) Q) := by
  cases r with
  | ok d S' => exact fun m' H' v p r => ⟨m', S', d, p, r, finI.later p h⟩
  | exc c p' S' => exact h
  | bad => exact h
theorem finA.bindI {r : R (List D)} {g : List D → Sto → R (List D)} {Q : It → Hp → Prop} (h : finI K mg W B m S σ H (r.bind g) Q) :
    finA K mg W B m S σ H r (fun v H1 => ∃ m1 S1 d, Post K mg B m S H m1 S1 H1 ∧ RepA K H1 (Fo B m1 S1) m1 v d ∧ finI K mg W B m1 S1 σ H1 (g d S1) Q) := by
  cases r with
  | ok d S' => exact fun m' H' v p r => ⟨m', S', d, p, r, finI.later p h⟩
  | exc c p' S' => exact h
  | bad => exact h
theorem finI.bindS {r : R (List D)} {g : List D → Sto → RS} (re : RepE K H (Fo B m S) m σ ρ) (rl : Rl K mg B m H S) (h : finS K mg W B m S H (r.bindS ρ g) E) :
    finI K mg W B m S σ H r (fun J H1 => ∃ m1 S1 xs, Post K mg B m S H m1 S1 H1 ∧ ItR K H1 (Fo B m1 S1) m1 J xs ∧ finS K mg W B m1 S1 H1 (g xs S1) E) := by
  cases r with
  | ok d S' => exact fun m' H' J p q => ⟨m', S', d, p, q, finS.later p h⟩
  | exc c p' S' => exact fun m' H' cls dd p x => h m' H' σ cls dd p (re.kp (p.kp rl)) x
  | bad => exact h
end
/-- a tuple, or a list that nobody writes meanwhile -/
def iSeq (e : Ex) : Ix := fun ρ S => (e ρ S).bind fun d S => match d with
  | .tup xs => .ok xs S
  | .lst xs => .ok xs S
  | .dic false kvs => .ok (kvs.map (·.1)) S
  | _ => .bad
def iRng (a b : Int) : List D := (List.range (b - a).toNat).map fun k => .int (a + (k : Nat))
def iRng1X (e : Ex) : Ix := fun ρ S => (e ρ S).bind fun d S => match d with
  | .int j => if -(2 ^ 62) ≤ j ∧ j < 2 ^ 62 then .ok (iRng 0 j) S else .bad
  | _ => .bad
def iRng2X (e e2 : Ex) : Ix := fun ρ S => (e ρ S).bind fun d S => (e2 ρ S).bind fun d2 S => match d, d2 with
  | .int i, .int j => if -(2 ^ 62) ≤ i ∧ i < 2 ^ 62 ∧ -(2 ^ 62) ≤ j ∧ j < 2 ^ 62 then .ok (iRng i j) S else .bad
  | _, _ => .bad
section
variable {X : Cx} {W : WX} {tg e e2 : Expr} {fe fe2 : Ex} {pos p : Pos}
theorem itr_list {K : PySem.W.Frag} {mg : Str → Option Value} {B : Addr → Prop} {m : List Addr} {S : Sto} {H : Hp} {a : Addr} {vs : List V} {xs : List D} (r : Rl K mg B m H S) (h : H a = some (.lst vs)) (nf : ¬ Fo B m S a) (q : RepA K H (Fo B m S) m vs xs) : ItR K H (Fo B m S) m (Itl K a) xs := by
  intro H2 F2 m2 p
  have h2 : SqL K H2 a vs := SqL.of (p.lst _ _ h nf)
  have q2 := q.kp p
  refine ⟨fun i hi => ?_, fun i hi => ⟨vs, h2, by rw [q.length]; exact hi⟩⟩
  obtain ⟨v, ev, rv⟩ := q2.get (d := xs[i]) (List.getElem?_eq_getElem hi)
  refine ⟨⟨vs, v, h2, ev⟩, fun x H3 y => ?_⟩
  obtain ⟨e, y⟩ := y
  subst e
  have := y vs h2
  rw [ev] at this; cases this
  exact ⟨_, List.getElem?_eq_getElem hi, Same.refl _, rv⟩
theorem itr_tup {K : PySem.W.Frag} {mg : Str → Option Value} {B : Addr → Prop} {m : List Addr} {S : Sto} {H : Hp} {a : Addr} {vs : List V} {xs : List D} (r : Rl K mg B m H S) (h : SqT K H a vs) (q : RepA K H (Fo B m S) m vs xs) : ItR K H (Fo B m S) m (Itt K a) xs := by
  intro H2 F2 m2 p
  have h2 : SqT K H2 a vs := p.sqT h
  have q2 := q.kp p
  refine ⟨fun i hi => ?_, fun i hi => ⟨vs, h2, by rw [q.length]; exact hi⟩⟩
  obtain ⟨v, ev, rv⟩ := q2.get (d := xs[i]) (List.getElem?_eq_getElem hi)
  refine ⟨⟨vs, v, h2, ev⟩, fun x H3 y => ?_⟩
  obtain ⟨e, y⟩ := y
  subst e
  have := y vs h2
  rw [ev] at this; cases this
  exact ⟨_, List.getElem?_eq_getElem hi, Same.refl _, rv⟩
theorem itr_rng {K : PySem.W.Frag} {Fb : Addr → Prop} {m : List Addr} {H : Hp} {a b : Int} : ItR K H Fb m (Itr a (b - a).toNat) (iRng a b) := by
  intro H2 F2 m2 p
  refine ⟨fun i hi => ⟨?_, fun x H3 y => ?_⟩, fun i hi => ?_⟩
  · show i < (b - a).toNat
    simpa [iRng] using hi
  · obtain ⟨e, y⟩ := y
    subst e y
    have hi' : i < (b - a).toNat := by simpa [iRng] using hi
    exact ⟨.int (a + (i : Nat)), by simp only [iRng, List.getElem?_map, List.getElem?_range hi', Option.map_some], Same.refl _, .int _⟩
  · show (b - a).toNat ≤ i
    simpa [iRng] using hi
theorem rep_key {K : PySem.W.Frag} {H : Hp} {Fb : Addr → Prop} {m : List Addr} (k : Key) : Rep K H Fb m (kV k) (keyD k) := by
  cases k
  · exact .int _
  · exact .str _
theorem itr_keys {K : PySem.W.Frag} {H : Hp} {Fb : Addr → Prop} {m : List Addr} {a : Addr} {o : Obj} {kv : List (Key × V)} {kvs : List (D × D)} (h : H a = some (.frz o (.dK kv))) (q : KR K H Fb m kv kvs) : ItR K H Fb m (Itk a o kv) (kvs.map (·.1)) := by
  intro H2 F2 m2 p
  have h2 := p.fix _ (.frz o (.dK kv)) trivial h
  have hl := q.length
  refine ⟨fun i hi => ⟨⟨h2, by rw [List.length_map] at hi; omega⟩, fun x H3 y => ?_⟩, fun i hi => ⟨h2, by rw [List.length_map] at hi; omega⟩⟩
  obtain ⟨rfl, k, v, ek, rfl⟩ := y
  refine ⟨keyD k, ?_, Same.refl _, rep_key k⟩
  rw [q.keys, List.getElem?_map, ek]
  rfl
theorem upI_one {K : PySem.W.Frag} {mg : Str → Option Value} {σ : L2.St} {H : Hp} {fa : Ex} {g : D → Ev → Sto → R (List D)} {Q : It → Hp → Prop} (h : upI K mg W (fun ρ S => (fa ρ S).bind fun x S => g x ρ S) σ H Q) :
    up K mg W fa σ H fun x H1 => ∃ B m ρ S dx, Rl K mg B m H1 S ∧ RepE K H1 (Fo B m S) m σ ρ ∧ Rep K H1 (Fo B m S) m x dx ∧ finI K mg W B m S σ H1 (g dx ρ S) Q := by
  obtain ⟨B, m, ρ, S, r, re, f⟩ := h
  refine ⟨B, m, ρ, S, r, re, fin.mono (fin.bindI f) fun v H1 => ?_⟩
  rintro ⟨m1, S1, d, p, q, f1⟩
  exact ⟨B, m1, ρ, S1, d, p.rl, re.kp (p.kp r), q, f1⟩
theorem iv_seq (h : EV X W e fe) : IV X W tg e (iSeq fe) := by
  refine ⟨fun pins s σ H Q I h0 => ?_⟩
  -- whichever it is: told by the value
  have h1 := upI_one (g := fun d ρ S => match d with | .tup xs => .ok xs S | .lst xs => .ok xs S | .dic false kvs => .ok (kvs.map (·.1)) S | _ => .bad) h0
  refine thn (h.run pins s σ H _ I h1) fun v s1 ⟨x, H1, I1, r1, B, m, ρ, S, dx, r, re, rx, f⟩ => ?_
  cases dx with
  | tup xs =>
    cases rx with
    | @tup a vs _ h z q =>
      cases r1
      obtain ⟨its, rv, p, hz⟩ := I1.tuple h
      refine wpAny_pyIter_tuple (show s1.heap.IsTuple a its.toArray from p) ?_
      refine ⟨s1.heap.objs.size, [s1.heap.objs.size], _, _, H1, rfl, I1.kept (t' := s1.toks) fun b o e => Heap.get?_push_of_some _ e, turn_tuple a _, ⟨_, Heap.get?_push_size _ rfl, rfl, rfl⟩, fun b hb => ?_, f m H1 _ (Post.refl r) (itr_tup r h q)⟩
      have e : b = s1.heap.objs.size := by simpa using hb
      subst e
      exact I1.fpOk (Nat.le_refl _) (I1.hok.fresh (Nat.le_refl _))
  | lst xs =>
    cases rx with
    | @lst a vs _ h nf z q =>
      cases r1
      obtain ⟨its, rv, p, hz⟩ := I1.list (SqL.of (K := X.K) h)
      refine wpAny_pyIter_list p.isList ?_
      refine ⟨s1.heap.objs.size, [s1.heap.objs.size], _, _, H1, rfl, I1.kept (t' := s1.toks) fun b o e => Heap.get?_push_of_some _ e, turn_list a _, ⟨_, Heap.get?_push_size _ rfl, rfl, rfl⟩, fun b hb => ?_, f m H1 _ (Post.refl r) (itr_list r h nf q)⟩
      have e : b = s1.heap.objs.size := by simpa using hb
      subst e
      exact I1.fpOk (Nat.le_refl _) (I1.hok.fresh (Nat.le_refl _))
  | dic t kvs =>
    cases t with
    | true => exact f.elim
    | false =>
      cases rx with
      | @dK a kv _ h z e q =>
        obtain ⟨o, hd⟩ := h
        obtain rfl : v = Value.ref a := r1
        obtain ⟨hs, hgd, hx, es, ep, vs, hdt, hsz, kv', hm⟩ := I1.frzK hd
        refine iter_keys hs hgd hx hdt (pi_one (tk := s1.toks) I1 _ (turn_keys _ hdt) ⟨_, Heap.get?_push_size _ rfl, rfl, ?_⟩ (f m H1 _ (Post.refl r) (itr_keys hd (kr_of e q))))
        rw [hsz] <;> rfl
  | _ => exact f.elim
theorem iv_rng1 (hg : Gl X "range") (hm : X.mg "range" = none) (ha : EV X W e fe) (hs : starEach [e] X.env = [(false, eval e X.env)] := by rfl) : IV X W tg (.Call (.Name "range" p) [e] [] pos) (iRng1X fe) := by
  refine pi_imp (pi_range1 hg hm (pa_cons ha pa_nil hs) hs) fun σ H Q h => ?_
  obtain ⟨B, m, ρ, S, r, re, f⟩ := upI_one (g := fun d ρ S => match d with | .int j => if -(2 ^ 62) ≤ j ∧ j < 2 ^ 62 then .ok (iRng 0 j) S else .bad | _ => .bad) h
  refine ⟨B, m, ρ, S, r, re, f.mono fun x H1 => ?_⟩
  rintro ⟨B, m, ρ, S, dx, r, re, rx, f⟩
  cases dx with
  | int j =>
    cases rx
    dsimp only at f
    split at f
    · rename_i hj
      refine ⟨j, rfl, hj.1, hj.2, f m H1 _ (Post.refl r) ?_⟩
      have := itr_rng (K := X.K) (Fb := Fo B m S) (m := m) (H := H1) (a := 0) (b := j)
      rwa [show (j - 0) = j by omega] at this
    · exact f.elim
  | _ => exact f.elim
end
def loopS (t : Tg) (b : Sx) : List D → Sx
  | [], ρ, S => .fl (.nx ρ) S
  | d :: ds, ρ, S => match t.put d ρ with
    | none => .bad
    | some ρ1 => match b ρ1 S with
      | .fl (.nx ρ2) S2 => loopS t b ds ρ2 S2
      | .fl (.ct ρ2) S2 => loopS t b ds ρ2 S2
      | .fl (.bk ρ2) S2 => .fl (.nx ρ2) S2
      | .fl (.rt d) S2 => .fl (.rt d) S2
      | .exc c p ρ2 S2 => .exc c p ρ2 S2
      | .bad => .bad
def sFor (it : Ix) (t : Tg) (b : Sx) : Sx := fun ρ S => (it ρ S).bindS ρ fun xs S => loopS t b xs ρ S
section
variable {X : Cx} {W : WX} {tg iter : Expr} {fi : Ix} {t : Tg} {body : List Stmt} {b : Sx} {pos : Pos}
theorem sv_for (hp : PassesOwn (model X.prog X.w) X.A X.env X.xe) (hc : X.calm = true) (hi : IV X W tg iter fi) (hg : GV X tg t) (hb : SVs X W body b) (hs : ∀ x, foldedSetIterable iter X.env x = pure x := by intro _; rfl) :
    SV X W (.For tg iter body [] pos) (sFor fi t b) := by
  refine ps_imp (ps_for hp hc hi hg hb hs) fun E σ H h => ?_
  obtain ⟨B, m, ρ, S, r, re, f⟩ := h
  refine ⟨B, m, ρ, S, r, re, finI.mono (finI.bindS re r f) fun J H1 => ?_⟩
  rintro ⟨m1, S1, xs, p1, itr, f1⟩
  refine ⟨fun i n σ H => n = xs.length - i ∧ i ≤ xs.length ∧ ∃ m2 S2 ρ2, Post X.K X.mg B m1 S1 H1 m2 S2 H ∧ RepE X.K H (Fo B m2 S2) m2 σ ρ2 ∧ finS X.K X.mg W B m2 S2 H (loopS t b (xs.drop i) ρ2 S2) E,
    ⟨xs.length, by simp, Nat.zero_le _, m1, S1, ρ, Post.refl p1.rl, re.kp (p1.kp r), by simpa using f1⟩, ?_⟩
  rintro i n σ2 H2 ⟨rfl, hi, m2, S2, ρ2, p2, re2, f2⟩
  obtain ⟨go, stop⟩ := itr H2 _ m2 (p2.kp p1.rl)
  by_cases hlt : i < xs.length
  · right
    refine ⟨(go i hlt).1, fun σ' H' => ∃ m3 S3 ρ3, Post X.K X.mg B m1 S1 H1 m3 S3 H' ∧ RepE X.K H' (Fo B m3 S3) m3 σ' ρ3 ∧ finS X.K X.mg W B m3 S3 H' (loopS t b (xs.drop (i + 1)) ρ3 S3) E, ?_, ?_⟩
    · rintro σ' H' ⟨m3, S3, ρ3, p3, re3, f3⟩
      exact ⟨_, by omega, rfl, hlt, m3, S3, ρ3, p3, re3, f3⟩
    · intro x H3 y
      obtain ⟨d, ed, sm, rx⟩ := (go i hlt).2 x H3 y
      have p3 : Post X.K X.mg B m2 S2 H2 m2 S2 H3 := Post.grow p2.rl sm
      have f3 := finS.later p3 f2
      have re3 := re2.kp (p3.kp p2.rl)
      rw [List.drop_eq_getElem_cons hlt] at f3
      have ed' : xs[i] = d := by
        have := List.getElem?_eq_getElem hlt
        rw [this] at ed
        exact Option.some.inj ed
      rw [ed'] at f3
      unfold loopS at f3
      cases e1 : t.put d ρ2 with
      | none => rw [e1] at f3; exact f3.elim
      | some ρ4 =>
        rw [e1] at f3
        dsimp only at f3
        refine Tg.rd_ok t e1 rx re3 fun σ4 re4 => ?_
        refine ⟨B, m2, ρ4, S2, p3.rl, re4, ?_⟩
        cases e2 : b ρ4 S2 with
        | bad => rw [e2] at f3; exact f3.elim
        | exc c p ρ5 S5 => rw [e2] at f3; exact f3
        | fl fl S5 =>
          rw [e2] at f3
          cases fl with
          | nx ρ5 => exact fun m5 H5 σ5 p5 re5 => ⟨m5, S5, ρ5, (p2.trans p3).trans p5, re5, finS.later p5 f3⟩
          | ct ρ5 => exact fun m5 H5 σ5 p5 re5 => ⟨m5, S5, ρ5, (p2.trans p3).trans p5, re5, finS.later p5 f3⟩
          | bk ρ5 => exact fun m5 H5 σ5 p5 re5 => f3 m5 H5 σ5 p5 re5
          | rt d => exact f3
  · left
    have hd : xs.drop i = [] := List.drop_eq_nil_of_le (by omega)
    rw [hd] at f2
    exact ⟨stop i (by omega), f2 m2 H2 σ2 (Post.refl p2.rl) re2⟩
end
end DL
set_option Elab.async false
set_option linter.all false
set_option maxRecDepth 100000
set_option maxHeartbeats 4000000
namespace DL
open PySem PySem.Spec PyProof.Rows L2
/-- room for k levels; no guard of a repr stands -/
structure Room (k : Nat) (A : Around) : Prop where
  r : L2.Room k A
  g : A.guards = some []
theorem Room.mono {j k : Nat} {A : Around} (x : DL.Room k A) (h : j ≤ k) : DL.Room j A := ⟨x.r.mono h, x.g⟩
theorem Room.deeper {k : Nat} {A : Around} (x : DL.Room (k + 1) A) (env : Env) : DL.Room k (A.deeper env) := ⟨x.r.deeper env, x.g⟩
theorem Room.units {k : Nat} {A : Around} (x : DL.Room k A) : A.units + 64 < cLine := x.r.units
/-- what a def promises, called where there is room -/
structure FnOk (P : Program) (w : World) (K : PySem.W.Frag) (mg : Str → Option Value) (base : Heap) (CX : CXT) (k : Nat) (f : Addr) (fd : FuncData) (ps : List Str) (sp : Sp) : Prop where
  len : ∀ xs H Q E, sp xs H Q E → xs.length = ps.length
  run : ∀ (B : Around) (ol : List Env) (s : Shared) (H : Hp) (ar : Args) (ys : List Value) (xs : List V) (Q : VK) (E : XK), DL.Room k B → Env0 P w K mg base B ol s H → BindsTo s fd ar (ps.zip ys) → Vals xs ys → sp xs H Q E →
    codeAny (model P w) B (.call (.ref f) ar) (CR CX ol P w H s Q E) s
section
variable {P : Program} {w : World} {K : PySem.W.Frag} {mg : Str → Option Value} {base : Heap} {CX : CXT} {k j : Nat} {f : Addr} {fd : FuncData} {N ps : List Str} {sp sp' : Sp}
theorem FnOk.mono (F : DL.FnOk P w K mg base CX j f fd ps sp) (h : j ≤ k) : DL.FnOk P w K mg base CX k f fd ps sp where
  len := F.len
  run := fun B ol s H ar ys xs Q E hb => F.run B ol s H ar ys xs Q E (hb.mono h)
theorem FnOk.imp (F : DL.FnOk P w K mg base CX k f fd ps sp) (h : ∀ xs H Q E, sp' xs H Q E → sp xs H Q E) : DL.FnOk P w K mg base CX k f fd ps sp' where
  len := fun xs H Q E q => F.len xs H Q E (h xs H Q E q)
  run := fun B ol s H ar ys xs Q E hb he hbi hv q => F.run B ol s H ar ys xs Q E hb he hbi hv (h xs H Q E q)
/-- a def by its body -/
theorem fn_body {name qual : Str} {params : Arguments} {body : List Stmt} {scope : Scope} {dV kV doc pm cdv ct oc : Value} {an od : Option Addr} {osl : Array (Option Value)}
    (look : K.lookup f = some ⟨oc, od, .func (PySem.W.fnOf name qual params body scope dV kV doc pm an cdv ct), osl⟩) (code : PySem.W.codeIn K cdv qual = true) (sc : FnScope N ps scope)
    (hlen : ∀ xs H Q E, sp xs H Q E → xs.length = ps.length)
    (bod : ∀ (B : Around) (ol : List Env) (s : Shared) (H : Hp) (xs : List V) (Q : VK) (E : XK), DL.Room k (B.deeper (envOfC qual scope s.heap.objs.size f cdv)) → sp xs H Q E →
      ∃ rd, PSs (cxOf CX P w K mg base N qual scope f cdv B ol s H E) body rd ∧ rd { nx := fun _ H2 => Q .non H2, rt := Q } (start N xs) H) :
    DL.FnOk P w K mg base CX (k + 1) f (PySem.W.fnOf name qual params body scope dV kV doc pm an cdv ct) ps sp := by
  refine ⟨hlen, ?_⟩
  intro B ol s H ar ys xs Q E room en bi rel want
  have many := hlen _ _ _ _ want
  have inK : K.In s.heap := en.mod.kin.keeps fun c ob z => (en.bs c ob z).1
  have noLim : s.heap.NoLimit := en.mod.nolimit.keeps fun c ob z => (en.bs c ob z).1
  have kinds : ∀ z ∈ ps.zip ys, scope.names.lookup z.1 = some .local ∨ (scope.names.lookup z.1 = some .cell ∧ ((cellsFrom (s.heap.objs.size + 1) scope.names []).lookup z.1).isSome = true) := by
    rintro ⟨nm, vl⟩ hz
    cases sc.par nm (List.of_mem_zip hz).1 with
    | inl q => exact Or.inl q
    | inr q => exact Or.inr ⟨q, PySem.W.cellsFrom_some _ _ _ (Or.inl q)⟩
  refine codeAny_call_function room.r.depth (inK _ _ look) rfl sc.co sc.gen rfl (PySem.W.codeRec_of inK code) (bi _ _ _ _ ?_)
  refine wpAny_newFunctionEnv_cells sc.kind kinds ?_
  rintro env rfl s1 inc
  refine ⟨noLim.keeps inc.toInCall.keep, codeAny_func ?_⟩
  obtain ⟨rd, hrd, hw⟩ := bod B ol s H xs Q E (room.deeper _) want
  have J0 : Inv (cxOf CX P w K mg base N qual scope f cdv B ol s H E) [] (start N xs) H s1 := inv_start sc room.r.hd en many rel inc
  have close : ∀ {σ2 : L2.St} {H2 : Hp} {v : V} {u : Value} {s2 : Shared}, Inv (cxOf CX P w K mg base N qual scope f cdv B ol s H E) [] σ2 H2 s2 → RelV v u → Q v H2 → CE ol P w H s Q u s2 := by
    intro σ2 H2 v u s2 J rv q
    exact ⟨v, H2, J.os, J.bare, J.base, J.hok, rv, q⟩
  refine wpAny_mono (hrd.run [] s1 (start N xs) H _ J0 hw) ?_ (fun er s2 z => z)
  intro flow s2 hs2
  cases flow with
  | next =>
    obtain ⟨σ2, H2, J, q⟩ := hs2
    exact close (v := V.non) (u := Value.none) J rfl q
  | ret u =>
    obtain ⟨v, σ2, H2, J, rv, q⟩ := hs2
    exact close J rv q
  | brk => exact (hs2.elim fun _ z => z.elim fun _ z => z.2 : False).elim
  | cont => exact (hs2.elim fun _ z => z.elim fun _ z => z.2 : False).elim
theorem funD_ok {x qual : Str} {params : Arguments} {body : List Stmt} {scope : Scope} {dvs : List V} {kws : List (Str × V)} (F : FunD K x qual params body scope dvs kws f fd) (sc : FnScope N ps scope) (hlen : ∀ xs H Q E, sp xs H Q E → xs.length = ps.length)
    (bod : ∀ (cdv : Value) (B : Around) (ol : List Env) (s : Shared) (H : Hp) (xs : List V) (Q : VK) (E : XK), DL.Room k (B.deeper (envOfC qual scope s.heap.objs.size f cdv)) → sp xs H Q E →
      ∃ rd, PSs (cxOf CX P w K mg base N qual scope f cdv B ol s H E) body rd ∧ rd { nx := fun _ H2 => Q .non H2, rt := Q } (start N xs) H) : DL.FnOk P w K mg base CX (k + 1) f fd ps sp := by
  obtain ⟨_, _, _, _, _, _, _, cdv, _, _, rfl, look, code, _, _⟩ := F.ex
  exact fn_body look code sc hlen fun B ol s H xs Q E hr want => bod cdv B ol s H xs Q E hr want
end
section
variable {X : Cx} {CX : CXT} {k : Nat} {f : Addr} {fd : FuncData} {ps : List Str} {sp : Sp} {E : L2.St → XK} {x : Str} {p pos : Pos} {e : Expr} {es : List Expr} {t : TA} {dvs : List V} {ds : List Value}
/-- the callee runs; ds the defaults that fill up -/
theorem run_call {pins : List (Addr × Obj)} {σ : L2.St} {H : Hp} {s : Shared} {Q : VK} {ys : List Value} {xs : List V} (F : DL.FnOk X.prog X.w X.K X.mg X.base CX k f fd ps sp) (room : DL.Room k X.A) (bi : Binds X.K fd ps ds) (hd : Vals dvs ds) (pass : PassesAt CX X σ (E σ))
    (J : Inv X pins σ H s) (rel : Vals xs ys) (want : sp (xs ++ dvs) H Q (E σ)) : wpAny (model X.prog X.w) X.A (call (.ref f) ys) (EP X pins σ Q) X.xe s := by
  have rel2 := rel.append hd
  have many : (ys ++ ds).length = ps.length := by rw [← rel2.length]; exact F.len _ _ _ _ want
  refine wpAny_call (codeAny_mono (F.run X.A X.stack s H ⟨ys, []⟩ (ys ++ ds) (xs ++ dvs) Q (E σ) room J.env0 (bi s ys J.kIn many) rel2 want) ?_)
  intro res s2 hres
  match res, hres with
  | .ok (.ret u), hres => exact J.after hres
  | .ok .next, hres => exact False.elim hres
  | .ok .brk, hres => exact False.elim hres
  | .ok .cont, hres => exact False.elim hres
  | .error er, hres => exact pass pins H s er s2 J hres
def tCallG (sp : Sp) (dvs : List V) (E : L2.St → XK) (t : TA) : TE := fun σ H Q => t σ H fun xs H1 => sp (xs ++ dvs) H1 Q (E σ)
theorem pe_callG (F : DL.FnOk X.prog X.w X.K X.mg X.base CX k f fd ps sp) (room : DL.Room k X.A) (hg : Gl X x) (hm : X.mg x = some (.ref f)) (hk : PySem.W.keepIn X.K (.ref f) = true) (bi : Binds X.K fd ps ds) (hd : Vals dvs ds) (pass : ∀ σ, PassesAt CX X σ (E σ))
    (ha : PA X (e :: es) t) (hdb : (x == ("__debug__" : Str)) = false := by decide) (hse : starEach (e :: es) X.env = (false, eval e X.env) :: starEach es X.env := by rfl) (hpl : (backTo pos (starEach es X.env)).any (·.1) = false := by rfl) :
    PE X (.Call (.Name x p) (e :: es) [] pos) (tCallG sp dvs E t) := ⟨fun pins s σ H Q J want =>
  wpAny_Call_Name_kw (ld_glob J hg hm (PySem.W.callWith_K (h₀ := X.base) J.ok.mod.kin hk (thn (ha.run pos pins s σ H _ J want) fun ys s1 ⟨xs, H1, J1, rel, q⟩ => ⟨J1.kIn, run_call F room bi hd (pass σ) J1 rel q⟩) hse hpl) hdb)⟩
end
section
variable {X : Cx} {CX : CXT} {k : Nat} {f : Addr} {fd : FuncData} {ps : List Str} {sp : Sp} {E : L2.St → XK} {x : Str} {p pos : Pos} {e : Expr} {es : List Expr} {t : TA}
theorem pe_callD1 (F : DL.FnOk X.prog X.w X.K X.mg X.base CX k f fd ps sp) (room : DL.Room k X.A) (hg : Gl X x) (hm : X.mg x = some (.ref f)) (hk : PySem.W.keepIn X.K (.ref f) = true) (bi : Binds X.K fd ps []) (pass : ∀ σ, PassesAt CX X σ (E σ))
    (ha : PA X (e :: es) t) (hdb : (x == ("__debug__" : Str)) = false := by decide) (hse : starEach (e :: es) X.env = (false, eval e X.env) :: starEach es X.env := by rfl) (hpl : (backTo pos (starEach es X.env)).any (·.1) = false := by rfl) :
    PE X (.Call (.Name x p) (e :: es) [] pos) (fun σ H Q => t σ H fun xs H1 => sp xs H1 Q (E σ)) := by
  have z := pe_callG (p := p) (dvs := []) F room hg hm hk bi .nil pass ha hdb hse hpl
  refine pe_imp z fun σ H Q h => ?_
  unfold tCallG
  simp only [List.append_nil]
  exact h
end
/-- the law's call -/
theorem law_run {P : Program} {w : World} {K : PySem.W.Frag} {mg mb : Str → Option Value} {CX : CXT} {k : Nat} {fa a : Addr} {fd : FuncData} {x : Str} {sp : Sp} {t : Shared} {us : List Value} {ns : List Int}
    (inK : K.In t.heap) (nsm : t.heap.Ns mainGlobals mg) (nsb : t.heap.Ns builtinsNs mb) (bbs : ∀ x : Str, x ≠ "__name__" → mb x = bootBuiltins x) (noLim : t.heap.NoLimit) (gns : t.gens = #[])
    (scr : t.heap.get? a = some { cls := .type "list", data := .seq us.toArray }) (isI : IntsAre us ns) (small : ns.length ≤ sizeLine) (room : DL.Room k callerA)
    (F : ∀ base : Heap, K.In base → base.Ns mainGlobals mg → DL.FnOk P w K mg base CX k fa fd [x] sp) (bi : ∀ (s : Shared) (u : Value), BindsTo s fd ⟨[u], []⟩ [(x, u)])
    (want : ∀ H : Hp, L2.Only H → SqL K H a (ns.map V.int) → sp [.ref a] H (fun v _ => v = .bl true) fun _ _ _ => False)
    (noEx : ∀ H e s', CX [] H t (fun _ _ _ => False) e s' → False) :
    codeAny (model P w) callerA (.call (.ref fa) ⟨[.ref a], []⟩) (fun r s' => r = .ok (.ret (.bool true)) ∧ OldK t.heap s'.heap ∧ s'.os = t.os ∧ AllBare s'.gens) t := by
  have relI := vals_ints isI
  have go : ∀ H : Hp, L2.Only H → SqL K H a (ns.map V.int) → HOk P w H t.heap → (∀ c, H c ≠ none → c = a) → (H a ≠ none → K.lookup a = none) →
      codeAny (model P w) callerA (.call (.ref fa) ⟨[.ref a], []⟩) (fun r s' => r = .ok (.ret (.bool true)) ∧ OldK t.heap s'.heap ∧ s'.os = t.os ∧ AllBare s'.gens) t := by
    intro H only sq held one apart
    have free : ∀ {c : Addr} {ob : Obj} {es : Array DictEntry} {ep : Nat}, t.heap.get? c = some ob → ob.data = .dict es ep → H c = none := by
      intro c ob es ep e dt
      cases hc : H c with
      | none => rfl
      | some u =>
        obtain rfl : c = a := one c (by simp [hc])
        rw [scr] at e
        cases e
        exact nomatch (show Data.seq us.toArray _ = Data.dict es ep from dt)
    have keepN : ∀ {c : Addr} {m : Str → Option Value}, t.heap.Ns c m → (hidT t.heap H).Ns c m := by
      rintro c m ⟨ob, es, ep, e, dt, rest⟩
      exact ⟨ob, es, ep, hidT_get e (free e dt), dt, rest⟩
    have keepK : K.In (hidT t.heap H) := by
      intro c ob e
      refine hidT_get (inK c ob e) ?_
      cases hc : H c with
      | none => rfl
      | some u =>
        obtain rfl : c = a := one c (by simp [hc])
        have z := apart (by simp [hc])
        rw [z] at e
        cases e
    have md : Mod K mg (hidT t.heap H) := by
      refine ⟨keepK, keepN nsm, ⟨mb, keepN nsb, bbs⟩, ?_⟩
      obtain ⟨mc, q1, q2⟩ := noLim
      exact ⟨mc, keepN q1, q2⟩
    have en : Env0 P w K mg (hidT t.heap H) callerA [] t H := ⟨rfl, md, fun c ob e => of_hidT e, Nat.le_of_eq (hidT_size _ _), trivial, fun c hc => (List.not_mem_nil (show c ∈ ([] : List Addr) from hc)).elim, held, .of_eq gns⟩
    refine codeAny_mono ((F _ keepK (keepN nsm)).run callerA [] t H ⟨[.ref a], []⟩ [.ref a] [.ref a] _ _ room en (bi t (.ref a)) (.cons rfl .nil) (want H only sq)) ?_
    intro res s2 hres
    match res, hres with
    | .error er, hres => exact (noEx H er s2 hres).elim
    | .ok .next, hres => exact False.elim hres
    | .ok .brk, hres => exact False.elim hres
    | .ok .cont, hres => exact False.elim hres
    | .ok (.ret u), hres =>
      obtain ⟨v, H2, hos, hbare, un, held2, rv, (rfl : v = .bl true)⟩ := hres
      cases (show u = Value.bool true from rv)
      refine ⟨rfl, OldK.of_keep ?_, hos, hbare⟩
      intro c ob e
      cases hc : H c with
      | none => exact un.keep c ob e hc (fun z => List.not_mem_nil (show c ∈ ([] : List Addr) from z)) (List.not_mem_nil)
      | some u =>
        rcases only c with z | ⟨o2, ys, z⟩
        · rw [hc] at z
          cases z
        · obtain ⟨g1, _⟩ := held c _ z
          obtain ⟨g2, _⟩ := held2 c _ (un.frzs c o2 _ z)
          rw [e] at g1
          cases g1
          exact g2
  cases hk : K.lookup a with
  | some ob =>
    have z := inK a ob hk
    rw [scr] at z
    cases z
    have sq : SqL K (fun _ => none) a (ns.map V.int) := Or.inr ⟨_, us.toArray, _, hk, rfl, rfl, rfl, by rw [List.size_toArray, isI.length]; exact small, by simpa using relI⟩
    exact go (fun _ => none) (fun _ => Or.inl rfl) sq (fun c u z => nomatch (show (none : Option HO) = some u from z)) (fun c z => (z rfl).elim) fun z => (z rfl).elim
  | none =>
    obtain ⟨ob, hob⟩ : ∃ ob : Obj, ob = { cls := .type "list", data := .seq us.toArray } := ⟨_, rfl⟩
    rw [← hob] at scr
    have atA : (upd (fun _ => none) a (.frz ob (.lst (ns.map V.int))) : Hp) a = some (.frz ob (.lst (ns.map V.int))) := upd_same
    have off : ∀ c, c ≠ a → (upd (fun _ => none) a (.frz ob (.lst (ns.map V.int))) : Hp) c = none := fun c hc => upd_ne hc
    refine go (upd (fun _ => none) a (.frz ob (.lst (ns.map V.int)))) ?_ (Or.inl (Or.inr ⟨ob, atA⟩)) ?_ ?_ (fun _ => hk)
    · intro c
      by_cases hc : c = a
      · subst hc
        exact Or.inr ⟨_, _, atA⟩
      · exact Or.inl (off c hc)
    · intro c u z
      by_cases hc : c = a
      · subst hc
        rw [atA] at z
        cases z
        exact ⟨scr, by rw [List.length_map]; exact small, us, _, relI, by rw [scr, hob]⟩
      · rw [off c hc] at z
        cases z
    · intro c z
      by_cases hc : c = a
      · exact hc
      · exact (z (off c hc)).elim
theorem walk_ofG {l : PySem.W.OpenLaw} {n k : Nat} {q : Program} {loose : List Str} {XP : (Str → Option Value) → Heap → Prop} {YP : World → Heap → Prop} {d : DefRec} {CX : World → CXT} {x : Str}
    (hn : l.most = some n) (hn2 : n ≤ sizeLine) (hdf : d.params.defaults = []) (room : DL.Room k callerA)
    (F : ∀ (w : World) (mg : Str → Option Value) (fa : Addr) (h : Heap), YP w h → h.Ns mainGlobals mg → mg d.name = some (.ref fa) →
      ∃ (K : PySem.W.Frag) (fd : FuncData) (sp : Sp), K.In h ∧ (∀ (s : Shared) (u : Value), BindsTo s fd ⟨[u], []⟩ [(x, u)]) ∧
        (∀ (H : Hp) (a : Addr) (ns : List Int), ns.length ≤ n → L2.Only H → SqL K H a (ns.map V.int) → sp [.ref a] H (fun v _ => v = .bl true) fun _ _ _ => False) ∧
        ∀ base : Heap, K.In base → base.Ns mainGlobals mg → DL.FnOk l.prog w K mg base (CX w) k fa fd [x] sp)
    (noEx : ∀ (w : World) (H : Hp) (s : Shared) (e : Value) (s' : Shared), CX w [] H s (fun _ _ _ => False) e s' → False) :
    PySem.W.WalkO q loose XP YP l.row.toRowW d [] (fun f vs => PySem.call f vs) := by
  refine Att.attach_call hn hdf ?_
  intro w _ t mg _ fa _ _ _ _ a us ns G Y _ _ _ hmg scr isI many gns
  obtain ⟨K, fd, sp, inK, bi, want, hF⟩ := F w mg fa _ Y G.T.g hmg
  exact law_run inK G.T.g G.T.b G.T.builtins G.T.nolimit gns scr isI (Nat.le_trans many hn2) room hF bi (fun H hO hS => want H a ns many hO hS) fun H e s' => noEx w H t e s'
end DL
set_option Elab.async false
set_option linter.all false
set_option maxRecDepth 100000
set_option maxHeartbeats 4000000
namespace DL
open PySem PySem.Spec PyProof.Rows L2
abbrev Fn := List D → Sto → R D
def spD (K : PySem.W.Frag) (mg : Str → Option Value) (n : Nat) (F : Fn) : Sp := fun vs H Q E => ∃ B m S ds, Rl K mg B m H S ∧ RepA K H (Fo B m S) m vs ds ∧ vs.length = n ∧ fin K mg (fun cls dd _ H' => E cls dd H') B m S [] H (F ds S) Q
/-- a def's body -/
def fnB (n : Nat) (b : Sx) : Fn := fun ds S => match b (ds.map some ++ List.replicate (n - ds.length) none) S with
  | .fl (.nx _) S' => .ok .non S'
  | .fl (.rt d) S' => .ok d S'
  | .exc c p _ S' => .exc c p S'
  | _ => .bad
section
variable {K : PySem.W.Frag} {mg : Str → Option Value} {H : Hp} {Fb : Addr → Prop} {m : List Addr}
theorem repE_start {N : List Str} {vs : List V} {ds : List D} (q : RepA K H Fb m vs ds) : RepE K H Fb m (L2.start N vs) (ds.map some ++ List.replicate (N.length - ds.length) none) := by
  have hl := q.length
  refine ⟨by simp [L2.start, hl], fun i d e => ?_⟩
  by_cases hi : i < ds.length
  · rw [List.getElem?_append_left (by simpa using hi)] at e
    rw [List.getElem?_map] at e
    cases e1 : ds[i]? with
    | none => rw [e1] at e; cases e
    | some d' =>
      rw [e1] at e
      cases e
      obtain ⟨v, ev, r⟩ := q.get e1
      refine ⟨v, ?_, r⟩
      unfold L2.start
      rw [List.getElem?_append_left (by simp [hl]; exact hi), List.getElem?_map, ev]
      rfl
  · rw [List.getElem?_append_right (by simpa using hi)] at e
    rw [List.getElem?_replicate] at e
    split at e <;> cases e
end
section
variable {P : Program} {w : World} {K : PySem.W.Frag} {mg : Str → Option Value} {base : Heap}
/-- the wish of a def's body -/
abbrev WB (E : XK) : WX := fun c d _ H => E c d H
end
/-- a call -/
def eFn (F : Fn) (fs : List Ex) : Ex := fun ρ S => (evL fs ρ S).bind fun ds S => F ds S
section
variable {X : Cx} {W : WX} {f : Addr} {fd : FuncData} {ps : List Str} {n k : Nat} {F : Fn} {x : Str} {p pos : Pos} {e : Expr} {es : List Expr} {fs : List Ex}
theorem fin_call {K : PySem.W.Frag} {mg : Str → Option Value} {B : Addr → Prop} {m : List Addr} {S : Sto} {σ : L2.St} {H : Hp} {Q : VK} {r : R D} (h : fin K mg W B m S σ H r Q) : fin K mg (fun cls dd _ H' => WE W σ cls dd H') B m S [] H r Q := by
  cases r with
  | ok d S' => exact h
  | exc c p S' => exact h
  | bad => exact h
theorem ev_fn (FO : DL.FnOk X.prog X.w X.K X.mg X.base (L2.CX X.prog X.w) k f fd ps (spD X.K X.mg n F)) (hr : DL.Room k X.A) (hg : Gl X x) (hm : X.mg x = some (.ref f)) (hk : PySem.W.keepIn X.K (.ref f) = true) (hb : Binds X.K fd ps []) (tk : Takes X W)
    (ha : EVA X W (e :: es) fs) (hn : fs.length = n) (hdb : (x == ("__debug__" : Str)) = false := by decide) (he : starEach (e :: es) X.env = (false, eval e X.env) :: starEach es X.env := by rfl) (hpl : (backTo pos (starEach es X.env)).any (·.1) = false := by rfl) :
    EV X W (.Call (.Name x p) (e :: es) [] pos) (eFn F fs) := by
  refine pe_imp (pe_callD1 FO hr hg hm hk hb (fun σ => passAt tk σ) ha hdb he hpl) fun σ H Q h => ?_
  obtain ⟨B, m, ρ, S, r, re, g⟩ := h
  refine ⟨B, m, ρ, S, r, re, ?_⟩
  -- the number of arguments
  have hl : ∀ (fs : List Ex) (ρ : Ev) (S S' : Sto) (ds : List D), evL fs ρ S = .ok ds S' → ds.length = fs.length := by
    intro fs
    induction fs with
    | nil => intro ρ S S' ds e; unfold evL at e; cases e; rfl
    | cons f fs ih =>
      intro ρ S S' ds e
      unfold evL at e
      cases e1 : f ρ S with
      | bad => rw [e1] at e; cases e
      | exc c p S1 => rw [e1] at e; cases e
      | ok d S1 =>
        rw [e1] at e
        simp only [R.bind] at e
        cases e2 : evL fs ρ S1 with
        | bad => rw [e2] at e; cases e
        | exc c p S1 => rw [e2] at e; cases e
        | ok ds2 S2 =>
          rw [e2] at e
          cases e
          simp [ih ρ S1 _ ds2 e2]
  have g' : fin X.K X.mg W B m S σ H ((evL fs ρ S).bind fun ds S => F ds S) Q := g
  cases e1 : evL fs ρ S with
  | bad => rw [e1] at g'; exact g'.elim
  | exc c p S1 => rw [e1] at g'; exact g'
  | ok ds S1 =>
    rw [e1] at g'
    exact fun m1 H1 vs p q => ⟨B, m1, S1, ds, p.rl, q, by rw [q.length, hl _ _ _ _ _ e1, hn], fin_call (fin.later p g')⟩
end
mutual
def noRef : D → Bool
  | .ref _ => false
  | .tup xs => noRefs xs
  | .lst xs => noRefs xs
  | .dic _ kvs => noRefK kvs
  | .exn _ p => noRef p
  | _ => true
def noRefs : List D → Bool
  | [] => true
  | d :: ds => noRef d && noRefs ds
def noRefK : List (D × D) → Bool
  | [] => true
  | (a, b) :: ds => noRef b && noRefK ds
end
/-- a def that asks and tells plain data: run apart -/
def fnP (F : Fn) : Fn := fun ds S => if noRefs ds = true then match F ds [] with
  | .ok d _ => if noRef d = true then .ok d S else .bad
  | .exc c p _ => if noRef p = true then .exc c p S else .bad
  | .bad => .bad else .bad
section
variable {K : PySem.W.Frag} {mg : Str → Option Value} {H : Hp} {Fb Fb' : Addr → Prop} {m m' : List Addr}
mutual
theorem Rep.noRef (hf : ∀ a, Fb' a → Fb a) : ∀ {v : V} {d : D}, Rep K H Fb m v d → noRef d = true → Rep K H Fb' m' v d
  | _, _, .non, _ => .non
  | _, _, .bl b, _ => .bl b
  | _, _, .int i, _ => .int i
  | _, _, .str x, _ => .str x
  | _, _, .tup h z r, e => .tup h z (RepA.noRef hf r (by simpa [DL.noRef] using e))
  | _, _, .lst h f z r, e => .lst h (fun y => f (hf _ y)) z (RepA.noRef hf r (by simpa [DL.noRef] using e))
  | _, _, .dK h z q r, e => .dK h z q (RepA.noRef hf r (noRefK_vals _ (by simpa [DL.noRef] using e)))
  | _, _, .dT h z q r, e => .dT h z q (RepA.noRef hf r (noRefK_vals _ (by simpa [DL.noRef] using e)))
  | _, _, .ref h, e => by simp [DL.noRef] at e
  | _, _, .raw v, _ => .raw v
  | _, _, .scr h z, _ => .scr (h.imp (fun h => ⟨h.1, fun y => h.2 (hf _ y)⟩) id) z
  | _, _, .exn h f, _ => .exn h (fun y => f (hf _ y))
  | _, _, .exp h f h2 f2 n r, e => .exp h (fun y => f (hf _ y)) h2 (fun y => f2 (hf _ y)) n (Rep.noRef hf r (by simpa [DL.noRef] using e))
theorem RepA.noRef (hf : ∀ a, Fb' a → Fb a) : ∀ {vs : List V} {ds : List D}, RepA K H Fb m vs ds → noRefs ds = true → RepA K H Fb' m' vs ds
  | _, _, .nil, _ => .nil
  | _, _, .cons h r, e => by
    have e' := Bool.and_eq_true_iff.mp (by simpa [DL.noRefs] using e : (DL.noRef _ && DL.noRefs _) = true)
    exact .cons (Rep.noRef hf h e'.1) (RepA.noRef hf r e'.2)
theorem noRefK_vals : ∀ (kvs : List (D × D)), noRefK kvs = true → noRefs (kvs.map (·.2)) = true
  | [], _ => by simp [noRefs]
  | (a, b) :: r, e => by
    simp only [noRefK, Bool.and_eq_true] at e
    simp [noRefs, e.1, noRefK_vals r e.2]
end
/-- run apart: what a caller sees -/
theorem Post.apart {B : Addr → Prop} {m m' : List Addr} {S S' : Sto} {H H' : Hp} (r : Rl K mg B m H S) (p : Post K mg (Fo B m S) [] [] H m' S' H') : Post K mg B m S H m S H' ∧ ∀ v d, Rep K H' (Fo (Fo B m S) m' S') m' v d → DL.noRef d = true → Rep K H' (Fo B m S) m v d := by
  have sm : Same H H' := fun a o e => p.keep a o e fun ⟨n, o, e1, e2⟩ => by simp at e1
  exact ⟨Post.grow r sm, fun v d h e => h.noRef (fun a z => .inl z) e⟩
theorem spP_of {n : Nat} {F : Fn} (vs : List V) (H : Hp) (Q : VK) (E : XK) (h : spD K mg n (fnP F) vs H Q E) : spD K mg n F vs H Q E := by
  obtain ⟨B, m, S, ds, r, q, e, g⟩ := h
  unfold fnP at g
  split at g
  · rename_i hd
    refine ⟨Fo B m S, [], [], ds, ⟨rfl, List.nodup_nil, fun a ⟨n, o, e1, e2⟩ => by simp at e1, fun a z => ?_, fun a z => by simp at z, fun n a o e1 e2 => by simp at e1⟩, q.noRef (fun a z => z.elim id fun ⟨n, o, e1, e2⟩ => by simp at e1) hd, e, ?_⟩
    · intro z2
      exact fr_of r a z2 z
    · cases e1 : F ds [] with
      | bad => rw [e1] at g; exact g.elim
      | ok d S' =>
        rw [e1] at g
        dsimp only at g
        split at g
        · rename_i hn
          intro m' H' v p rv
          obtain ⟨p2, k⟩ := Post.apart r p
          exact g m H' v p2 (k v d rv hn)
        · exact g.elim
      | exc c pl S' =>
        rw [e1] at g
        dsimp only at g
        split at g
        · rename_i hn
          intro m' H' cls dd p x
          obtain ⟨p2, k⟩ := Post.apart r p
          refine g m H' cls dd p2 ?_
          obtain ⟨C, h1, h2, h3⟩ := x
          refine ⟨C, h1, h2, h3.imp id ?_⟩
          rintro ⟨h0, a, v, h4, h5, h6⟩
          exact ⟨h0, a, v, h4, h5, k v pl h6 hn⟩
        · exact g.elim
  · exact g.elim
end
def R.nox {α : Type} : R α → R α
  | .ok a S => .ok a S
  | _ => .bad
def wipeD (ρ : Ev) : List Nat → Ev
  | [] => ρ
  | v :: vs => (wipeD ρ vs).set v none
def compL (t : Tg) (tt : Tx) (e : Ex) (vs : List Nat) : List D → Ev → Sto → List D → R (List D)
  | [], _, S, acc => .ok acc S
  | d :: ds, ρ, S, acc => match t.put d (wipeD ρ vs) with
    | none => .bad
    | some ρ1 => (tt ρ1 S).nox.bind fun b S => if b = true then (e ρ1 S).nox.bind fun y S => if acc.length < sizeLine then compL t tt e vs ds ρ S (acc ++ [y]) else .bad else compL t tt e vs ds ρ S acc
def tYesX : Tx := fun _ S => .ok true S
def eComp (it : Ix) (t : Tg) (tt : Tx) (e : Ex) (vs : List Nat) : Ex := fun ρ S => (it ρ S).bind fun xs S => (compL t tt e vs xs ρ S []).bind fun acc S => .ok (.lst acc) S
/-- .. of a list that will be written -/
def eCompM (it : Ix) (t : Tg) (tt : Tx) (e : Ex) (vs : List Nat) : Ex := fun ρ S => (it ρ S).bind fun xs S => (compL t tt e vs xs ρ S []).bind fun acc S => .ok (.ref S.length) (S ++ [some (.lst acc)])
theorem tg_puts_len : ∀ (ts : List Tg) {ds : List D} {ρ ρ' : Ev}, Tg.puts ts ds ρ = some ρ' → ts.length = ds.length
  | [], [], _, _, _ => rfl
  | [], _ :: _, _, _, e => by simp [Tg.puts] at e
  | _ :: _, [], _, _, e => by simp [Tg.puts] at e
  | t :: ts, d :: ds, ρ, ρ', e => by
    simp only [Tg.puts] at e
    split at e
    · rename_i ρ1 e1
      simp [tg_puts_len ts e]
    · cases e
mutual
def Tg.sl : Tg → List Nat
  | .nm i => [i]
  | .tp ts => Tg.sls ts
def Tg.sls : List Tg → List Nat
  | [] => []
  | t :: ts => t.sl ++ Tg.sls ts
end
section
variable {K : PySem.W.Frag} {H : Hp} {Fb : Addr → Prop} {m : List Addr}
mutual
theorem Tg.rd_okP {A : L2.St → Prop} : ∀ (t : Tg) {v : V} {d : D} {σ : L2.St} {ρ ρ' : Ev} {Q : L2.St → Hp → Prop}, (∀ σ i v, i ∈ t.sl → A σ → A (σ.set i (some v))) → t.put d ρ = some ρ' → Rep K H Fb m v d → RepE K H Fb m σ ρ → A σ → (∀ σ', RepE K H Fb m σ' ρ' → A σ' → Q σ' H) → Tg.rd K t v σ H Q
  | .nm i, v, d, σ, ρ, ρ', Q, hA, e, r, re, a, q => by
    simp only [Tg.put, Option.some.injEq] at e
    subst e
    exact q _ (re.set r) (hA _ _ _ (by simp [Tg.sl]) a)
  | .tp ts, v, d, σ, ρ, ρ', Q, hA, e, r, re, a, q => by
    cases d with
    | tup ds =>
      cases r with
      | tup h z rr =>
        have e' : Tg.puts ts ds ρ = some ρ' := by simpa [Tg.put] using e
        exact ⟨_, _, rfl, h, by rw [rr.length]; exact (tg_puts_len ts e').symm, Tg.rds_okP ts (by simpa [Tg.sl] using hA) e' rr re a q⟩
    | _ => simp [Tg.put] at e
theorem Tg.rds_okP {A : L2.St → Prop} : ∀ (ts : List Tg) {vs : List V} {ds : List D} {σ : L2.St} {ρ ρ' : Ev} {Q : L2.St → Hp → Prop}, (∀ σ i v, i ∈ Tg.sls ts → A σ → A (σ.set i (some v))) → Tg.puts ts ds ρ = some ρ' → RepA K H Fb m vs ds → RepE K H Fb m σ ρ → A σ → (∀ σ', RepE K H Fb m σ' ρ' → A σ' → Q σ' H) → Tg.rds K ts vs σ H Q
  | [], vs, ds, σ, ρ, ρ', Q, hA, e, r, re, a, q => by
    cases ds with
    | nil =>
      cases r
      simp only [Tg.puts, Option.some.injEq] at e
      subst e
      exact ⟨rfl, q σ re a⟩
    | cons _ _ => simp [Tg.puts] at e
  | t :: ts, vs, ds, σ, ρ, ρ', Q, hA, e, r, re, a, q => by
    cases ds with
    | nil => simp [Tg.puts] at e
    | cons d ds =>
      cases r with
      | cons r rr =>
        simp only [Tg.puts] at e
        split at e
        · rename_i ρ1 e1
          exact ⟨_, _, rfl, Tg.rd_okP t (fun σ i v h => hA σ i v (by simp [Tg.sls, h])) e1 r re a fun σ' re' a' => Tg.rds_okP ts (fun σ i v h => hA σ i v (by simp [Tg.sls, h])) e rr re' a' q⟩
        · cases e
end
theorem wipe_get (σ : L2.St) : ∀ (vs : List Nat) (j : Nat), (wipe σ vs)[j]? = if j ∈ vs ∧ j < σ.length then some none else σ[j]?
  | [], j => by simp [wipe]
  | v :: vs, j => by
    unfold wipe
    rw [List.getElem?_set, wipe_get σ vs j, wipe_length]
    by_cases h1 : v = j
    · subst h1
      by_cases h2 : v < σ.length <;> simp [h2]
    · have : ¬ j = v := fun e => h1 e.symm
      simp [h1, this]
theorem wipe_set {σ : L2.St} {vs : List Nat} {i : Nat} {v : Option V} (h : i ∈ vs) : wipe (σ.set i v) vs = wipe σ vs := by
  apply List.ext_getElem?
  intro j
  rw [wipe_get, wipe_get]
  by_cases h1 : j = i
  · subst h1
    by_cases h2 : j < σ.length <;> simp [h, h2]
  · rw [List.getElem?_set_ne (Ne.symm h1)]
    simp
theorem wipeD_get (ρ : Ev) : ∀ (vs : List Nat) (j : Nat) d, (wipeD ρ vs)[j]? = some (some d) → ρ[j]? = some (some d) ∧ j ∉ vs
  | [], j, d, h => by simpa [wipeD] using h
  | v :: vs, j, d, h => by
    unfold wipeD at h
    rw [List.getElem?_set] at h
    split at h
    · split at h <;> simp at h
    · rename_i hj
      have := wipeD_get ρ vs j d h
      exact ⟨this.1, by simp; exact ⟨fun e => hj e.symm, this.2⟩⟩
theorem wipeD_length (ρ : Ev) : ∀ vs : List Nat, (wipeD ρ vs).length = ρ.length
  | [] => rfl
  | v :: vs => by unfold wipeD; rw [List.length_set, wipeD_length ρ vs]
theorem RepE.wipe {σ : L2.St} {ρ : Ev} (h : RepE K H Fb m σ ρ) (vs : List Nat) : RepE K H Fb m (L2.wipe σ vs) (wipeD ρ vs) := by
  refine ⟨by rw [wipe_length, wipeD_length]; exact h.1, fun i d e => ?_⟩
  obtain ⟨e1, e2⟩ := wipeD_get ρ vs i d e
  obtain ⟨v, ev, r⟩ := h.2 i d e1
  refine ⟨v, ?_, r⟩
  rw [wipe_get, if_neg (fun z => e2 z.1)]
  exact ev
end
abbrev W0 : WX := fun _ _ _ _ => False
theorem fin.nox {K : PySem.W.Frag} {mg : Str → Option Value} {W : WX} {B : Addr → Prop} {m : List Addr} {S : Sto} {σ : L2.St} {H : Hp} {r : R D} {Q : VK} (h : fin K mg W B m S σ H r.nox Q) : fin K mg W0 B m S σ H r Q := by
  cases r with
  | ok d S' => exact h
  | exc c p S' => exact h.elim
  | bad => exact h
theorem R.nox_ok {α β : Type} {r : R α} {g : α → Sto → R β} : (∃ a S, r = .ok a S ∧ r.nox.bind g = g a S) ∨ r.nox.bind g = .bad := by
  cases r with
  | ok a S => exact .inl ⟨a, S, rfl, rfl⟩
  | exc c p S => exact .inr rfl
  | bad => exact .inr rfl
/-- all but what is live: without the state's own rule -/
structure Pc (m : List Addr) (S : Sto) (H : Hp) (m' : List Addr) (S' : Sto) (H' : Hp) : Prop where
  ext : ∃ l, m' = m ++ l ∧ ∀ a, a ∈ l → H a = none
  keep : ∀ a o, H a = some o → ¬ Liv m S a → H' a = some o
  smm : ∀ a, H a ≠ none → H' a ≠ none
  liv : ∀ a, Liv m' S' a → Liv m S a ∨ H a = none
section
variable {K : PySem.W.Frag} {mg : Str → Option Value} {B : Addr → Prop} {m m' m1 m2 : List Addr} {S S' S1 S2 : Sto} {H H' H1 H2 : Hp}
theorem Post.pc (p : Post K mg B m S H m' S' H') : Pc m S H m' S' H' := ⟨p.ext, p.keep, p.smm, p.liv⟩
theorem Pc.trans (p : Pc m S H m1 S1 H1) (q : Pc m1 S1 H1 m2 S2 H2) : Pc m S H m2 S2 H2 := by
  refine ⟨?_, fun a o h hl => ?_, fun a h => q.smm a (p.smm a h), fun a h => ?_⟩
  · obtain ⟨l, e, f⟩ := p.ext
    obtain ⟨l', e', f'⟩ := q.ext
    refine ⟨l ++ l', by rw [e', e, List.append_assoc], fun a h => ?_⟩
    rcases List.mem_append.mp h with h | h
    · exact f a h
    · have z := f' a h
      cases q2 : H a with
      | none => rfl
      | some o => exact absurd z (p.smm a (by rw [q2]; simp))
  · refine q.keep a o (p.keep a o h hl) fun l1 => ?_
    rcases p.liv a l1 with z | z
    · exact hl z
    · rw [h] at z; cases z
  · rcases q.liv a h with z | z
    · exact p.liv a z
    · right
      cases q2 : H a with
      | none => rfl
      | some o => exact absurd z (p.smm a (by rw [q2]; simp))
/-- a place that is not ours is written: D was new -/
theorem Pc.over (p : Pc m S H m' S' H') {D : Addr} {o : HO} (hD : H D = none) : Pc m S H m' S' (upd H' D o) :=
  ⟨p.ext, fun a u h hl => by rw [upd_ne (ne_of_none h hD)]; exact p.keep a u h hl, fun a h => by
    by_cases e : a = D
    · subst e; rw [upd_same]; simp
    · rw [upd_ne e]; exact p.smm a h, p.liv⟩
/-- B and one place more -/
def BD (B : Addr → Prop) (D : Addr) : Addr → Prop := fun a => B a ∨ a = D
theorem kp_write {Fb : Addr → Prop} {D : Addr} {acc : List V} {o : HO} (hD : H D = some (.lst acc)) (hF : Fb D) : Kp H (upd H D o) Fb Fb m m := by
  have ne : ∀ a, ¬ Fb a → a ≠ D := fun a f e => f (e ▸ hF)
  refine ⟨fun a xs h f => by rw [upd_ne (ne a f)]; exact h, fun a u h f => ?_, fun a o f h => ?_, fun _ _ _ f => f, fun _ _ h => h⟩
  · unfold Rd; rw [upd_ne (ne a f)]; exact h
  · have : a ≠ D := by
      rintro rfl
      rw [hD] at h
      cases h
      exact f
    rw [upd_ne this]; exact h
theorem Rl.write {D : Addr} {acc : List V} {o : HO} (r : Rl K mg (BD B D) m H S) (hD : H D = some (.lst acc)) : Rl K mg (BD B D) m (upd H D o) S := by
  have kp : Kp H (upd H D o) (Fo (BD B D) m S) (Fo (BD B D) m S) m m := kp_write hD (.inl (.inr rfl))
  have nD : ∀ a, Liv m S a → a ≠ D := fun a h e => r.nb a h (.inr e)
  have sm : ∀ a, H a ≠ none → upd H D o a ≠ none := fun a h => by
    by_cases e : a = D
    · subst e; rw [upd_same]; simp
    · rw [upd_ne e]; exact h
  refine ⟨r.len, r.nod, r.nb, fun a h => sm a (r.bt a h), fun a h => sm a (r.mt a h), fun n a u e1 e2 => ?_⟩
  have na : a ≠ D := nD a ⟨n, u, e1, e2⟩
  cases r.obj n a u e1 e2 with
  | lst h z q => exact .lst (by rw [upd_ne na]; exact h) z (q.kp kp)
  | dK h z e q => exact .dK (by rw [upd_ne na]; exact h) z e (q.kp kp)
  | dT h z e q => exact .dT (by rw [upd_ne na]; exact h) z e (q.kp kp)
  | ins g h e q => exact .ins g (by rw [upd_ne na]; exact h) e (q.kp kp)
theorem kp_anti {Fb Fb' : Addr → Prop} (h : ∀ a, Fb' a → Fb a) : Kp H H Fb Fb' m m := ⟨fun _ _ h _ => h, fun _ _ h _ => h, fun _ _ _ h => h, fun a _ _ f z => f (h a z), fun _ _ h => h⟩
theorem Rl.less {B' : Addr → Prop} (r : Rl K mg B m H S) (h : ∀ a, B' a → B a) : Rl K mg B' m H S := by
  have kp : Kp H H (Fo B m S) (Fo B' m S) m m := kp_anti fun a z => z.imp (h a) id
  refine ⟨r.len, r.nod, fun a l z => r.nb a l (h a z), fun a z => r.bt a (h a z), r.mt, fun n a u e1 e2 => ?_⟩
  cases r.obj n a u e1 e2 with
  | lst h z q => exact .lst h z (q.kp kp)
  | dK h z e q => exact .dK h z e (q.kp kp)
  | dT h z e q => exact .dT h z e (q.kp kp)
  | ins g h e q => exact .ins g h e (q.kp kp)
/-- a new place D that is not ours -/
theorem kp_aside {D : Addr} {o : HO} (hD : H D = none) : Kp H (upd H D o) (Fo B m S) (Fo (BD B D) m S) m m := by
  have s := same_upd (o := o) hD
  refine ⟨fun a xs h _ => s _ _ h, fun a u h _ => h.elim (fun h => .inl (s _ _ h)) fun ⟨o, h⟩ => .inr ⟨o, s _ _ h⟩, fun a o _ h => s _ _ h, fun a u h f z => ?_, fun _ _ h => h⟩
  rcases z with (z | z) | z
  · exact f (.inl z)
  · obtain ⟨o, e⟩ := rd_some h
    rw [z, hD] at e; cases e
  · exact f (.inr z)
theorem Rl.aside (r : Rl K mg B m H S) {D : Addr} {o : HO} (hD : H D = none) : Rl K mg (BD B D) m (upd H D o) S := by
  have s := same_upd (o := o) hD
  have kp := kp_aside (B := B) (m := m) (S := S) (o := o) hD
  have sm : ∀ a, H a ≠ none → upd H D o a ≠ none := fun a h => by
    cases e : H a with
    | none => exact absurd e h
    | some o => rw [s _ _ e]; simp
  refine ⟨r.len, r.nod, fun a l z => ?_, fun a z => ?_, fun a h => sm a (r.mt a h), fun n a u e1 e2 => ?_⟩
  · rcases z with z | z
    · exact r.nb a l z
    · obtain ⟨n, u, e1, e2⟩ := l
      exact r.mt a (List.mem_of_getElem? e1) (z ▸ hD)
  · rcases z with z | z
    · exact sm a (r.bt a z)
    · rw [z, upd_same]; simp
  · cases r.obj n a u e1 e2 with
    | lst h z q => exact .lst (s _ _ h) z (q.kp kp)
    | dK h z e q => exact .dK (s _ _ h) z e (q.kp kp)
    | dT h z e q => exact .dT (s _ _ h) z e (q.kp kp)
    | ins g h e q => exact .ins g (s _ _ h) e (q.kp kp)
end
section
variable {X : Cx} {W : WX} {tg iter elt : Expr} {ifs : List Expr} {fi : Ix} {t : Tg} {tt : Tx} {fe : Ex} {scope : Scope} {own : List (Str × Nat)} {pos : Pos}
/-- the tests of a clause -/
def TVs (X : Cx) (W : WX) (ifs : List Expr) (f : Tx) : Prop := PTs X ifs (upT X.K X.mg W f)
theorem tvs_nil : TVs X W [] tYesX := ⟨fun pins s σ H Q I ⟨B, m, ρ, S, r, re, f⟩ => pts_nil.run pins s σ H Q I (f m H (Post.refl r))⟩
theorem tvs_one {c : Expr} (h : TV X W c tt) : TVs X W [c] tt := ⟨fun pins s σ H Q I q => (pts_one h).run pins s σ H Q I q⟩
theorem finI.bind {K : PySem.W.Frag} {mg : Str → Option Value} {B : Addr → Prop} {m : List Addr} {S : Sto} {σ : L2.St} {H : Hp} {Q : VK} {r : R (List D)} {g : List D → Sto → R D} (h : fin K mg W B m S σ H (r.bind g) Q) :
    finI K mg W B m S σ H r (fun J H1 => ∃ m1 S1 xs, Post K mg B m S H m1 S1 H1 ∧ ItR K H1 (Fo B m1 S1) m1 J xs ∧ fin K mg W B m1 S1 σ H1 (g xs S1) Q) := by
  cases r with
  | ok d S' => exact fun m' H' J p q => ⟨m', S', d, p, q, fin.later p h⟩
  | exc c p' S' => exact h
  | bad => exact h
theorem notin_ext {D : Addr} {m m' : List Addr} {H : Hp} {o : HO} (h : D ∉ m) (e : ∃ l, m' = m ++ l ∧ ∀ a, a ∈ l → H a = none) (hD : H D = some o) : D ∉ m' := by
  obtain ⟨l, e, f⟩ := e
  subst e
  intro z
  rcases List.mem_append.mp z with z | z
  · exact h z
  · rw [f D z] at hD; cases hD
/-- the walk of a comprehension, whatever is made of the list -/
theorem lc_of {K : PySem.W.Frag} {mg : Str → Option Value} {σ : L2.St} {H : Hp} {Q : VK} {vs : List Nat} {Fin : List D → Sto → R D} (hv : ∀ i ∈ t.sl, i ∈ vs) (h : up K mg W (fun ρ S => (fi ρ S).bind fun xs S => (compL t tt fe vs xs ρ S []).bind Fin) σ H Q)
    (hf : ∀ B m1 S1 H1 m2 S2 H2 D acc ds, Rl K mg B m1 H1 S1 → H1 D = none → Pc m1 S1 H1 m2 S2 H2 → Rl K mg (BD B D) m2 H2 S2 → H2 D = some (.lst acc) → RepA K H2 (Fo (BD B D) m2 S2) m2 acc ds → acc.length ≤ sizeLine → D ∉ m2 → fin K mg W B m1 S1 σ H1 (Fin ds S2) Q → Q (.ref D) H2) :
    tLc (upI K mg W fi) (Tg.rd K t) (upT K mg W0 tt) (up K mg W0 fe) vs σ H Q := by
  obtain ⟨B, m, ρ, S, r, re, f⟩ := h
  refine ⟨B, m, ρ, S, r, re, finI.mono (finI.bind f) fun J H1 => ?_⟩
  rintro ⟨m1, S1, xs, p1, itr, f1⟩ D hD
  have re1 := re.kp (p1.kp r)
  have k0 := kp_aside (B := B) (m := m1) (S := S1) (o := .lst []) hD
  refine ⟨fun i n H => n = xs.length - i ∧ i ≤ xs.length ∧ ∃ m2 S2 acc ds, Pc m1 S1 H1 m2 S2 H ∧ Kp H1 H (Fo B m1 S1) (Fo (BD B D) m2 S2) m1 m2 ∧ Rl K mg (BD B D) m2 H S2 ∧ H D = some (.lst acc) ∧ RepA K H (Fo (BD B D) m2 S2) m2 acc ds ∧ acc.length ≤ sizeLine ∧ D ∉ m2 ∧
      fin K mg W B m1 S1 σ H1 ((compL t tt fe vs (xs.drop i) ρ S2 ds).bind Fin) Q,
    ⟨xs.length, by simp, Nat.zero_le _, m1, S1, [], [], (Post.refl p1.rl).pc.over hD, k0, p1.rl.aside hD, upd_same, .nil, by simp, fun z => p1.rl.mt D z hD, by simpa using f1⟩, ?_⟩
  rintro i n H2 ⟨rfl, hi, m2, S2, acc, ds, pc, kp, rl, hacc, qa, za, nD, f2⟩
  obtain ⟨go, stop⟩ := itr H2 _ m2 kp
  by_cases hlt : i < xs.length
  · right
    refine ⟨(go i hlt).1, fun H' => ∃ m3 S3 acc ds, Pc m1 S1 H1 m3 S3 H' ∧ Kp H1 H' (Fo B m1 S1) (Fo (BD B D) m3 S3) m1 m3 ∧ Rl K mg (BD B D) m3 H' S3 ∧ H' D = some (.lst acc) ∧ RepA K H' (Fo (BD B D) m3 S3) m3 acc ds ∧ acc.length ≤ sizeLine ∧ D ∉ m3 ∧
      fin K mg W B m1 S1 σ H1 ((compL t tt fe vs (xs.drop (i + 1)) ρ S3 ds).bind Fin) Q, ?_, ?_⟩
    · rintro H' ⟨m3, S3, acc3, ds3, h3⟩
      exact ⟨_, by omega, rfl, hlt, m3, S3, acc3, ds3, h3⟩
    · intro x H3 y
      obtain ⟨d, ed, sm, rx⟩ := (go i hlt).2 x H3 y
      have p3 : Post K mg (BD B D) m2 S2 H2 m2 S2 H3 := Post.grow rl sm
      have kp3 := kp.trans (p3.kp rl)
      have ed' : xs[i] = d := by
        have := List.getElem?_eq_getElem hlt
        rw [this] at ed
        exact Option.some.inj ed
      rw [List.drop_eq_getElem_cons hlt, ed'] at f2
      unfold compL at f2
      cases e1 : t.put d (wipeD ρ vs) with
      | none => rw [e1] at f2; exact f2.elim
      | some ρ4 =>
        rw [e1] at f2
        dsimp only at f2
        refine Tg.rd_okP (A := fun σ' => L2.wipe σ' vs = L2.wipe σ vs) t (fun σ i v h1 h2 => by rw [wipe_set (hv i h1)]; exact h2) e1 rx ((re1.kp kp3).wipe vs) ?_ fun σ4 re4 a4 => ⟨a4, BD B D, m2, ρ4, S2, p3.rl, re4, ?_⟩
        · apply List.ext_getElem?
          intro j
          rw [wipe_get, wipe_get, wipe_length]
          by_cases h1 : j ∈ vs ∧ j < σ.length
          · simp [h1]
          · simp [h1]
        · -- the test
          rcases R.nox_ok (r := tt ρ4 S2) (g := fun b S => if b = true then (fe ρ4 S).nox.bind fun y S => if ds.length < sizeLine then compL t tt fe vs (xs.drop (i + 1)) ρ S (ds ++ [y]) else .bad else compL t tt fe vs (xs.drop (i + 1)) ρ S ds) with ⟨b, S5, e5, e6⟩ | e6
          · rw [e6] at f2
            rw [e5]
            intro m5 H5 p5
            have kp5 := kp3.trans (p5.kp p3.rl)
            have pc5 : Pc m1 S1 H1 m5 S5 H5 := (pc.trans p3.pc).trans p5.pc
            have hacc5 : H5 D = some (.lst acc) := p5.keep _ _ (p3.keep _ _ hacc fun z => rl.nb _ z (.inr rfl)) fun z => p3.rl.nb _ z (.inr rfl)
            have qa5 := (qa.kp (p3.kp rl)).kp (p5.kp p3.rl)
            have nD5 : D ∉ m5 := notin_ext nD p5.ext (p3.keep _ _ hacc fun z => rl.nb _ z (.inr rfl))
            cases b with
            | false =>
              rw [if_neg Bool.false_ne_true] at f2 ⊢
              exact ⟨m5, S5, acc, ds, pc5, kp5, p5.rl, hacc5, qa5, za, nD5, f2⟩
            | true =>
              rw [if_pos rfl] at f2 ⊢
              rcases R.nox_ok (r := fe ρ4 S5) (g := fun y S => if ds.length < sizeLine then compL t tt fe vs (xs.drop (i + 1)) ρ S (ds ++ [y]) else .bad) with ⟨y, S6, e7, e8⟩ | e8
              · rw [e8] at f2
                refine ⟨BD B D, m5, ρ4, S5, p5.rl, re4.kp (p5.kp p3.rl), ?_⟩
                rw [e7]
                intro m6 H6 v p6 rv
                have hacc6 : H6 D = some (.lst acc) := p6.keep _ _ hacc5 fun z => p5.rl.nb _ z (.inr rfl)
                split at f2
                · rename_i hz
                  have hl : acc.length = ds.length := qa.length
                  refine ⟨acc, hacc6, by rw [hl]; exact hz, m6, S6, acc ++ [v], ds ++ [y], (pc5.trans p6.pc).over hD, (kp5.trans (p6.kp p5.rl)).trans (kp_write hacc6 (.inl (.inr rfl))), p6.rl.write hacc6, upd_same, ?_, by simp; omega, notin_ext nD5 p6.ext hacc5, f2⟩
                  exact ((qa5.kp (p6.kp p5.rl)).append (.cons rv .nil)).kp (kp_write hacc6 (.inl (.inr rfl)))
                · exact f2.elim
              · rw [e8] at f2; exact f2.elim
          · rw [e6] at f2; exact f2.elim
  · left
    have hd : xs.drop i = [] := List.drop_eq_nil_of_le (by omega)
    rw [hd] at f2
    exact ⟨stop i (by omega), hf B m1 S1 H1 m2 S2 H2 D acc ds p1.rl hD pc rl hacc qa za nD f2⟩
theorem post_of_pc {K : PySem.W.Frag} {mg : Str → Option Value} {B : Addr → Prop} {m m' : List Addr} {S S' : Sto} {H H' : Hp} (p : Pc m S H m' S' H') (r : Rl K mg B m' H' S') : Post K mg B m S H m' S' H' := ⟨p.ext, p.keep, p.smm, r, p.liv⟩
theorem fo_bd {B : Addr → Prop} {D : Addr} {m : List Addr} {S : Sto} : ∀ a, Fo B m S a → Fo (BD B D) m S a := fun a z => z.imp .inl id
theorem ev_comp (hc : X.calm = true) (hN : X.N.Nodup) (hi : IV X W tg iter fi) (ok : BlkOk X.N X.env.scope scope own)
    (hg : ∀ (s : Shared) (H : Hp) (C : Addr) (cl : List (Str × Addr)) (fp : List Addr), GV (X.blk s H scope (compEnvC scope cl C X.env) fp) tg t) (ht : ∀ (s : Shared) (H : Hp) (C : Addr) (cl : List (Str × Addr)) (fp : List Addr), TVs (X.blk s H scope (compEnvC scope cl C X.env) fp) W0 ifs tt)
    (he : ∀ (s : Shared) (H : Hp) (C : Addr) (cl : List (Str × Addr)) (fp : List Addr), EV (X.blk s H scope (compEnvC scope cl C X.env) fp) W0 elt fe) (hv : ∀ i ∈ t.sl, i ∈ own.map (·.2) := by decide) (hs : ∀ x, foldedSetIterable iter X.env x = pure x := by intro _; rfl) :
    EV X W (.ListComp elt [⟨tg, iter, ifs, 0⟩] scope pos) (eComp fi t tt fe (own.map (·.2))) := by
  refine pe_imp (pe_lc (g := Tg.rd X.K t) (tt := upT X.K X.mg W0 tt) (te := up X.K X.mg W0 fe) hc hN hi ok hg ht he hs) fun σ H Q h => lc_of hv h fun B m1 S1 H1 m2 S2 H2 D acc ds r1 hD pc rl hacc qa za nD f => ?_
  have rl2 : Rl X.K X.mg B m2 H2 S2 := rl.less fun a z => .inl z
  have nf : ¬ Fo B m2 S2 D := by
    rintro (z | z)
    · exact r1.bt D z hD
    · exact rl.nb D z (.inr rfl)
  exact f m2 H2 _ (post_of_pc pc rl2) (.lst hacc nf za (qa.kp (kp_anti fo_bd)))
end
end DL
set_option Elab.async false
set_option linter.all false
set_option maxRecDepth 100000
set_option maxHeartbeats 4000000
namespace DL
open PySem PySem.Spec PyProof.Rows L2
mutual
def toP : D → Option PyData
  | .non => some .none
  | .bl b => some (.bool b)
  | .int i => some (.int i)
  | .str x => some (.str x)
  | .tup xs => (toPs xs).map .tuple
  | .lst xs => (toPs xs).map .list
  | _ => none
def toPs : List D → Option (List PyData)
  | [] => some []
  | d :: ds => match toP d, toPs ds with
    | some p, some ps => some (p :: ps)
    | _, _ => none
end
def eqS : D → D → Option Bool
  | .str x, .str y => some (decide (x = y))
  | _, _ => none
def eqB (a b : D) : Option Bool := match eqS a b with
  | some c => some c
  | none => match toP a, toP b with
    | some p, some q => if SeqAt.shaped p && SeqAt.shaped q then some (PyData.eqv p q) else none
    | _, _ => none
def eqD (a b : D) : Option D := (eqB a b).map .bl
def neD (a b : D) : Option D := (eqB a b).map fun c => .bl (!c)
section
variable {K : PySem.W.Frag} {H : Hp} {Fb : Addr → Prop} {m : List Addr}
mutual
theorem Rep.dp : ∀ {v : V} {d : D} {p : PyData}, Rep K H Fb m v d → toP d = some p → Dp K H v p
  | _, _, _, .non, e => by cases e; exact .non
  | _, _, _, .bl b, e => by cases e; exact .bl b
  | _, _, _, .int i, e => by cases e; exact .int i
  | _, _, _, .str x, e => by cases e; exact .str x
  | _, _, _, .tup (ds := ds) h z r, e => by
    cases e1 : toPs ds with
    | none => simp [toP, e1] at e
    | some ps => simp [toP, e1] at e; subst e; exact .tup h (RepA.dp r e1)
  | _, _, _, .lst (ds := ds) h f z r, e => by
    cases e1 : toPs ds with
    | none => simp [toP, e1] at e
    | some ps => simp [toP, e1] at e; subst e; exact .lst (SqL.of h) (RepA.dp r e1)
  | _, _, _, .dK h z q r, e => by simp [toP] at e
  | _, _, _, .dT h z q r, e => by simp [toP] at e
  | _, _, _, .ref h, e => by simp [toP] at e
  | _, _, _, .raw v, e => by simp [toP] at e
  | _, _, _, .scr h z, e => by simp [toP] at e
  | _, _, _, .exn h f, e => by simp [toP] at e
  | _, _, _, .exp h f h2 f2 n r, e => by simp [toP] at e
theorem RepA.dp : ∀ {vs : List V} {ds : List D} {ps : List PyData}, RepA K H Fb m vs ds → toPs ds = some ps → DpAll K H vs ps
  | _, _, _, .nil, e => by cases e; exact .nil
  | _, _, _, .cons (d := d) (ds := ds) h r, e => by
    cases e1 : toP d with
    | none => simp [toPs, e1] at e
    | some p =>
      cases e2 : toPs ds with
      | none => simp [toPs, e1, e2] at e
      | some ps => simp [toPs, e1, e2] at e; subst e; exact .cons (Rep.dp h e1) (RepA.dp r e2)
end
theorem Vw.dp {v : V} {d : D} {p : PyData} (h : Vw K H Fb m v d) (e : toP d = some p) : Dp K H v p := by
  cases h with
  | oth h => exact h.dp e
  | lst h z r =>
    rename_i ds
    cases e1 : toPs ds with
    | none => simp [toP, e1] at e
    | some ps => simp [toP, e1] at e; subst e; exact .lst (SqL.of h) (r.dp e1)
  | dK h z q r => simp [toP] at e
  | dT h z q r => simp [toP] at e
end
section
variable {X : Cx}
theorem eqS_some {a b : D} {c : Bool} (e : eqS a b = some c) : ∃ x y, a = .str x ∧ b = .str y ∧ c = decide (x = y) := by
  unfold eqS at e
  split at e
  · cases e
    exact ⟨_, _, rfl, rfl, rfl⟩
  · cases e
theorem eqB_some {a b : D} {c : Bool} (e : eqB a b = some c) : (∃ x y, a = .str x ∧ b = .str y ∧ c = decide (x = y)) ∨ ∃ p q, toP a = some p ∧ toP b = some q ∧ SeqAt.shaped p = true ∧ SeqAt.shaped q = true ∧ c = PyData.eqv p q := by
  unfold eqB at e
  split at e
  · rename_i e0
    cases e
    exact .inl (eqS_some e0)
  · right
    split at e
    · rename_i p q e1 e2
      split at e
      · rename_i h
        cases e
        have := Bool.and_eq_true_iff.mp h
        exact ⟨p, q, e1, e2, this.1, this.2, rfl⟩
      · cases e
    · cases e
theorem og_eq (hu : X.A.units + 64 < cLine) : OpR X (compareOp .Eq) (rG2 X.K eqD) := by
  intro pins s σ H x y v u Q I rx ry ⟨Fb, m, dx, dy, d, fr, vx, vy, e, k⟩
  obtain ⟨c, e1, rfl⟩ := Option.map_eq_some_iff.mp e
  rcases eqB_some e1 with ⟨a, b, rfl, rfl, rfl⟩ | ⟨p, q, a1, a2, a3, a4, rfl⟩
  · cases vx.asS
    cases vy.asS
    have e2 : decide (V.str a = V.str b) = decide (a = b) := by by_cases z : a = b <;> simp [z]
    exact op_eq pins s σ H _ _ v u Q I rx ry ⟨rfl, by rw [e2]; exact k H _ (Same.refl H) (.bl _)⟩
  exact op_eqD hu pins s σ H x y v u Q I rx ry ⟨p, q, vx.dp a1, vy.dp a2, a3, a4, k H _ (Same.refl H) (.bl _)⟩
theorem og_ne (hu : X.A.units + 64 < cLine) : OpR X (compareOp .NotEq) (rG2 X.K neD) := by
  intro pins s σ H x y v u Q I rx ry ⟨Fb, m, dx, dy, d, fr, vx, vy, e, k⟩
  obtain ⟨c, e1, rfl⟩ := Option.map_eq_some_iff.mp e
  rcases eqB_some e1 with ⟨a, b, rfl, rfl, rfl⟩ | ⟨p, q, a1, a2, a3, a4, rfl⟩
  · cases vx.asS
    cases vy.asS
    have e2 : decide (V.str a = V.str b) = decide (a = b) := by by_cases z : a = b <;> simp [z]
    exact op_ne pins s σ H _ _ v u Q I rx ry ⟨rfl, by rw [e2]; exact k H _ (Same.refl H) (.bl _)⟩
  exact op_neD hu pins s σ H x y v u Q I rx ry ⟨p, q, vx.dp a1, vy.dp a2, a3, a4, k H _ (Same.refl H) (.bl _)⟩
def ltD : D → D → Option D
  | .int i, .int j => some (.bl (decide (i < j)))
  | _, _ => none
def leD : D → D → Option D
  | .int i, .int j => some (.bl (decide (i ≤ j)))
  | _, _ => none
def gtD : D → D → Option D
  | .int i, .int j => some (.bl (decide (j < i)))
  | _, _ => none
def geD : D → D → Option D
  | .int i, .int j => some (.bl (decide (j ≤ i)))
  | _, _ => none
theorem og_lt : OpR X (compareOp .Lt) (rG2 X.K ltD) := og_int op_lt fun dx dy d e => by
  unfold ltD at e
  split at e
  · rename_i i j; cases e; exact ⟨i, j, _, rfl, rfl, rfl, fun H Q k => ⟨i, j, rfl, rfl, k _ fun _ _ _ => .bl _⟩⟩
  · cases e
theorem og_le : OpR X (compareOp .LtE) (rG2 X.K leD) := og_int op_le fun dx dy d e => by
  unfold leD at e
  split at e
  · rename_i i j; cases e; exact ⟨i, j, _, rfl, rfl, rfl, fun H Q k => ⟨i, j, rfl, rfl, k _ fun _ _ _ => .bl _⟩⟩
  · cases e
theorem og_gt : OpR X (compareOp .Gt) (rG2 X.K gtD) := og_int op_gt fun dx dy d e => by
  unfold gtD at e
  split at e
  · rename_i i j; cases e; exact ⟨i, j, _, rfl, rfl, rfl, fun H Q k => ⟨i, j, rfl, rfl, k _ fun _ _ _ => .bl _⟩⟩
  · cases e
theorem og_ge : OpR X (compareOp .GtE) (rG2 X.K geD) := og_int op_ge fun dx dy d e => by
  unfold geD at e
  split at e
  · rename_i i j; cases e; exact ⟨i, j, _, rfl, rfl, rfl, fun H Q k => ⟨i, j, rfl, rfl, k _ fun _ _ _ => .bl _⟩⟩
  · cases e
/-- is None -/
def isNonD : D → Option Bool
  | .non => some true
  | .bl _ => some false
  | .int _ => some false
  | .str _ => some false
  | .tup _ => some false
  | .lst _ => some false
  | .dic _ _ => some false
  | .ref _ => some false
  | .scr _ => some false
  | .exn _ _ => some false
  | .raw _ => none
def isD (a b : D) : Option D := match b with
  | .non => (isNonD a).map .bl
  | _ => none
def negD : D → Option D
  | .int i => some (.int (-i))
  | _ => none
theorem og_neg : UnR X (unaryOp .USub) (rG1 X.K negD) := by
  intro pins s σ H x v Q I rx ⟨Fb, m, dx, d, fr, vx, e, k⟩
  unfold negD at e
  split at e
  · rename_i i
    cases e
    cases vx.asI
    exact un_neg pins s σ H _ v Q I rx ⟨i, rfl, k H _ (Same.refl H) (.int _)⟩
  · cases e
def ixD : D → D → Option D
  | .lst xs, .int i => atI xs i
  | .tup xs, .int i => atI xs i
  | .str z, .int i => if z.length ≤ sizeLine then (atI z.cps.toList i).map fun c => .str ⟨#[c]⟩ else none
  | .dic t kvs, y => dgetD (.dic t kvs) y
  | _, _ => none
theorem RepA.atI {K : PySem.W.Frag} {H : Hp} {Fb : Addr → Prop} {m : List Addr} {vs : List V} {ds : List D} (h : RepA K H Fb m vs ds) {i : Int} {d : D} (e : L2.atI ds i = some d) : ∃ v, L2.atI vs i = some v ∧ Rep K H Fb m v d := by
  unfold L2.atI at e ⊢
  rw [h.length]
  cases e1 : ixN ds.length i with
  | none => rw [e1] at e; cases e
  | some j =>
    rw [e1] at e
    obtain ⟨v, ev, r⟩ := h.get (i := j) e
    exact ⟨v, ev, r⟩
theorem og_ix (hu : X.A.units + 64 < cLine) : IxR X (rG2 X.K ixD) := by
  intro value slice pins s σ H x y v u Q I rx ry ⟨Fb, m, dx, dy, d, fr, vx, vy, e, k⟩ hs
  unfold ixD at e
  split at e
  · rename_i xs i
    obtain ⟨a, vs, rfl, h1, z1, q1⟩ := vx.asL
    cases vy.asI
    obtain ⟨w, ew, rw'⟩ := q1.atI e
    exact ix_list value slice pins s σ H _ _ v u Q I rx ry ⟨a, vs, i, w, rfl, rfl, SqL.of h1, ew, k H _ (Same.refl H) rw'⟩ hs
  · rename_i xs i
    obtain ⟨a, vs, rfl, h1, z1, q1⟩ := vx.asT
    cases vy.asI
    obtain ⟨w, ew, rw'⟩ := q1.atI e
    exact ix_tup value slice pins s σ H _ _ v u Q I rx ry ⟨a, vs, i, w, rfl, rfl, h1, ew, k H _ (Same.refl H) rw'⟩ hs
  · rename_i z i
    split at e
    · rename_i hz
      obtain ⟨c, e1, rfl⟩ := Option.map_eq_some_iff.mp e
      cases vx.asS
      cases vy.asI
      exact ix_str value slice pins s σ H _ _ v u Q I rx ry ⟨z, i, c, rfl, rfl, hz, e1, k H _ (Same.refl H) (.str _)⟩ hs
    · cases e
  · obtain ⟨a, w, rfl, g, rw'⟩ := dget_ok vx vy e
    exact ix_dict (by omega) value slice pins s σ H _ _ v u Q I rx ry ⟨a, w, rfl, g, k H _ (Same.refl H) rw'⟩ hs
  · cases e
theorem ev_ix {W : WX} {a b : Expr} {fa fb : Ex} {pos : Pos} (hu : X.A.units + 64 < cLine) (ha : EV X W a fa) (hb : EV X W b fb) (hs : PlainIx b := by exact fun _ _ => rfl) : EV X W (.Subscript a b pos) (eOp2 ixD fa fb) := pe_imp (pe_ix (og_ix hu) ha hb hs) fun σ H Q h => two_of h
/-- a slice's parts -/
def cutD (xs : List D) (lo hi : Option Int) : List D := (xs.drop (HT.sIx xs.length 0 lo)).take (HT.sIx xs.length xs.length hi - HT.sIx xs.length 0 lo)
def slD (d : D) (lo hi : Option Int) : Option D := match d with
  | .lst xs => some (.lst (cutD xs lo hi))
  | .tup xs => some (.tup (cutD xs lo hi))
  | .scr ns => some (.lst (cutD (ns.map .int) lo hi))
  | .str z => if z.length ≤ sizeLine then some (.str (cutS z lo hi)) else none
  | _ => none
def ePart : Option Ex → Ev → Sto → R (Option Int)
  | none, _, S => .ok none S
  | some f, ρ, S => (f ρ S).bind fun d S => match d with
    | .int i => .ok (some i) S
    | _ => .bad
def eSl (a : Ex) (lo hi : Option Ex) : Ex := fun ρ S => (a ρ S).bind fun d S => (ePart lo ρ S).bind fun l S => (ePart hi ρ S).bind fun u S => ans S (slD (view S d) l u)
def rGsl (K : PySem.W.Frag) : V → Option Int → Option Int → Hp → VK → Prop := fun x lo hi H Q => ∃ Fb m dx d, (∀ p, H p = none → ¬ Fb p) ∧ Vw K H Fb m x dx ∧ slD dx lo hi = some d ∧ ∀ H' z, Same H H' → Rep K H' Fb m z d → Q z H'
theorem RepA.cut {K : PySem.W.Frag} {H : Hp} {Fb : Addr → Prop} {m : List Addr} {vs : List V} {ds : List D} (h : RepA K H Fb m vs ds) (lo hi : Option Int) : RepA K H Fb m (cutV vs lo hi) (cutD ds lo hi) := by
  unfold cutV cutD
  rw [h.length]
  exact (h.drop _).take _
theorem repA_ints {K : PySem.W.Frag} {H : Hp} {Fb : Addr → Prop} {m : List Addr} : ∀ ns : List Int, RepA K H Fb m (ns.map V.int) (ns.map D.int)
  | [] => .nil
  | n :: ns => .cons (.int n) (repA_ints ns)
theorem og_sl : SlR X (rGsl X.K) := by
  intro pins s σ H x v vl vu lo hi sl Q I rx hs pl pu ⟨Fb, m, dx, d, fr, vx, e, k⟩
  unfold slD at e
  split at e
  · rename_i xs
    cases e
    obtain ⟨a, vs, rfl, h1, z1, q1⟩ := vx.asL
    refine sl_list pins s σ H _ v vl vu lo hi sl Q I rx hs pl pu ⟨a, vs, rfl, SqL.of h1, fun p hp => ?_⟩
    exact k _ _ (same_upd hp) (.lst upd_same (fr p hp) (Nat.le_trans (cutV_length _ _ _) z1) ((q1.cut lo hi).kp (kp_same (same_upd hp))))
  · rename_i xs
    cases e
    obtain ⟨a, vs, rfl, h1, z1, q1⟩ := vx.asT
    refine sl_tupA pins s σ H _ v vl vu lo hi sl Q I rx hs pl pu ⟨a, vs, rfl, h1, fun hw => ?_, fun _ p hp => ?_⟩
    · refine k H _ (Same.refl H) ?_
      have : cutD xs lo hi = xs := by
        unfold cutD
        rw [← q1.length, hw.1, hw.2]
        simp [q1.length]
      rw [this]
      exact .tup h1 z1 q1
    · exact k _ _ (same_upd hp) (.tup (.of upd_same) (Nat.le_trans (cutV_length _ _ _) z1) ((q1.cut lo hi).kp (kp_same (same_upd hp))))
  · rename_i ns
    cases e
    cases vx with
    | oth h =>
      cases h with
      | scr h z =>
        refine sl_list pins s σ H _ v vl vu lo hi sl Q I rx hs pl pu ⟨_, _, rfl, h.sq, fun p hp => ?_⟩
        exact k _ _ (same_upd hp) (.lst upd_same (fr p hp) (Nat.le_trans (cutV_length _ _ _) (by simpa using z)) (((repA_ints ns).cut lo hi).kp (kp_same (same_upd hp))))
  · rename_i z
    split at e
    · rename_i hz
      cases e
      cases vx.asS
      exact sl_str pins s σ H _ v vl vu lo hi sl Q I rx hs pl pu ⟨z, rfl, hz, k H _ (Same.refl H) (.str _)⟩
    · cases e
  · cases e
section
variable {W : WX}
def finP (K : PySem.W.Frag) (mg : Str → Option Value) (W : WX) (B : Addr → Prop) (m : List Addr) (S : Sto) (σ : L2.St) (H : Hp) (r : R (Option Int)) (Q : Option Int → Hp → Prop) : Prop := match r with
  | .ok b S' => ∀ m' H', Post K mg B m S H m' S' H' → Q b H'
  | .exc c p S' => ∀ m' H' cls dd, Post K mg B m S H m' S' H' → XcR K mg H' (Fo B m' S') m' c p cls dd → W cls dd σ H'
  | .bad => False
theorem finP.bind {K : PySem.W.Frag} {mg : Str → Option Value} {B : Addr → Prop} {m : List Addr} {S : Sto} {σ : L2.St} {H : Hp} {r : R (Option Int)} {g : Option Int → Sto → R D} {Q : VK} (h : fin K mg W B m S σ H (r.bind g) Q) :
    finP K mg W B m S σ H r (fun b H1 => ∃ m1 S1, Post K mg B m S H m1 S1 H1 ∧ fin K mg W B m1 S1 σ H1 (g b S1) Q) := by
  cases r with
  | ok d S' => exact fun m' H' p => ⟨m', S', p, fin.later p h⟩
  | exc c p' S' => exact h
  | bad => exact h
def upP (K : PySem.W.Frag) (mg : Str → Option Value) (W : WX) (f : Option Ex) : TO := fun σ H Q => ∃ B m ρ S, Rl K mg B m H S ∧ RepE K H (Fo B m S) m σ ρ ∧ finP K mg W B m S σ H (ePart f ρ S) Q
theorem po_imp {e : Option Expr} {t t' : TO} (h : PO X e t) (k : ∀ σ H Q, t' σ H Q → t σ H Q) : PO X e t' := ⟨fun pins s σ H Q I q => h.run pins s σ H Q I (k σ H Q q)⟩
def PV (X : Cx) (W : WX) (e : Option Expr) (f : Option Ex) : Prop := PO X e (upP X.K X.mg W f)
theorem pv_none : PV X W none none := po_imp po_none fun σ H Q ⟨B, m, ρ, S, r, re, f⟩ => f m H (Post.refl r)
theorem pv_some {e : Expr} {f : Ex} (h : EV X W e f) : PV X W (some e) (some f) := by
  refine po_imp (po_some h) fun σ H Q h => ?_
  obtain ⟨B, m, ρ, S, r, re, g⟩ := h
  refine ⟨B, m, ρ, S, r, re, ?_⟩
  have g' : finP X.K X.mg W B m S σ H ((f ρ S).bind fun d S => match d with | .int i => .ok (some i) S | _ => .bad) Q := g
  cases e1 : f ρ S with
  | bad => rw [e1] at g'; exact g'
  | exc c p S1 => rw [e1] at g'; exact g'
  | ok d S1 =>
    rw [e1] at g'
    intro m1 H1 v p q
    cases d with
    | int i => cases q; exact ⟨i, rfl, g' m1 H1 p⟩
    | _ => exact g'.elim
theorem ev_sl {a : Expr} {lo hi : Option Expr} {fa : Ex} {fl fh : Option Ex} {pos p2 : Pos} (ha : EV X W a fa) (hl : PV X W lo fl) (hh : PV X W hi fh) : EV X W (.Subscript a (.Slice lo hi none p2) pos) (eSl fa fl fh) := by
  refine pe_imp (pe_slice og_sl ha hl hh) fun σ H Q h => ?_
  obtain ⟨B, m, ρ, S, r, re, f⟩ := up_one (g := fun d ρ S => (ePart fl ρ S).bind fun l S => (ePart fh ρ S).bind fun u S => ans S (slD (view S d) l u)) h
  refine ⟨B, m, ρ, S, r, re, f.mono fun x H1 => ?_⟩
  rintro ⟨B, m, ρ, S, dx, r, re, rx, f⟩
  have f1 := finP.bind f
  refine ⟨B, m, ρ, S, r, re, ?_⟩
  cases e1 : ePart fl ρ S with
  | bad => rw [e1] at f1; exact f1
  | exc c p S1 => rw [e1] at f1; exact f1
  | ok l S1 =>
    rw [e1] at f1
    intro m2 H2 p2
    obtain ⟨m3, S3, p3, f3⟩ := f1 m2 H2 p2
    have f4 := finP.bind f3
    refine ⟨B, m3, ρ, S3, p3.rl, re.kp (p3.kp r), ?_⟩
    cases e2 : ePart fh ρ S3 with
    | bad => rw [e2] at f4; exact f4
    | exc c p S1 => rw [e2] at f4; exact f4
    | ok u S4 =>
      rw [e2] at f4
      intro m5 H5 p5
      obtain ⟨m6, S6, p6, f6⟩ := f4 m5 H5 p5
      cases e3 : slD (view S6 dx) l u with
      | none => rw [e3] at f6; exact f6.elim
      | some d =>
        rw [e3] at f6
        exact ⟨_, m6, _, d, fr_of p6.rl, vw p6.rl ((rx.kp (p3.kp r)).kp (p6.kp p3.rl)), e3, fun H' z s q => f6.ok p6.rl s q⟩
end
end
end DL
set_option Elab.async false
set_option linter.all false
set_option maxRecDepth 100000
set_option maxHeartbeats 4000000
namespace DL
open PySem PySem.Spec PyProof.Rows L2
theorem VwA.one {K : PySem.W.Frag} {H : Hp} {Fb : Addr → Prop} {m : List Addr} {vs : List V} {d : D} (h : VwA K H Fb m vs [d]) : ∃ v, vs = [v] ∧ Vw K H Fb m v d := by
  cases h with
  | cons h t => cases t; exact ⟨_, rfl, h⟩
theorem VwA.two {K : PySem.W.Frag} {H : Hp} {Fb : Addr → Prop} {m : List Addr} {vs : List V} {d e : D} (h : VwA K H Fb m vs [d, e]) : ∃ v w, vs = [v, w] ∧ Vw K H Fb m v d ∧ Vw K H Fb m w e := by
  cases h with
  | cons h t => obtain ⟨w, rfl, h2⟩ := t.one; exact ⟨_, _, rfl, h, h2⟩
def lenD : List D → Option D
  | [.lst xs] => some (.int xs.length)
  | [.tup xs] => some (.int xs.length)
  | [.str x] => if x.length ≤ sizeLine then some (.int x.length) else none
  | [.scr ns] => some (.int ns.length)
  | [.dic false kvs] => some (.int kvs.length)
  | _ => none
section
variable {X : Cx}
theorem cg_len : CallR X (.builtin "len") (rGn X.K lenD) := by
  intro pins s σ H xs us Q I r ⟨Fb, m, ds, d, fr, vx, e, k⟩
  unfold lenD at e
  split at e
  · cases e
    obtain ⟨v, rfl, h⟩ := vx.one
    obtain ⟨a, vs, rfl, h1, z1, q1⟩ := h.asL
    refine call_len_seq pins s σ H _ us Q I r ⟨a, vs, rfl, .inl (SqL.of h1), ?_⟩
    rw [q1.length]
    exact k H _ (Same.refl H) (.int _)
  · cases e
    obtain ⟨v, rfl, h⟩ := vx.one
    obtain ⟨a, vs, rfl, h1, z1, q1⟩ := h.asT
    refine call_len_seq pins s σ H _ us Q I r ⟨a, vs, rfl, .inr h1, ?_⟩
    rw [q1.length]
    exact k H _ (Same.refl H) (.int _)
  · split at e
    · rename_i hz
      cases e
      obtain ⟨v, rfl, h⟩ := vx.one
      cases h.asS
      exact call_len_str pins s σ H _ us Q I r ⟨_, rfl, hz, k H _ (Same.refl H) (.int _)⟩
    · cases e
  · cases e
    obtain ⟨v, rfl, h⟩ := vx.one
    cases h with
    | oth h =>
      cases h with
      | scr h z =>
        refine call_len_seq pins s σ H _ us Q I r ⟨_, _, rfl, .inl h.sq, ?_⟩
        rw [List.length_map]
        exact k H _ (Same.refl H) (.int _)
  · cases e
    obtain ⟨v, rfl, h⟩ := vx.one
    obtain ⟨a, kv, rfl, h1, z1, q1⟩ := h.asD
    obtain ⟨w, rfl, rv⟩ := vals1 r
    obtain rfl : w = Value.ref a := rv
    refine d_len I h1 fun t s' I' => ⟨.int kv.length, H, I', ⟨_, rfl⟩, ?_⟩
    rw [q1.length]
    exact k H _ (Same.refl H) (.int _)
  · cases e
def max2D : List D → Option D
  | [.int i, .int j] => some (.int (if j > i then j else i))
  | _ => none
def min2D : List D → Option D
  | [.int i, .int j] => some (.int (if j < i then j else i))
  | _ => none
theorem cg_max2 (hc : X.calm = true) : CallR X (.builtin "max") (rGn X.K max2D) := by
  intro pins s σ H xs us Q I r ⟨Fb, m, ds, d, fr, vx, e, k⟩
  unfold max2D at e
  split at e
  · cases e
    obtain ⟨v, w, rfl, h1, h2⟩ := vx.two
    cases h1.asI; cases h2.asI
    exact call_max2 hc pins s σ H _ us Q I r ⟨_, _, rfl, k H _ (Same.refl H) (.int _)⟩
  · cases e
theorem cg_min2 (hc : X.calm = true) : CallR X (.builtin "min") (rGn X.K min2D) := by
  intro pins s σ H xs us Q I r ⟨Fb, m, ds, d, fr, vx, e, k⟩
  unfold min2D at e
  split at e
  · cases e
    obtain ⟨v, w, rfl, h1, h2⟩ := vx.two
    cases h1.asI; cases h2.asI
    exact call_min2 hc pins s σ H _ us Q I r ⟨_, _, rfl, k H _ (Same.refl H) (.int _)⟩
  · cases e
def intD : List D → Option D
  | [.int i] => some (.int i)
  | [.bl b] => some (.int (if b then 1 else 0))
  | _ => none
theorem cg_int : CallR X (.type "int") (rGn X.K intD) := by
  intro pins s σ H xs us Q I r ⟨Fb, m, ds, d, fr, vx, e, k⟩
  unfold intD at e
  split at e
  · cases e
    obtain ⟨v, rfl, h1⟩ := vx.one
    cases h1.asI
    exact call_int1 pins s σ H _ us Q I r (.inl ⟨_, rfl, k H _ (Same.refl H) (.int _)⟩)
  · cases e
    obtain ⟨v, rfl, h1⟩ := vx.one
    cases h1.asB
    exact call_int1 pins s σ H _ us Q I r (.inr ⟨_, rfl, k H _ (Same.refl H) (.int _)⟩)
  · cases e
/-- list(x), tuple(x) -/
def listD : List D → Option D
  | [.lst xs] => some (.lst xs)
  | [.tup xs] => some (.lst xs)
  | _ => none
def tupleD : List D → Option D
  | [.lst xs] => some (.tup xs)
  | [.tup xs] => some (.tup xs)
  | _ => none
theorem cg_list : CallR X (.type "list") (rGn X.K listD) := by
  intro pins s σ H xs us Q I r ⟨Fb, m, ds, d, fr, vx, e, k⟩
  unfold listD at e
  split at e
  · cases e
    obtain ⟨v, rfl, h⟩ := vx.one
    obtain ⟨a, vs, rfl, h1, z1, q1⟩ := h.asL
    exact call_list_of pins s σ H _ us Q I r ⟨a, vs, rfl, .inl (SqL.of h1), fun p hp => k _ _ (same_upd hp) (.lst upd_same (fr p hp) z1 (q1.kp (kp_same (same_upd hp))))⟩
  · cases e
    obtain ⟨v, rfl, h⟩ := vx.one
    obtain ⟨a, vs, rfl, h1, z1, q1⟩ := h.asT
    exact call_list_of pins s σ H _ us Q I r ⟨a, vs, rfl, .inr h1, fun p hp => k _ _ (same_upd hp) (.lst upd_same (fr p hp) z1 (q1.kp (kp_same (same_upd hp))))⟩
  · cases e
theorem cg_tuple : CallR X (.type "tuple") (rGn X.K tupleD) := by
  intro pins s σ H xs us Q I r ⟨Fb, m, ds, d, fr, vx, e, k⟩
  unfold tupleD at e
  split at e
  · cases e
    obtain ⟨v, rfl, h⟩ := vx.one
    obtain ⟨a, vs, rfl, h1, z1, q1⟩ := h.asL
    exact call_tuple_of pins s σ H _ us Q I r ⟨a, vs, rfl, .inl ⟨SqL.of h1, fun p hp => k _ _ (same_upd hp) (.tup (.of upd_same) z1 (q1.kp (kp_same (same_upd hp))))⟩⟩
  · cases e
    obtain ⟨v, rfl, h⟩ := vx.one
    obtain ⟨a, vs, rfl, h1, z1, q1⟩ := h.asT
    exact call_tuple_of pins s σ H _ us Q I r ⟨a, vs, rfl, .inr ⟨h1, k H _ (Same.refl H) (.tup h1 z1 q1)⟩⟩
  · cases e
/-- all, any of a list of truths -/
def asBs : List D → Option (List Bool)
  | [] => some []
  | .bl b :: ds => (asBs ds).map (b :: ·)
  | _ :: _ => none
def allD : List D → Option D
  | [.lst xs] => (asBs xs).map fun bs => .bl (bs.all id)
  | _ => none
theorem asBs_vals {K : PySem.W.Frag} {H : Hp} {Fb : Addr → Prop} {m : List Addr} : ∀ {ds : List D} {vs : List V} {bs : List Bool}, asBs ds = some bs → RepA K H Fb m vs ds → vs = bs.map V.bl
  | [], _, _, e, r => by cases r; cases e; rfl
  | .bl b :: ds, _, _, e, r => by
    obtain ⟨cs, e1, rfl⟩ := Option.map_eq_some_iff.mp (show (asBs ds).map (b :: ·) = _ from e)
    cases r with
    | cons h t => cases h; rw [asBs_vals e1 t]; rfl
  | .non :: _, _, _, e, _ => by simp [asBs] at e
  | .int _ :: _, _, _, e, _ => by simp [asBs] at e
  | .str _ :: _, _, _, e, _ => by simp [asBs] at e
  | .tup _ :: _, _, _, e, _ => by simp [asBs] at e
  | .lst _ :: _, _, _, e, _ => by simp [asBs] at e
  | .dic _ _ :: _, _, _, e, _ => by simp [asBs] at e
  | .ref _ :: _, _, _, e, _ => by simp [asBs] at e
  | .raw _ :: _, _, _, e, _ => by simp [asBs] at e
  | .scr _ :: _, _, _, e, _ => by simp [asBs] at e
  | .exn _ _ :: _, _, _, e, _ => by simp [asBs] at e
theorem cg_all (hc : X.calm = true) : CallR X (.builtin "all") (rGn X.K allD) := by
  intro pins s σ H xs us Q I r ⟨Fb, m, ds, d, fr, vx, e, k⟩
  unfold allD at e
  split at e
  · obtain ⟨bs, e1, rfl⟩ := Option.map_eq_some_iff.mp e
    obtain ⟨v, rfl, h⟩ := vx.one
    obtain ⟨a, vs, rfl, h1, z1, q1⟩ := h.asL
    rw [asBs_vals e1 q1] at h1
    exact cr_all hc pins s σ H _ us Q I r ⟨a, bs, rfl, SqL.of h1, k H _ (Same.refl H) (.bl _)⟩
  · cases e
/-- sum of whole numbers -/
def asIs : List D → Option (List Int)
  | [] => some []
  | .int b :: ds => (asIs ds).map (b :: ·)
  | _ :: _ => none
theorem asIs_vals {K : PySem.W.Frag} {H : Hp} {Fb : Addr → Prop} {m : List Addr} : ∀ {ds : List D} {vs : List V} {bs : List Int}, asIs ds = some bs → RepA K H Fb m vs ds → vs = bs.map V.int
  | [], _, _, e, r => by cases r; cases e; rfl
  | .int b :: ds, _, _, e, r => by
    obtain ⟨cs, e1, rfl⟩ := Option.map_eq_some_iff.mp (show (asIs ds).map (b :: ·) = _ from e)
    cases r with
    | cons h t => cases h; rw [asIs_vals e1 t]; rfl
  | .non :: _, _, _, e, _ => by simp [asIs] at e
  | .bl _ :: _, _, _, e, _ => by simp [asIs] at e
  | .str _ :: _, _, _, e, _ => by simp [asIs] at e
  | .tup _ :: _, _, _, e, _ => by simp [asIs] at e
  | .lst _ :: _, _, _, e, _ => by simp [asIs] at e
  | .dic _ _ :: _, _, _, e, _ => by simp [asIs] at e
  | .ref _ :: _, _, _, e, _ => by simp [asIs] at e
  | .raw _ :: _, _, _, e, _ => by simp [asIs] at e
  | .scr _ :: _, _, _, e, _ => by simp [asIs] at e
  | .exn _ _ :: _, _, _, e, _ => by simp [asIs] at e
def sumD : List D → Option D
  | [.lst xs] => (asIs xs).map fun ns => .int ns.sum
  | [.tup xs] => (asIs xs).map fun ns => .int ns.sum
  | _ => none
theorem sum_rawT {prog : Program} {w : World} {A : Around} {E : Value → Shared → Prop} {s : Shared} {l : Addr} {its : List Value} {ns : List Int} {Q : Value → Shared → Prop} (hh : A.handled = none) (hl : s.heap.IsTuple l its.toArray) (hi : IntsAre its ns)
    (h : ∀ h' tk t', (∀ b o, s.heap.get? b = some o → h'.get? b = some o) → Q (.int ns.sum t') { s with heap := h', toks := tk }) : wpAny (model prog w) A (call (.builtin "sum") [.ref l]) Q E s := by
  obtain ⟨xs, e⟩ := hi.allInts.items
  have hn : numsOf (intItems xs).toList = ns := by rw [← e]; exact hi.numsOf
  rw [nums_intItems] at hn
  rw [e] at hl
  refine PySem.W.ktm_sumG hh hl fun h' tk t' hk => ?_
  have := h h' tk t' hk
  rw [preSum_eq, List.take_of_length_le (by simp), hn]; exact this
theorem cg_sum (hc : X.calm = true) : CallR X (.builtin "sum") (rGn X.K sumD) := by
  intro pins s σ H xs us Q I r ⟨Fb, m, ds, d, fr, vx, e, k⟩
  unfold sumD at e
  split at e
  · obtain ⟨bs, e1, rfl⟩ := Option.map_eq_some_iff.mp e
    obtain ⟨v, rfl, h⟩ := vx.one
    obtain ⟨a, vs, rfl, h1, z1, q1⟩ := h.asL
    rw [asIs_vals e1 q1] at h1
    exact cr_sum hc pins s σ H _ us Q I r ⟨a, bs, rfl, SqL.of h1, k H _ (Same.refl H) (.int _)⟩
  · obtain ⟨bs, e1, rfl⟩ := Option.map_eq_some_iff.mp e
    obtain ⟨v, rfl, h⟩ := vx.one
    obtain ⟨a, vs, rfl, h1, z1, q1⟩ := h.asT
    rw [asIs_vals e1 q1] at h1
    obtain ⟨its, rv, hl, _⟩ := I.tuple h1
    rw [Vals.ref1 r]
    exact sum_rawT (I.ok.hd hc) (show s.heap.IsTuple a its.toArray from hl) rv.ints fun h' tk t' hk => ⟨.int _, H, I.kept hk, ⟨_, rfl⟩, k H _ (Same.refl H) (.int _)⟩
  · cases e
end
inductive PT where
  | int | bool | str | tuple | list | dict
def PT.nm : PT → String
  | .int => "int" | .bool => "bool" | .str => "str" | .tuple => "tuple" | .list => "list" | .dict => "dict"
def PT.isOf : PT → D → Option Bool
  | .int, .int _ => some true
  | .int, .bl _ => some true
  | .bool, .bl _ => some true
  | .str, .str _ => some true
  | .tuple, .tup _ => some true
  | .list, .lst _ => some true
  | .list, .scr _ => some true
  | .dict, .dic _ _ => some true
  | _, .ref _ => none
  | _, .raw _ => none
  | _, .exn _ _ => none
  | _, _ => some false
def kdOf : D → Option String
  | .non => some "NoneType" | .bl _ => some "bool" | .int _ => some "int" | .str _ => some "str" | .tup _ => some "tuple" | .lst _ => some "list" | .scr _ => some "list" | .dic _ _ => some "dict" | _ => none
theorem kit_isOf {t : PT} {d : D} {b : Bool} (h : t.isOf d = some b) : ∃ T, kdOf d = some T ∧ kitB T t.nm = some b := by
  cases d <;> cases t <;> simp [PT.isOf] at h <;> subst h <;> refine ⟨_, rfl, ?_⟩ <;> decide +kernel
section
variable {X : Cx}
theorem Vw.kit {H : Hp} {Fb : Addr → Prop} {m : List Addr} {v : V} {d : D} {T : String} {pins : List (Addr × Obj)} {σ : L2.St} {s : Shared} {u : Value} (I : Inv X pins σ H s) (rx : RelV v u) (h : Vw X.K H Fb m v d) (e : kdOf d = some T) :
    ∃ P : Heap → Prop, PySem.W.KitX X.K u (.type T) P ∧ P s.heap ∧ u ≠ .builtin "__main__.__loader__#opaque" := by
  have of : TyX X.K H v (.type T) → ∃ P : Heap → Prop, PySem.W.KitX X.K u (.type T) P ∧ P s.heap ∧ u ≠ .builtin "__main__.__loader__#opaque" := fun t => kit_of I rx t
  have dT : ∀ {a : Addr} {kv : List (List Key × V)}, v = .ref a → Rd H a (.dT kv) → T = "dict" → ∃ P : Heap → Prop, PySem.W.KitX X.K u (.type T) P ∧ P s.heap ∧ u ≠ .builtin "__main__.__loader__#opaque" := fun {a kv} ev hd eT => by
    clear h
    subst eT ev
    rcases hd with hd | ⟨o, hd⟩
    · exact of (.base (.dT hd))
    · cases (show u = Value.ref a from rx)
      obtain ⟨_, _, _, xs, _, o, es, ep, h1, h2, _⟩ := (show ObjOk X.prog X.w H s.heap a (.frz o (.dT kv)) from I.hok a _ hd)
      exact ⟨_, PySem.W.kitx_dict, ⟨o, h1, h2.1⟩, fun z => nomatch z⟩
  cases h with
  | lst h z r => cases e; exact of (.base (.lst h))
  | dK h z q r => cases e; rcases h with h | ⟨o, h⟩; exact of (.base (.dK h)); exact of (.fDict h)
  | dT h z q r => cases e; exact dT rfl h rfl
  | oth h =>
    cases h with
    | non => cases e; exact of (.base .non)
    | bl b => cases e; exact of (.base (.bl b))
    | int b => cases e; exact of (.base (.int b))
    | str b => cases e; exact of (.base (.str b))
    | tup h z r =>
      cases e
      rcases h with (h | ⟨o, h⟩) | ⟨o, its, n, h, hc, _⟩
      · exact of (.base (.tup h))
      · exact of (.fTuple h)
      · exact of (.kTuple h hc)
    | lst h f z r => cases e; exact of (.base (.lst h))
    | dK h z q r => cases e; obtain ⟨o, h⟩ := h; exact of (.fDict h)
    | dT h z q r => cases e; exact dT rfl (.inr h) rfl
    | ref h => cases e
    | raw v => cases e
    | exn h f => cases e
    | exp h f h2 f2 n r => cases e
    | scr h z =>
      cases e
      rcases h with ⟨h | ⟨o, h⟩, _⟩ | ⟨o, its, n, h, hc, _⟩
      · exact of (.base (.lst h))
      · exact of (.base (.frz h))
      · exact of (.kList h hc)
/-- isinstance(e, T), T a built-in class by its name -/
def eIsi (t : PT) (a : Ex) : Ex := eOp1 (fun d => (t.isOf d).map .bl) a
def isOfs : List PT → D → Option Bool
  | [], _ => some false
  | t :: ts, d => match t.isOf d with
    | some true => some true
    | some false => isOfs ts d
    | none => none
def eIsis (ts : List PT) (a : Ex) : Ex := eOp1 (fun d => (isOfs ts d).map .bl) a
variable {W : WX} {e : Expr} {fa : Ex} {p p2 p3 pos : Pos}
theorem ev_isi {t : PT} {x : Str} (hg : Gl X "isinstance") (hm : X.mg "isinstance" = none) (hv : bootBuiltins "isinstance" = some (.builtin "isinstance")) (hx : Gl X x) (mx : X.mg x = none) (vx : bootBuiltins x = some (.type t.nm)) (ha : EV X W e fa)
    (he : starEach [e, .Name x p2] X.env = (false, eval e X.env) :: starEach [.Name x p2] X.env := by rfl) (hpl : (backTo pos (starEach [.Name x p2] X.env)).any (·.1) = false := by rfl) (h2 : starEach [.Name x p2] X.env = (false, eval (.Name x p2) X.env) :: starEach [] X.env := by rfl)
    (hn : x ≠ "__name__" := by decide) (hdb : (x == ("__debug__" : Str)) = false := by decide) : EV X W (.Call (.Name "isinstance" p) [e, .Name x p2] [] pos) (eIsi t fa) := by
  have hc : CallR X (.builtin "isinstance") (fun xs H Q => ∃ v, xs = [v, .ty t.nm] ∧ rG1 X.K (fun d => (t.isOf d).map .bl) v H Q) := by
    intro pins s σ H xs us Q I r ⟨v, ex, Fb, m, dx, d, fr, vx, e1, k⟩
    subst ex
    obtain ⟨b, e2, rfl⟩ := Option.map_eq_some_iff.mp e1
    obtain ⟨T, e3, e4⟩ := kit_isOf e2
    obtain ⟨u1, u2, rfl, r1, r2⟩ := vals2 r
    cases (show u2 = Value.type t.nm from r2)
    obtain ⟨P, Z, p, hx⟩ := vx.kit I r1 e3
    exact PySem.W.kia_one Z I.kIn p (kit_ty e4) hx fun tk => ⟨.bl b, H, I.tok tk, rfl, k H _ (Same.refl H) (.bl b)⟩
  refine pe_imp (pe_callB hc hg hm hv (pa_cons ha (pa_cons (pe_bltn (v := .ty t.nm) hx mx vx rfl hn hdb) pa_nil h2) he) (by decide) (by decide) he hpl) fun σ H Q h => ?_
  have h' := one_of (g := fun d => (t.isOf d).map .bl) h
  obtain ⟨B, m, ρ, S, r, re, f⟩ := h'
  exact ⟨B, m, ρ, S, r, re, f.mono fun x H1 q => ⟨x, rfl, q⟩⟩
end
end DL
set_option Elab.async false
set_option linter.all false
set_option maxRecDepth 100000
set_option maxHeartbeats 4000000
namespace DL
open PySem PySem.Spec PyProof.Rows L2
section
variable {K : PySem.W.Frag} {mg : Str → Option Value} {B : Addr → Prop} {m : List Addr} {S : Sto} {H : Hp} {n : Nat} {a : Addr} {o o' : Ob} {ho : HO}
theorem liv_set (h2 : S[n]? = some (some o)) {x : Addr} : Liv m (S.set n (some o')) x ↔ Liv m S x := by
  have hn := (List.getElem?_eq_some_iff.mp h2).1
  constructor
  · rintro ⟨k, u, e1, e2⟩
    by_cases hk : k = n
    · subst hk; exact ⟨k, o, e1, h2⟩
    · rw [List.getElem?_set_ne (Ne.symm hk)] at e2; exact ⟨k, u, e1, e2⟩
  · rintro ⟨k, u, e1, e2⟩
    by_cases hk : k = n
    · subst hk; exact ⟨k, o', e1, List.getElem?_set_self hn⟩
    · exact ⟨k, u, e1, by rw [List.getElem?_set_ne (Ne.symm hk)]; exact e2⟩
theorem kp_upd (r : Rl K mg B m H S) (h1 : m[n]? = some a) (h2 : S[n]? = some (some o)) : Kp H (upd H a ho) (Fo B m S) (Fo B m (S.set n (some o'))) m m := by
  have hl : Liv m S a := ⟨n, o, h1, h2⟩
  have ne : ∀ x, ¬ Fo B m S x → x ≠ a := fun x f e => f (.inr (e ▸ hl))
  refine ⟨fun x xs h f => by rw [upd_ne (ne x f)]; exact h, fun x u h f => ?_, fun x o f h => ?_, fun x u h f z => ?_, fun _ _ h => h⟩
  · unfold Rd; rw [upd_ne (ne x f)]; exact h
  · have : x ≠ a := by
      rintro rfl
      exact (r.obj n _ _ h1 h2).not_fix f h
    rw [upd_ne this]; exact h
  · rcases z with z | z
    · exact f (.inl z)
    · exact f (.inr ((liv_set h2).mp z))
theorem Post.upd (r : Rl K mg B m H S) (h1 : m[n]? = some a) (h2 : S[n]? = some (some o)) (new : ObR K mg (L2.upd H a ho) (Fo B m (S.set n (some o'))) m a o') : Post K mg B m S H m (S.set n (some o')) (L2.upd H a ho) := by
  have hl : Liv m S a := ⟨n, o, h1, h2⟩
  have kp := kp_upd (ho := ho) (o' := o') r h1 h2
  have sm : ∀ x, H x ≠ none → L2.upd H a ho x ≠ none := fun x h => by
    by_cases e : x = a
    · subst e; rw [upd_same]; simp
    · rw [upd_ne e]; exact h
  refine ⟨⟨[], by simp, fun a h => by simp at h⟩, fun x u h f => ?_, sm, ⟨by rw [List.length_set]; exact r.len, r.nod, fun x h => r.nb x ((liv_set h2).mp h), fun x h => sm x (r.bt x h), fun x h => sm x (r.mt x h), fun k x u e1 e2 => ?_⟩, fun x h => .inl ((liv_set h2).mp h)⟩
  · have : x ≠ a := fun e => f (e ▸ hl)
    rw [upd_ne this]; exact h
  · by_cases hk : k = n
    · subst hk
      rw [h1] at e1; cases e1
      rw [List.getElem?_set_self (List.getElem?_eq_some_iff.mp h2).1] at e2
      cases e2
      exact new
    · rw [List.getElem?_set_ne (Ne.symm hk)] at e2
      have nx : x ≠ a := fun e => by
        subst e
        obtain ⟨l1, z1⟩ := List.getElem?_eq_some_iff.mp e1
        obtain ⟨l2, z2⟩ := List.getElem?_eq_some_iff.mp h1
        exact hk ((List.getElem_inj r.nod).mp (z1.trans z2.symm))
      cases r.obj k x u e1 e2 with
      | lst h z q => exact .lst (by rw [upd_ne nx]; exact h) z (q.kp kp)
      | dK h z e q => exact .dK (by rw [upd_ne nx]; exact h) z e (q.kp kp)
      | dT h z e q => exact .dT (by rw [upd_ne nx]; exact h) z e (q.kp kp)
      | ins g h e q => exact .ins g (by rw [upd_ne nx]; exact h) e (q.kp kp)
end
/-- a live list -/
def lstOf (S : Sto) : D → Option (Nat × List D)
  | .ref n => match S[n]? with
    | some (some (.lst xs)) => some (n, xs)
    | _ => none
  | _ => none
theorem lstOf_some {K : PySem.W.Frag} {mg : Str → Option Value} {B : Addr → Prop} {m : List Addr} {S : Sto} {H : Hp} {d : D} {n : Nat} {xs : List D} {v : V} (r : Rl K mg B m H S) (e : lstOf S d = some (n, xs)) (q : Rep K H (Fo B m S) m v d) :
    ∃ a vs, v = .ref a ∧ m[n]? = some a ∧ S[n]? = some (some (.lst xs)) ∧ H a = some (.lst vs) ∧ vs.length ≤ sizeLine ∧ RepA K H (Fo B m S) m vs xs := by
  cases d with
  | ref k =>
    simp only [lstOf] at e
    split at e
    · rename_i xs' e2
      cases e
      cases q with
      | ref e1 =>
        have ob := r.obj _ _ _ e1 e2
        cases ob with
        | lst h z q => exact ⟨_, _, rfl, e1, e2, h, z, q⟩
    · cases e
  | _ => simp [lstOf] at e
/-- a method that writes a list: from its items and the arguments the new items and the answer -/
def doMut (g : List D → List D → Option (List D × D)) (S : Sto) (d : D) (ds : List D) : R D := match lstOf S d with
  | none => .bad
  | some nx => match g nx.2 ds with
    | none => .bad
    | some yz => .ok yz.2 (S.set nx.1 (some (.lst yz.1)))
def eMeth (g : List D → List D → Option (List D × D)) (fo : Ex) (fs : List Ex) : Ex := fun ρ S => (fo ρ S).bind fun d S => if (lstOf S d).isSome = true then (evL fs ρ S).bind fun ds S => doMut g S d ds else .bad
def eMeth0 (g : List D → List D → Option (List D × D)) (fo : Ex) : Ex := fun ρ S => (fo ρ S).bind fun d S => doMut g S d []
def rMut (K : PySem.W.Frag) (g : List D → List D → Option (List D × D)) : V → List V → Hp → VK → Prop := fun x vs H Q => ∃ (mg : Str → Option Value) (B : Addr → Prop) (m : List Addr) (S : Sto) (n : Nat) (a : Addr) (ws : List V) (xs ds ys : List D) (z : D), x = .ref a ∧ Rl K mg B m H S ∧ m[n]? = some a ∧ S[n]? = some (some (.lst xs)) ∧ H a = some (.lst ws) ∧ ws.length ≤ sizeLine ∧ RepA K H (Fo B m S) m ws xs ∧ RepA K H (Fo B m S) m vs ds ∧ g xs ds = some (ys, z) ∧
  ∀ us v, us.length ≤ sizeLine → RepA K H (Fo B m S) m us ys → Rep K H (Fo B m S) m v z → Q v (upd H a (.lst us))
section
variable {X : Cx} {W : WX} {o e : Expr} {es : List Expr} {fo : Ex} {fs : List Ex} {name : Str} {apos cpos : Pos} {id : String} {g : List D → List D → Option (List D × D)}
theorem ty_lst {K : PySem.W.Frag} {H : Hp} {a : Addr} {vs : List V} (h : H a = some (.lst vs)) : tyV K "list" (.ref a) H := Or.inl ⟨rfl, _, Or.inl (Or.inl h)⟩
theorem mut_fin {K : PySem.W.Frag} {mg : Str → Option Value} {σ : L2.St} {B : Addr → Prop} {m : List Addr} {S : Sto} {H : Hp} {Q : VK} {d : D} {ds : List D} {x : V} {vs : List V} (r : Rl K mg B m H S) (rx : Rep K H (Fo B m S) m x d) (q : RepA K H (Fo B m S) m vs ds)
    (f : fin K mg W B m S σ H (doMut g S d ds) Q) : rMut K g x vs H Q := by
  unfold doMut at f
  cases e1 : lstOf S d with
  | none => rw [e1] at f; exact f.elim
  | some nx =>
    obtain ⟨n, xs⟩ := nx
    rw [e1] at f
    dsimp only at f
    cases e2 : g xs ds with
    | none => rw [e2] at f; exact f.elim
    | some yz =>
      obtain ⟨ys, z⟩ := yz
      rw [e2] at f
      obtain ⟨a, ws, rfl, h1, h2, h3, h4, h5⟩ := lstOf_some r e1 rx
      refine ⟨mg, B, m, S, n, a, ws, xs, ds, ys, z, rfl, r, h1, h2, h3, h4, h5, q, e2, fun us v hz hq hv => ?_⟩
      have kp := kp_upd (ho := .lst us) (o' := .lst ys) r h1 h2
      exact f m _ v (Post.upd r h1 h2 (.lst upd_same hz (hq.kp kp))) (hv.kp kp)
/-- the receiver is a live list when the arguments are reckoned -/
theorem ev_mut (pa : PlainAttrs "list") (slot : Slot "list" name id) (hty : typeOf (.builtin id) = pure (.type "method_descriptor")) (hm : MtR X id (rMut X.K g)) (ho : EV X W o fo) (ha : EVA X W (e :: es) fs) (hfs : fs ≠ [] := by exact fun h => nomatch h)
    (hbase : attributeBase o name X.env (eval o X.env) = eval o X.env := by rfl)
    (hfew : ((backTo cpos (starEach (e :: es) X.env)).all (fun x => !x.1) && (backToKw cpos (keywordEach [] X.env)).all (fun x => x.1.isSome)
      && decide ((e :: es).length + ([] : List Keyword).length + (if ([] : List Keyword).isEmpty then 0 else 1) < 30)) = true := by rfl)
    (hline : (apos.endLine == cpos.line) = true := by rfl) (hs : starEach (e :: es) X.env = (false, eval e X.env) :: starEach es X.env := by rfl) (hplain : (backTo cpos (starEach es X.env)).any (·.1) = false := by rfl) :
    EV X W (.Call (.Attribute o name apos) (e :: es) [] cpos) (eMeth g fo fs) := by
  refine pe_imp (pe_bm pa slot hty hm ho ha hbase hfew hline hs hplain) fun σ H Q h => ?_
  obtain ⟨B, m, ρ, S, r, re, f⟩ := up_one (g := fun d ρ S => if (lstOf S d).isSome = true then (evL fs ρ S).bind fun ds S => doMut g S d ds else .bad) h
  refine ⟨B, m, ρ, S, r, re, f.mono fun x H1 => ?_⟩
  rintro ⟨B, m, ρ, S, d, r, re, rx, f⟩
  cases e1 : lstOf S d with
  | none => rw [e1] at f; exact f.elim
  | some nx =>
    obtain ⟨n, xs⟩ := nx
    rw [e1] at f
    simp only [Option.isSome_some, if_true] at f
    obtain ⟨a, ws, rfl, h1, h2, h3, h4, h5⟩ := lstOf_some r e1 rx
    refine ⟨ty_lst h3, B, m, ρ, S, r, re, finA.mono (finA.bind f) fun vs H2 => ?_⟩
    rintro ⟨m2, S2, ds, p2, q2, f2⟩
    exact mut_fin p2.rl (rx.kp (p2.kp r)) q2 f2
end
def gAppend : List D → List D → Option (List D × D) := fun xs ds => match ds with
  | [d] => if xs.length < sizeLine then some (xs ++ [d], .non) else none
  | _ => none
def gPopAt : List D → List D → Option (List D × D) := fun xs ds => match ds with
  | [.int i] => if -(2 ^ 63) ≤ i ∧ i < 2 ^ 63 then match seqIndex? i xs.length with
    | some k => match xs[k]? with
      | some z => some (xs.eraseIdx k, z)
      | none => none
    | none => none else none
  | _ => none
section
variable {X : Cx} {W : WX} {o e : Expr} {fo fe : Ex} {apos cpos : Pos}
theorem mg_append : MtR X "list.append" (rMut X.K gAppend) := by
  intro pins s σ H x vs v us Q I rx rs ⟨mg, B, m, S, n, a, ws, xs, ds, ys, z, ex, r, h1, h2, h3, h4, h5, q, e, k⟩
  subst ex
  unfold gAppend at e
  split at e
  · split at e
    · rename_i d hz
      cases e
      cases q with
      | cons qd qn =>
        cases qn
        exact mt_append pins s σ H _ _ v us Q I rx rs ⟨a, ws, _, rfl, rfl, h3, by rw [h5.length]; exact hz, k _ _ (by have := h5.length; simp; omega) (h5.append (.cons qd .nil)) .non⟩
    · cases e
  · cases e
theorem mg_popAt : MtR X "list.pop" (rMut X.K gPopAt) := by
  intro pins s σ H x vs v us Q I rx rs ⟨mg, B, m, S, n, a, ws, xs, ds, ys, z, ex, r, h1, h2, h3, h4, h5, q, e, k⟩
  subst ex
  unfold gPopAt at e
  split at e
  · rename_i i
    split at e
    · rename_i hi
      split at e
      · rename_i j ej
        split at e
        · rename_i w ew
          cases e
          cases q with
          | cons qd qn =>
            cases qn
            cases qd
            obtain ⟨wv, e1, e2⟩ := h5.get ew
            exact mt_popAt pins s σ H _ _ v us Q I rx rs ⟨a, ws, i, j, wv, rfl, rfl, h3, hi.1, hi.2, by rw [h5.length]; exact ej, e1, k _ _ (Nat.le_trans (List.length_eraseIdx_le ..) h4) (h5.eraseIdx j) e2⟩
        · cases e
      · cases e
    · cases e
  · cases e
theorem ev_append (ho : EV X W o fo) (ha : EVA X W [e] [fe]) (hbase : attributeBase o "append" X.env (eval o X.env) = eval o X.env := by rfl)
    (hfew : ((backTo cpos (starEach [e] X.env)).all (fun x => !x.1) && (backToKw cpos (keywordEach [] X.env)).all (fun x => x.1.isSome) && decide ([e].length + ([] : List Keyword).length + (if ([] : List Keyword).isEmpty then 0 else 1) < 30)) = true := by rfl)
    (hline : (apos.endLine == cpos.line) = true := by rfl) (hs : starEach [e] X.env = (false, eval e X.env) :: starEach [] X.env := by rfl) (hplain : (backTo cpos (starEach [] X.env)).any (·.1) = false := by rfl) :
    EV X W (.Call (.Attribute o "append" apos) [e] [] cpos) (eMeth gAppend fo [fe]) := ev_mut PySem.F.plainAttrs_list PySem.F.slot_list_append PySem.F.type_list_append mg_append ho ha (by exact fun h => nomatch h) hbase hfew hline hs hplain
theorem ev_popAt (ho : EV X W o fo) (ha : EVA X W [e] [fe]) (hbase : attributeBase o "pop" X.env (eval o X.env) = eval o X.env := by rfl)
    (hfew : ((backTo cpos (starEach [e] X.env)).all (fun x => !x.1) && (backToKw cpos (keywordEach [] X.env)).all (fun x => x.1.isSome) && decide ([e].length + ([] : List Keyword).length + (if ([] : List Keyword).isEmpty then 0 else 1) < 30)) = true := by rfl)
    (hline : (apos.endLine == cpos.line) = true := by rfl) (hs : starEach [e] X.env = (false, eval e X.env) :: starEach [] X.env := by rfl) (hplain : (backTo cpos (starEach [] X.env)).any (·.1) = false := by rfl) :
    EV X W (.Call (.Attribute o "pop" apos) [e] [] cpos) (eMeth gPopAt fo [fe]) := ev_mut PySem.F.plainAttrs_list PySem.F.slot_list_pop PySem.F.type_list_pop mg_popAt ho ha (by exact fun h => nomatch h) hbase hfew hline hs hplain
end
/-- a live dict -/
def dicOf (S : Sto) : D → Option (Nat × List (D × D))
  | .ref n => match S[n]? with
    | some (some (.dic false kvs)) => some (n, kvs)
    | _ => none
  | _ => none
theorem dicOf_some {K : PySem.W.Frag} {mg : Str → Option Value} {B : Addr → Prop} {m : List Addr} {S : Sto} {H : Hp} {d : D} {n : Nat} {kvs : List (D × D)} {v : V} (r : Rl K mg B m H S) (e : dicOf S d = some (n, kvs)) (q : Rep K H (Fo B m S) m v d) :
    ∃ a kv, v = .ref a ∧ m[n]? = some a ∧ S[n]? = some (some (.dic false kvs)) ∧ H a = some (.dK kv) ∧ kv.length ≤ sizeLine ∧ KR K H (Fo B m S) m kv kvs := by
  cases d with
  | ref k =>
    simp only [dicOf] at e
    split at e
    · rename_i xs' e2
      cases e
      cases q with
      | ref e1 =>
        have ob := r.obj _ _ _ e1 e2
        cases ob with
        | dK h z e3 q => exact ⟨_, _, rfl, e1, e2, h, z, kr_of e3 q⟩
    · cases e
  | _ => simp [dicOf] at e
/-- a live dict is written -/
theorem Post.updD {K : PySem.W.Frag} {mg : Str → Option Value} {B : Addr → Prop} {m : List Addr} {S : Sto} {H : Hp} {n : Nat} {a : Addr} {kw : List (Key × V)} {kvs kws : List (D × D)} (r : Rl K mg B m H S) (h1 : m[n]? = some a) (h2 : S[n]? = some (some (.dic false kvs))) (q : KR K H (Fo B m S) m kw kws) (hz : kw.length ≤ sizeLine) :
    Post K mg B m S H m (S.set n (some (.dic false kws))) (L2.upd H a (.dK kw)) := by
  have kp := kp_upd (ho := .dK kw) (o' := .dic false kws) r h1 h2
  have q2 := q.kp kp
  exact Post.upd r h1 h2 (.dK upd_same hz q2.keys q2.vals)
def putAtD (S : Sto) (d k z : D) : Option Sto := match dicOf S d with
  | some (n, kvs) => match unK k with
    | some kk => if kvs.length < sizeLine then some (S.set n (some (.dic false (putD kvs kk z)))) else none
    | none => none
  | none => none
theorem putAt_ok {K : PySem.W.Frag} {mg : Str → Option Value} {B : Addr → Prop} {m : List Addr} {S S' : Sto} {H : Hp} {d k z : D} {vd vk vz : V} (r : Rl K mg B m H S) (rd : Rep K H (Fo B m S) m vd d) (rk : Rep K H (Fo B m S) m vk k) (rz : Rep K H (Fo B m S) m vz z) (e : putAtD S d k z = some S') :
    ∃ a H', vd = .ref a ∧ DPut H a vk vz H' ∧ Post K mg B m S H m S' H' := by
  unfold putAtD at e
  cases e1 : dicOf S d with
  | none => rw [e1] at e; cases e
  | some nk =>
    obtain ⟨n, kvs⟩ := nk
    rw [e1] at e
    dsimp only at e
    cases e2 : unK k with
    | none => rw [e2] at e; cases e
    | some kk =>
      rw [e2] at e
      dsimp only at e
      split at e
      · rename_i hl
        cases e
        obtain ⟨a, kv, rfl, h1, h2, h3, h4, h5⟩ := dicOf_some r e1 rd
        have hk := rk.key e2
        subst hk
        have hz : (putK kv kk vz).length ≤ sizeLine := by have := length_putK kv kk vz; have := h5.length; omega
        exact ⟨a, _, rfl, DPut.k h3 (by rw [h5.length]; exact hl), Post.updD r h1 h2 (h5.put kk rz) hz⟩
      · cases e
def rSetLD : TSet := fun o i v H Q => rSetL o i v H Q ∨ rSetD o i v H Q
theorem set_LD {X : Cx} (hu : X.A.units + 1 < cLine) : PSet X rSetLD := fun pins s σ H o i v ov iv u Q I ro ri rv h => h.elim (set_list pins s σ H o i v ov iv u Q I ro ri rv) (set_dict hu pins s σ H o i v ov iv u Q I ro ri rv)
def sSetIx (o i e : Ex) : Sx := fun ρ S => (e ρ S).bindS ρ fun z S => (o ρ S).bindS ρ fun d S => (i ρ S).bindS ρ fun k S => match lstOf S d, k with
  | some (n, xs), .int j => match ixN xs.length j with
    | some p => .fl (.nx ρ) (S.set n (some (.lst (xs.set p z))))
    | none => .bad
  | _, _ => match putAtD S d k z with
    | some S' => .fl (.nx ρ) S'
    | none => .bad
section
variable {X : Cx} {W : WX} {o i e : Expr} {fo fi fe : Ex} {pos p : Pos}
theorem sv_setIx (hu : X.A.units + 64 < cLine) (he : EV X W e fe) (ho : EV X W o fo) (hi : EV X W i fi)
    (ha : ∀ v, assign (.Subscript o i p) X.env v = (do
      let ov ← holding [v] (eval o X.env)
      let iv ← holding [v, ov] (eval i X.env)
      standAt p
      holding [v, ov, iv] (setItem ov iv v)
      release [v, ov, iv] []) := by intro _; rfl)
    (hs : swapsWithSole [.Subscript o i p] e pos.line X.env = pure false := by rfl) (hw : swappedStores [.Subscript o i p] e X.env = pure none := by rfl)
    (h1 : (assignEach [.Subscript o i p] X.env).map (·.2) = [assign (.Subscript o i p) X.env] := by rfl) : SV X W (.Assign [.Subscript o i p] e pos) (sSetIx fo fi fe) := by
  refine ps_imp (ps_asg he (pg_sub ho hi (set_LD (by omega)) ha) hs hw h1) fun E σ H h => ?_
  obtain ⟨B, m, ρ, S, r, re, f⟩ := upS_one (g := fun z ρ S => (fo ρ S).bindS ρ fun d S => (fi ρ S).bindS ρ fun k S => match lstOf S d, k with
    | some (n, xs), .int j => match ixN xs.length j with
      | some p => .fl (.nx ρ) (S.set n (some (.lst (xs.set p z))))
      | none => .bad
    | _, _ => match putAtD S d k z with
      | some S' => .fl (.nx ρ) S'
      | none => .bad) h
  refine ⟨B, m, ρ, S, r, re, f.mono fun x H1 => ?_⟩
  rintro ⟨B, m, ρ, S, dz, r, re, rz, f⟩
  refine ⟨B, m, ρ, S, r, re, fin.mono (fin.bindS re r f) fun vo H2 => ?_⟩
  rintro ⟨m2, S2, dO, p2, q2, f2⟩
  have re2 := re.kp (p2.kp r)
  refine ⟨B, m2, ρ, S2, p2.rl, re2, fin.mono (fin.bindS re2 p2.rl f2) fun vi H3 => ?_⟩
  rintro ⟨m3, S3, dk, p3, q3, f3⟩
  have rz3 := (rz.kp (p2.kp r)).kp (p3.kp p2.rl)
  have ro3 := q2.kp (p3.kp p2.rl)
  have re3 := re2.kp (p3.kp p2.rl)
  split at f3
  · rename_i n xs j e1
    split at f3
    · rename_i pl e2
      obtain ⟨a, ws, rfl, h1, h2, h3, h4, h5⟩ := lstOf_some p3.rl e1 ro3
      cases q3
      have kp := kp_upd (ho := .lst (ws.set pl x)) (o' := .lst (xs.set pl dz)) p3.rl h1 h2
      refine .inl ⟨a, ws, j, pl, rfl, rfl, h3, by rw [h5.length]; exact e2, ?_⟩
      exact f3 m3 _ σ (Post.upd p3.rl h1 h2 (.lst upd_same (by simpa using h4) ((h5.set pl rz3).kp kp))) (re3.kp kp)
    · exact f3.elim
  · split at f3
    · rename_i S' e2
      obtain ⟨a, H', rfl, g, po⟩ := putAt_ok p3.rl ro3 q3 rz3 e2
      exact .inr ⟨a, H', rfl, g, f3 m3 H' σ po (re3.kp (po.kp p3.rl))⟩
    · exact f3.elim
end
def sAug (i : Nat) (g : D → D → Option D) (e : Ex) : Sx := fun ρ S => match ρ[i]? with
  | some (some d) => (e ρ S).bindS ρ fun y S => match g (view S d) (view S y) with
    | some z => .fl (.nx (ρ.set i (some z))) S
    | none => .bad
  | _ => .bad
section
variable {X : Cx} {W : WX} {e : Expr} {fe : Ex} {pos pos' : Pos} {op : Operator} {g : D → D → Option D}
theorem sv_aug {i : Nat} {x : Str} (hN : X.N.Nodup) (hi : X.N[i]? = some x) (hx : Loc X.env.scope x) (he : EV X W e fe) (ho : OpR X (inplaceOp op) (rG2 X.K g)) (hf : X.fn x = true ∨ X.env.scope.names.lookup x = some .local := by first | exact .inl rfl | exact .inr rfl | assumption) :
    SV X W (.AugAssign (.Name x pos') op e pos) (sAug i g fe) := by
  refine ps_imp (ps_aug hN hi hx he (ti := rG2 X.K g) (fun pins s σ H x y v u Q I r1 r2 h => ho pins s σ H x y v u Q I r1 r2 h) hf) fun E σ H h => ?_
  obtain ⟨B, m, ρ, S, r, re, f⟩ := h
  unfold sAug at f
  split at f
  · rename_i d ed
    obtain ⟨v, ev, rv⟩ := re.2 i d ed
    refine ⟨v, ev, B, m, ρ, S, r, re, fin.mono (fin.bindS re r f) fun y H1 => ?_⟩
    rintro ⟨m1, S1, dy, p1, q1, f1⟩
    split at f1
    · rename_i z ez
      refine ⟨_, m1, _, _, z, fr_of p1.rl, vw p1.rl (rv.kp (p1.kp r)), vw p1.rl q1, ez, fun H' w s q => ?_⟩
      have pg := Post.grow p1.rl s
      exact f1 m1 H' _ pg (((re.kp (p1.kp r)).kp (pg.kp p1.rl)).set q)
    · exact f1.elim
  · exact f.elim
theorem ig_mod : OpR X (inplaceOp .Mod) (rG2 X.K modD) := og_int iop_mod fun dx dy d e => by
  unfold modD at e
  split at e
  · rename_i i j
    split at e
    · rename_i hc; cases e; exact ⟨i, j, _, rfl, rfl, rfl, fun H Q k => ⟨i, j, rfl, rfl, hc, k _ fun _ _ _ => .int _⟩⟩
    · cases e
  · cases e
end
def eChain (g g' : D → D → Option D) (a b c : Ex) : Ex := fun ρ S => (a ρ S).bind fun x S => (b ρ S).bind fun y S => match g (view S x) (view S y) with
  | some (.bl k) => if k = true then (c ρ S).bind fun z S => ans S (g' (view S y) (view S z)) else .ok (.bl false) S
  | _ => .bad
section
variable {X : Cx} {W : WX} {a b c : Expr} {fa fb fc : Ex} {pos : Pos} {op op' : CmpOp} {g g' : D → D → Option D}
theorem chain_of {K : PySem.W.Frag} {mg : Str → Option Value} {W : WX} {σ : L2.St} {H : Hp} {Q : VK} (h : up K mg W (eChain g g' fa fb fc) σ H Q) : tChain (rG2 K g) (rG2 K g') (up K mg W fa) (up K mg W fb) (up K mg W fc) σ H Q := by
  obtain ⟨B, m, ρ, S, r, re, f⟩ := up_two (g := fun x y ρ S => match g (view S x) (view S y) with
  | some (.bl k) => if k = true then (fc ρ S).bind fun z S => ans S (g' (view S y) (view S z)) else .ok (.bl false) S
  | _ => .bad) h
  refine ⟨B, m, ρ, S, r, re, f.mono fun x H1 => ?_⟩
  rintro ⟨B, m, ρ, S, r, re, f⟩
  refine ⟨B, m, ρ, S, r, re, f.mono fun y H2 => ?_⟩
  rintro ⟨B, m, ρ, S, dx, dy, r, re, rx, ry, f⟩
  split at f
  · rename_i k e
    refine ⟨_, m, _, _, _, fr_of r, vw r rx, vw r ry, e, fun H3 z s q => ?_⟩
    have p3 := Post.grow r s
    cases q
    refine ⟨k, rfl, ?_⟩
    have f3 := fin.later p3 f
    cases k with
    | false =>
      rw [if_neg Bool.false_ne_true] at f3 ⊢
      exact f3 m H3 _ (Post.refl p3.rl) (.bl false)
    | true =>
      rw [if_pos rfl] at f3 ⊢
      refine ⟨B, m, ρ, S, p3.rl, re.kp (p3.kp r), fin.mono (fin.bind f3) fun w H4 => ?_⟩
      rintro ⟨m4, S4, dz, p4, q4, f4⟩
      cases e5 : g' (view S4 dy) (view S4 dz) with
      | none => rw [e5] at f4; exact f4.elim
      | some d =>
        rw [e5] at f4
        exact ⟨_, m4, _, _, d, fr_of p4.rl, vw p4.rl ((ry.kp (p3.kp r)).kp (p4.kp p3.rl)), vw p4.rl q4, e5, fun H' z s q => f4.ok p4.rl s q⟩
  · exact f.elim
theorem ev_chain (ho : OpR X (compareOp op) (rG2 X.K g)) (ho' : OpR X (compareOp op') (rG2 X.K g')) (ha : EV X W a fa) (hb : EV X W b fb) (hc : EV X W c fc) (hm : lastMarks [op, op'] [b, c] = false := by with_unfolding_all rfl) :
    EV X W (.Compare a [op, op'] [b, c] pos) (eChain g g' fa fb fc) := pe_imp (pe_chain ho ho' ha hb hc hm) fun σ H Q h => chain_of h
end
end DL
set_option Elab.async false
set_option linter.all false
set_option maxRecDepth 100000
set_option maxHeartbeats 4000000
namespace DL
open PySem PySem.Spec PyProof.Rows L2
theorem kp_adopt {B : Addr → Prop} {m : List Addr} {S : Sto} {H : Hp} {D : Addr} {o : Ob} (hl : m.length = S.length) : Kp H H (Fo (BD B D) m S) (Fo B (m ++ [D]) (S ++ [some o])) m (m ++ [D]) := by
  refine ⟨fun _ _ h _ => h, fun _ _ h _ => h, fun _ _ _ h => h, fun a u h f z => ?_, fun n a h => ?_⟩
  · rcases z with z | z
    · exact f (.inl (.inl z))
    · rcases liv_app hl z with z | ⟨z, _⟩
      · exact f (.inr z)
      · exact f (.inl (.inr z))
  · rw [List.getElem?_append_left (List.getElem?_eq_some_iff.mp h).1]; exact h
theorem Rl.adopt {K : PySem.W.Frag} {mg : Str → Option Value} {B : Addr → Prop} {m : List Addr} {S : Sto} {H : Hp} {D : Addr} {acc : List V} {ds : List DL.D} (r : Rl K mg (BD B D) m H S) (nB : ¬ B D) (nD : D ∉ m) (hD : H D = some (.lst acc)) (q : RepA K H (Fo (BD B D) m S) m acc ds) (hz : acc.length ≤ sizeLine) :
    Rl K mg B (m ++ [D]) H (S ++ [some (.lst ds)]) := by
  have kp := kp_adopt (B := B) (D := D) (H := H) (o := .lst ds) r.len
  refine ⟨by simp [r.len], ?_, fun a h z => ?_, fun a h => r.bt a (.inl h), fun a h => ?_, fun n a u e1 e2 => ?_⟩
  · refine List.nodup_append.mpr ⟨r.nod, by simp, fun a h1 b h2 e => ?_⟩
    simp at h2
    subst h2
    subst e
    exact nD h1
  · rcases liv_app r.len h with h | ⟨h, _⟩
    · exact r.nb a h (.inl z)
    · exact nB (h ▸ z)
  · rcases List.mem_append.mp h with h | h
    · exact r.mt a h
    · simp at h
      subst h
      rw [hD]; simp
  · by_cases hn : n < m.length
    · rw [List.getElem?_append_left hn] at e1
      rw [List.getElem?_append_left (by rw [← r.len]; exact hn)] at e2
      cases r.obj n a u e1 e2 with
      | lst h z q => exact .lst h z (q.kp kp)
      | dK h z e q => exact .dK h z e (q.kp kp)
      | dT h z e q => exact .dT h z e (q.kp kp)
      | ins g h e q => exact .ins g h e (q.kp kp)
    · rw [List.getElem?_append_right (by omega)] at e1
      have hl := r.len
      rw [List.getElem?_append_right (by omega)] at e2
      have hz' : n - m.length = 0 := by
        have := (List.getElem?_eq_some_iff.mp e1).1
        simp at this
        omega
      rw [hz'] at e1
      rw [show n - S.length = 0 by omega] at e2
      simp at e1 e2
      subst e1 e2
      exact .lst hD hz (q.kp kp)
section
variable {X : Cx} {W : WX} {tg iter elt : Expr} {ifs : List Expr} {fi : Ix} {t : Tg} {tt : Tx} {fe : Ex} {scope : Scope} {own : List (Str × Nat)} {pos : Pos}
theorem compM_fin {K : PySem.W.Frag} {mg : Str → Option Value} {σ : L2.St} {Q : VK} (B : Addr → Prop) (m1 : List Addr) (S1 : Sto) (H1 : Hp) (m2 : List Addr) (S2 : Sto) (H2 : Hp) (D : Addr) (acc : List V) (ds : List DL.D) (r1 : Rl K mg B m1 H1 S1) (hD : H1 D = none) (pc : Pc m1 S1 H1 m2 S2 H2) (rl : Rl K mg (BD B D) m2 H2 S2) (hacc : H2 D = some (.lst acc))
    (qa : RepA K H2 (Fo (BD B D) m2 S2) m2 acc ds) (za : acc.length ≤ sizeLine) (nD : D ∉ m2) (f : fin K mg W B m1 S1 σ H1 (.ok (.ref S2.length) (S2 ++ [some (.lst ds)])) Q) : Q (.ref D) H2 := by
  have nB : ¬ B D := fun z => r1.bt D z hD
  have rl2 := rl.adopt nB nD hacc qa za
  refine f (m2 ++ [D]) H2 _ (post_of_pc ⟨?_, pc.keep, pc.smm, fun a h => ?_⟩ rl2) (.ref (by rw [List.getElem?_append_right (by rw [rl.len]; exact Nat.le_refl _), rl.len]; simp))
  · obtain ⟨l, e, fr⟩ := pc.ext
    refine ⟨l ++ [D], by rw [e, List.append_assoc], fun a h => ?_⟩
    rcases List.mem_append.mp h with h | h
    · exact fr a h
    · simp at h
      rw [h]; exact hD
  · rcases liv_app rl.len h with h | ⟨h, _⟩
    · exact pc.liv a h
    · right; rw [h]; exact hD
theorem ev_compM (hc : X.calm = true) (hN : X.N.Nodup) (hi : IV X W tg iter fi) (ok : BlkOk X.N X.env.scope scope own)
    (hg : ∀ (s : Shared) (H : Hp) (C : Addr) (cl : List (Str × Addr)) (fp : List Addr), GV (X.blk s H scope (compEnvC scope cl C X.env) fp) tg t) (ht : ∀ (s : Shared) (H : Hp) (C : Addr) (cl : List (Str × Addr)) (fp : List Addr), TVs (X.blk s H scope (compEnvC scope cl C X.env) fp) W0 ifs tt)
    (he : ∀ (s : Shared) (H : Hp) (C : Addr) (cl : List (Str × Addr)) (fp : List Addr), EV (X.blk s H scope (compEnvC scope cl C X.env) fp) W0 elt fe) (hv : ∀ i ∈ t.sl, i ∈ own.map (·.2) := by decide) (hs : ∀ x, foldedSetIterable iter X.env x = pure x := by intro _; rfl) :
    EV X W (.ListComp elt [⟨tg, iter, ifs, 0⟩] scope pos) (eCompM fi t tt fe (own.map (·.2))) :=
  pe_imp (pe_lc (g := Tg.rd X.K t) (tt := upT X.K X.mg W0 tt) (te := up X.K X.mg W0 fe) hc hN hi ok hg ht he hs) fun σ H Q h => lc_of hv h compM_fin
theorem sv_setCompM {i : Nat} {y : Str} {py spos : Pos} (hc : X.calm = true) (hN : X.N.Nodup) (hy : X.N[i]? = some y) (hyl : X.env.scope.names.lookup y = some .local) (hsw : swapsWith (.ListComp elt [⟨tg, iter, ifs, 0⟩] scope pos) (some (.Name y py)) spos.line X.env = pure true) (hi : IV X W tg iter fi) (ok : BlkOk X.N X.env.scope scope own)
    (hg : ∀ (s : Shared) (H : Hp) (C : Addr) (cl : List (Str × Addr)) (fp : List Addr), GV (X.blk s H scope (compEnvC scope cl C X.env) fp) tg t) (ht : ∀ (s : Shared) (H : Hp) (C : Addr) (cl : List (Str × Addr)) (fp : List Addr), TVs (X.blk s H scope (compEnvC scope cl C X.env) fp) W0 ifs tt)
    (he : ∀ (s : Shared) (H : Hp) (C : Addr) (cl : List (Str × Addr)) (fp : List Addr), EV (X.blk s H scope (compEnvC scope cl C X.env) fp) W0 elt fe) (hv : ∀ i ∈ t.sl, i ∈ own.map (·.2) := by decide) (hs : ∀ x, foldedSetIterable iter X.env x = pure x := by intro _; rfl) :
    SV X W (.Assign [.Name y py] (.ListComp elt [⟨tg, iter, ifs, 0⟩] scope pos) spos) (sAsg i (eCompM fi t tt fe (own.map (·.2)))) := by
  refine ps_imp (ps_setLc (g := Tg.rd X.K t) (tt := upT X.K X.mg W0 tt) (te := up X.K X.mg W0 fe) hc hN hy hyl hsw hi ok hg ht he hs) fun E σ H h => ?_
  obtain ⟨B, m, ρ, S, r, re, f⟩ := h
  refine lc_of (W := W) (Fin := fun acc S => .ok (.ref S.length) (S ++ [some (.lst acc)])) hv (Q := fun x H1 => gName i x σ H1 E.nx) ⟨B, m, ρ, S, r, re, ?_⟩ compM_fin
  have f' : finS X.K X.mg W B m S H ((eCompM fi t tt fe (own.map (·.2)) ρ S).bindS ρ fun d S => .fl (.nx (ρ.set i (some d))) S) E := f
  show fin X.K X.mg W B m S σ H (eCompM fi t tt fe (own.map (·.2)) ρ S) _
  refine fin.mono (fin.bindS re r f') fun v H1 => ?_
  rintro ⟨m1, S1, d, p, q, f1⟩
  exact f1 m1 H1 _ (Post.refl p.rl) ((re.kp (p.kp r)).set q)
end
def eListM (g : List D → Option D) (fs : List Ex) : Ex := fun ρ S => (evL fs ρ S).bind fun ds S => match g (ds.map (view S)) with
  | some (.lst xs) => .ok (.ref S.length) (S ++ [some (.lst xs)])
  | _ => .bad
def eLstRgM (a b : Ex) : Ex := fun ρ S => (a ρ S).bind fun x S => (b ρ S).bind fun y S => match x, y with
  | .int i, .int j => if -16777216 ≤ i ∧ i ≤ 16777216 ∧ -16777216 ≤ j ∧ j ≤ 16777216 ∧ (j - i).toNat ≤ 16777216 then .ok (.ref S.length) (S ++ [some (.lst (iRng i j))]) else .bad
  | _, _ => .bad
theorem rgV_rep {K : PySem.W.Frag} {H : Hp} {Fb : Addr → Prop} {m : List Addr} (i j : Int) : RepA K H Fb m (rgV i j) (iRng i j) := by
  unfold rgV iRng
  have : ∀ l : List Nat, RepA K H Fb m (l.map fun k => V.int (i + (k : Nat))) (l.map fun k => D.int (i + (k : Nat))) := by
    intro l
    induction l with
    | nil => exact .nil
    | cons x l ih => exact .cons (.int _) ih
  exact this _
theorem rgok {i j : Int} (h : -16777216 ≤ i ∧ i ≤ 16777216 ∧ -16777216 ≤ j ∧ j ≤ 16777216 ∧ (j - i).toNat ≤ 16777216) : RgOk i j := ⟨by omega, by omega, by omega, by omega, by have := h.2.2.2.2; omega⟩
section
variable {X : Cx} {W : WX} {e e2 : Expr} {fa fb : Ex} {p p2 pos pos2 : Pos}
theorem ev_lstRg1M (hc : X.calm = true) (hg : Gl X "list") (hm : X.mg "list" = none) (hg2 : Gl X "range") (hm2 : X.mg "range" = none) (ha : EV X W e fa)
    (na : starEach [e] X.env = (false, eval e X.env) :: starEach [] X.env := by rfl) (nb : starEach [.Call (.Name "range" p2) [e] [] pos2] X.env = (false, eval (.Call (.Name "range" p2) [e] [] pos2) X.env) :: starEach [] X.env := by rfl) :
    EV X W (.Call (.Name "list" p) [.Call (.Name "range" p2) [e] [] pos2] [] pos) (eLstRgM (eC (.int 0)) fa) := by
  refine pe_imp (pe_listRg hc hg hm (prg_1 hg2 hm2 ha na) nb) fun σ H Q h => ?_
  obtain ⟨B, m, ρ, S, r, re, f⟩ := up_one (fa := fa) (g := fun y ρ S => match D.int 0, y with
  | .int i, .int j => if -16777216 ≤ i ∧ i ≤ 16777216 ∧ -16777216 ≤ j ∧ j ≤ 16777216 ∧ (j - i).toNat ≤ 16777216 then .ok (.ref S.length) (S ++ [some (.lst (iRng i j))]) else .bad
  | _, _ => .bad) h
  refine ⟨B, m, ρ, S, r, re, f.mono fun x H1 => ?_⟩
  rintro ⟨B, m, ρ, S, dx, r, re, rx, f⟩
  cases dx with
  | int j =>
    cases rx
    dsimp only at f
    split at f
    · rename_i hj
      exact ⟨j, rfl, rgok hj, fun q hq => f (m ++ [q]) _ _ (Post.new r hq (.lst upd_same (by rw [rgV_length, sizeLine_eq]; omega) (rgV_rep 0 j))) (rep_new r)⟩
    · exact f.elim
  | _ => exact f.elim
end
section
variable {X : Cx} {W : WX} {x : Str} {pos : Pos}
theorem ev_gint {i : Int} (hg : Gl X x) (hm : ∃ t, X.mg x = some (.int i t)) (hd : (x == ("__debug__" : Str)) = false := by decide) : EV X W (.Name x pos) (eC (.int i)) := by
  obtain ⟨t, hm⟩ := hm
  exact pe_imp (pe_glob (v := .int i) hg hm ⟨t, rfl⟩ hd) fun σ H Q ⟨B, m, ρ, S, r, re, f⟩ => fin.ok r f (Same.refl H) (.int i)
theorem ev_gtupI {a : Addr} {ns : List Int} (hg : Gl X x) (hm : X.mg x = some (.ref a)) (hk : ∀ H, SqT X.K H a (ns.map V.int)) (hz : ns.length ≤ sizeLine) (hd : (x == ("__debug__" : Str)) = false := by decide) : EV X W (.Name x pos) (eC (.tup (ns.map .int))) :=
  pe_imp (pe_glob (v := .ref a) hg hm rfl hd) fun σ H Q ⟨B, m, ρ, S, r, re, f⟩ => fin.ok r f (Same.refl H) (.tup (hk H) (by simpa using hz) (repA_ints ns))
end
def revD : D → Option D
  | .lst xs => some (.lst xs.reverse)
  | .tup xs => some (.tup xs.reverse)
  | _ => none
theorem revAdj (n : Nat) : Builtin.Slice.sliceAdjust none none (-1) (n : Int) = ((n : Int) - 1, -1) := by
  unfold Builtin.Slice.sliceAdjust
  simp
theorem revPl (n : Nat) : Builtin.Slice.slicePlaces ((n : Int) - 1) (-1) (-1) = n := by
  unfold Builtin.Slice.slicePlaces
  simp
  split <;> omega
theorem fmCongr {α β : Type} {f : α → Option β} {g : α → β} : ∀ (l : List α), (∀ k ∈ l, f k = some (g k)) → l.filterMap f = l.map g
  | [], _ => rfl
  | a :: l, h => by
    rw [List.filterMap_cons, h a (by simp), List.map_cons, fmCongr l fun k hk => h k (by simp [hk])]
theorem revPick (xs : Array Value) : ((List.range xs.size).filterMap fun (k : Nat) => xs[(((xs.size : Nat) : Int) - 1 + (k : Int) * -1).toNat]?).toArray = xs.toList.reverse.toArray := by
  have e : ∀ k ∈ List.range xs.size, xs[(((xs.size : Nat) : Int) - 1 + (k : Int) * -1).toNat]? = some (xs.toList.reverse.getD k .none) := by
    intro k hk
    have hk' : k < xs.size := by simpa using hk
    have e1 : (((xs.size : Nat) : Int) - 1 + (k : Int) * -1).toNat = xs.size - 1 - k := by omega
    rw [e1, Array.getElem?_eq_getElem (by omega)]
    rw [List.getD_eq_getElem?_getD, List.getElem?_reverse (by simpa using hk')]
    rw [Array.length_toList, Array.getElem?_toList, Array.getElem?_eq_getElem (by omega)]
    rfl
  have e2 : (List.range xs.size).filterMap (fun (k : Nat) => xs[(((xs.size : Nat) : Int) - 1 + (k : Int) * -1).toNat]?) = (List.range xs.size).map fun k => xs.toList.reverse.getD k .none := by
    exact fmCongr _ e
  rw [e2]
  congr 1
  apply List.ext_getElem
  · simp
  · intro i h1 h2
    simp at h1
    rw [List.getElem_map, List.getElem_range, List.getD_eq_getElem?_getD, List.getElem?_eq_getElem (by simpa using h1)]
    rfl
theorem getItem_tuple_rev {prog : Program} {w : World} {A : Around} {E : Value → Shared → Prop} {s : Shared} {t sl : Addr} {items : Array Value} {vl vu vs : Value} {Q : Value → Shared → Prop} (ht : IsTup s.heap t items) (hs : s.heap.IsSliceOf sl vl vu vs) (pl : IsPart vl none) (pu : IsPart vu none) (ps : IsPart vs (some (-1)))
    (h : Q (.ref s.heap.objs.size) { s with heap := s.heap.push { cls := .type "tuple", data := .seq items.toList.reverse.toArray } })
    (hsz : items.size ≤ sizeLine) : wpAny (model prog w) A (getItem (.ref t) (.ref sl)) Q E s := by
  obtain ⟨os, hos, hcs, hds⟩ := id hs
  have hTs : s.TypeIs (.ref sl) "slice" := ⟨os, hos, hcs⟩
  unfold getItem
  try with_reducible refine wpAny_holding ?_
  first | refine wpAny_bind (wpAny_pure ?_) | skip
  refine wpAny_bind (wpAny_sequenceKey ht.typeIs (by decide) ?_)
  refine wpAny_bind (wpAny_callSpecial?_slot (name := Str.ofString "__getitem__") ht.typeIs PyProof.Rows.slot_tuple_getitem
    (wpAny_call_entry PyProof.Rows.slot_tuple_getitem ht.typeIs entry_tuple_getitem ?_ (args_tuple_getitem _ _)))
  show wpAny _ _ (Builtin.Tuple.tupleItemsOf (.ref t) >>= _) _ _ s
  refine wpAny_bind (tupleItemsOf_ ht ?_)
  refine wpAny_bind (wpAny_typeOf hTs ?_)
  rw [if_pos (by decide)]
  refine wpAny_bind ?_
  unfold Builtin.Slice.sliceApplied Builtin.Slice.sliceFields
  refine wpAny_bind (wpAny_bind (wpAny_field hos hds (x := vl) rfl (wpAny_bind (wpAny_field hos hds (x := vu) rfl (wpAny_bind (wpAny_field hos hds (x := vs) rfl (wpAny_pure ?_)))))))
  refine wpAny_bind (HT.slicePart_ ps ?_)
  show wpAny _ _ (if ((-1 : Int) == 0) = true then _ else _) _ _ s
  rw [if_neg (by decide)]
  refine wpAny_bind (HT.slicePart_ pl (wpAny_bind (HT.slicePart_ pu (wpAny_bind (wpAny_pure ?_)))))
  show wpAny _ _ (match Builtin.Slice.sliceAdjust none none (-1) ((items.size : Nat) : Int) with | (lo, hi) => pure (lo, (-1 : Int), Builtin.Slice.slicePlaces lo hi (-1))) _ _ s
  rw [revAdj]
  show wpAny _ _ (pure (((items.size : Nat) : Int) - 1, (-1 : Int), Builtin.Slice.slicePlaces (((items.size : Nat) : Int) - 1) (-1) (-1))) _ _ s
  rw [revPl]
  refine wpAny_pure ?_
  show wpAny _ _ (if ((((items.size : Nat) : Int) - 1) == 0 && (-1 : Int) == 1 && items.size == items.size) = true then _ else _) _ _ s
  rw [if_neg (by simp), revPick]
  have htake : sizeOk (.seq items.toList.reverse.toArray) := by
    show items.toList.reverse.toArray.size ≤ sizeLine
    simpa using hsz
  first
    | exact wpAny_bind (m := Builtin.Tuple.tupleExact _) (wpAny_newObj_type (wpAny_pure ⟨_, rfl, wpAny_pure h⟩) htake)
    | exact wpAny_bind (m := Builtin.Tuple.tupleExact _) (wpAny_newObj_type (wpAny_bind (wpAny_pure (wpAny_pure ⟨_, rfl, wpAny_pure h⟩))) htake)
    | exact wpAny_bind (wpAny_bind (m := Builtin.Tuple.tupleExact _) (wpAny_newObj_type (wpAny_pure (wpAny_pure ⟨_, rfl, wpAny_pure h⟩)) htake))
    | exact wpAny_bind (wpAny_bind (m := Builtin.Tuple.tupleExact _) (wpAny_newObj_type (wpAny_pure ⟨_, rfl, wpAny_pure h⟩) htake))
section
variable {X : Cx} {W : WX} {e : Expr} {fe : Ex} {k : Nat} {p1 p2 p3 pos : Pos}
theorem ev_rev (he : EV X W e fe) : EV X W (.Subscript e (.Slice none none (some (.UnaryOp .USub (.Constant (.int 1) k p1) p2)) p3) pos) (eOp1 revD fe) := by
  refine ⟨fun pins s σ H Q I h0 => ?_⟩
  have h1 := one_of h0
  refine Subscript_ (thn (he.run pins s σ H _ I h1) fun v s1 ⟨x, H1, I1, r1, Fb, m, dx, d, fr, vx, e1, kk⟩ => ?_)
  have hst : PO X (some (.UnaryOp .USub (.Constant (.int 1) k p1) p2)) (tPart (tUn (rU fun i => .int (-i)) (tC (.int 1)))) := po_some (pe_un un_neg pe_int)
  refine wpAny_Slice (thn (po_none.run pins s1 σ H1 (fun o H2 => o = none ∧ H2 = H1) I1 ⟨rfl, rfl⟩) fun vl s2 ⟨l, H2, I2, pl, el, e2⟩ => ?_)
  subst el e2
  refine thn (po_none.run pins s2 σ H2 (fun o H3 => o = none ∧ H3 = H2) I2 ⟨rfl, rfl⟩) fun vu s3 ⟨u, H3, I3, pu, eu, e3⟩ => ?_
  subst eu e3
  refine thn (hst.run pins s3 σ H3 (fun o H4 => o = some (-1) ∧ H4 = H3) I3 ⟨1, rfl, -1, rfl, rfl, rfl⟩) fun vs s4 ⟨o, H4, I4, ps, eo, e4⟩ => ?_
  subst eo e4
  have I5 : Inv X pins σ H4 { s4 with heap := s4.heap.push { cls := .type "slice", data := .fields #[vl, vu, vs] } } := I4.kept (t' := s4.toks) fun b ob q => Heap.get?_push_of_some _ q
  unfold revD at e1
  split at e1
  · rename_i xs
    cases e1
    obtain ⟨a, ws, rfl, h1, z1, q1⟩ := vx.asL
    cases r1
    obtain ⟨its, r, ht, hz⟩ := I5.list (SqL.of (K := X.K) h1)
    have hlen := r.length
    show wpAny (model X.prog X.w) X.A (subscriptTail e (.Slice none none (some (.UnaryOp .USub (.Constant (.int 1) k p1) p2)) p3) (.ref a) (.ref s4.heap.objs.size)) (EP X pins σ Q) X.xe { s4 with heap := s4.heap.push { cls := .type "slice", data := .fields #[vl, vu, vs] } }
    refine tail_any (ops := [.ref a, .ref s4.heap.objs.size]) ht.isList.typeIs (PySem.slot_list_getitem.lookup) ?_ (by with_unfolding_all rfl)
    refine wpAny_getItem_list_slice ht.isList (Heap.IsSliceOf.new _ vl vu vs) pl pu ps (by decide) ?_ (by rw [List.size_toArray]; omega)
    rw [PySem.W.krv_pick]
    have hp := I5.hok.fresh (a := (s4.heap.push { cls := .type "slice", data := .fields #[vl, vu, vs] }).objs.size) (Nat.le_refl _)
    refine ⟨.ref _, _, I5.laid (t' := s4.toks) (o := .lst ws.reverse) (fun b ob q => Heap.get?_push_of_some _ q) (Nat.le_refl _) ?_, rfl, kk _ _ (same_upd hp) (.lst upd_same (fr _ hp) (by simpa using z1) (q1.reverse.kp (kp_same (same_upd hp))))⟩
    exact ⟨by rw [List.length_reverse]; exact hz, _, 0, r.reverse, Heap.get?_push_size _ rfl⟩
  · rename_i xs
    cases e1
    obtain ⟨a, ws, rfl, h1, z1, q1⟩ := vx.asT
    cases r1
    obtain ⟨its, r, ht, hz⟩ := I5.tuple h1
    have hlen := r.length
    show wpAny (model X.prog X.w) X.A (subscriptTail e (.Slice none none (some (.UnaryOp .USub (.Constant (.int 1) k p1) p2)) p3) (.ref a) (.ref s4.heap.objs.size)) (EP X pins σ Q) X.xe { s4 with heap := s4.heap.push { cls := .type "slice", data := .fields #[vl, vu, vs] } }
    refine tail_any (ops := [.ref a, .ref s4.heap.objs.size]) ht.typeIs (PyProof.Rows.slot_tuple_getitem.lookup) ?_ (by with_unfolding_all rfl)
    refine getItem_tuple_rev ht (Heap.IsSliceOf.new _ vl vu vs) pl pu ps ?_ (by rw [List.size_toArray]; omega)
    have hp := I5.hok.fresh (a := (s4.heap.push { cls := .type "slice", data := .fields #[vl, vu, vs] }).objs.size) (Nat.le_refl _)
    refine ⟨.ref _, _, I5.laid (t' := s4.toks) (o := .tup ws.reverse) (fun b ob q => Heap.get?_push_of_some _ q) (Nat.le_refl _) ?_, rfl, kk _ _ (same_upd hp) (.tup (.of upd_same) (by simpa using z1) (q1.reverse.kp (kp_same (same_upd hp))))⟩
    refine ⟨by rw [List.length_reverse]; exact hz, _, r.reverse, ?_⟩
    show IsTup _ _ its.reverse.toArray
    have e7 : its.reverse.toArray = its.toArray.toList.reverse.toArray := by simp
    rw [e7]
    exact IsTup.new _ _
  · cases e1
end
end DL
set_option Elab.async false
set_option linter.all false
set_option maxRecDepth 100000
set_option maxHeartbeats 4000000
namespace DL
open PySem PySem.Spec PyProof.Rows L2
abbrev IsZipB (b : Bool) (h : Heap) (z TI TO : Addr) (f0 : Value) : Prop :=
  h.get? z = some { cls := .type "zip", dict := none, data := .fields #[f0, .bool false, .bool b, .ref TI, .ref TO], slots := #[] }
def SI (t : Bool) (h : Heap) (it a : Addr) (k : Nat) : Prop := if t = true then h.IsTupleIter it a k else h.IsListIter it a k
def SS (t : Bool) (h : Heap) (a : Addr) (xs : Array Value) : Prop := if t = true then h.IsTuple a xs else h.IsList a xs
theorem SI.extBut {t : Bool} {h h' : Heap} {a b l : Addr} {i : Nat} (x : SI t h a l i) (hs : Heap.ExtBut b h h') (hab : a ≠ b) : SI t h' a l i := by
  cases t with
  | true => exact Heap.IsTupleIter.extBut (show h.IsTupleIter a l i from x) hs hab
  | false => exact Heap.IsListIter.extBut (show h.IsListIter a l i from x) hs hab
theorem SI.at {t : Bool} {h h' : Heap} {a l : Addr} {i : Nat} (x : SI t h a l i) (k : ∀ o, h.get? a = some o → h'.get? a = some o) : SI t h' a l i := by
  cases t with
  | true => obtain ⟨o, e, r⟩ := (show h.IsTupleIter a l i from x); exact ⟨o, k o e, r⟩
  | false => obtain ⟨o, e, r⟩ := (show h.IsListIter a l i from x); exact ⟨o, k o e, r⟩
theorem SI.obj {t : Bool} {h : Heap} {a l : Addr} {i : Nat} (x : SI t h a l i) : ∃ o, h.get? a = some o ∧ ∀ v, o.data ≠ .cell v := by
  cases t with
  | true => obtain ⟨o, e, _, d⟩ := (show h.IsTupleIter a l i from x); exact ⟨o, e, fun v z => by rw [d] at z; cases z⟩
  | false => obtain ⟨o, e, _, d⟩ := (show h.IsListIter a l i from x); exact ⟨o, e, fun v z => by rw [d] at z; cases z⟩
theorem SI.lt {t : Bool} {h : Heap} {a l : Addr} {i : Nat} (x : SI t h a l i) : a < h.objs.size := by
  obtain ⟨o, e, _⟩ := x.obj
  exact Heap.lt_size e
theorem SS.extBut {t : Bool} {h h' : Heap} {a b : Addr} {xs : Array Value} (x : SS t h a xs) (hs : Heap.ExtBut b h h') (hab : a ≠ b) : SS t h' a xs := by
  cases t with
  | true => obtain ⟨o, e, r⟩ := (show h.IsTuple a xs from x); exact ⟨o, hs a o hab e, r⟩
  | false => exact Heap.IsList.extBut (show h.IsList a xs from x) hs hab
section
variable {prog : Program} {w : World} {A : Around} {E : Value → Shared → Prop} {s : Shared}
theorem src_item {t : Bool} {it l : Addr} {i : Nat} {items : Array Value} {x : Value} {Q : Value → Shared → Prop} (hit : SI t s.heap it l i) (hl : SS t s.heap l items) (hx : items[i]? = some x)
    (hQ : ∀ h', SI t h' it l (i + 1) → Heap.SameBut it s.heap h' → Q x { s with heap := h' }) : wpAny (model prog w) A (Builtin.SmallTypes.nextOf (.ref it)) Q E s := by
  cases t with
  | true => exact RZ.nextOf_tuple_item (show s.heap.IsTupleIter it l i from hit) (show s.heap.IsTuple l items from hl) hx hQ
  | false => exact wpAny_nextOf_list_item (show s.heap.IsListIter it l i from hit) (show s.heap.IsList l items from hl) hx hQ
theorem src_end {t : Bool} {it l : Addr} {i : Nat} {items : Array Value} {Q : Value → Shared → Prop} (hh : A.handled = none) (hit : SI t s.heap it l i) (hl : SS t s.heap l items) (hx : items[i]? = none)
    (hE : ∀ h' e, Heap.ExtBut it s.heap h' → (∃ o, h'.get? e = some o ∧ o.cls = .type "StopIteration") → E (.ref e) { s with heap := h' }) : wpAny (model prog w) A (Builtin.SmallTypes.nextOf (.ref it)) Q E s := by
  cases t with
  | true => exact RZ.nextOf_tuple_end hh (show s.heap.IsTupleIter it l i from hit) (show s.heap.IsTuple l items from hl) hx hE
  | false => exact wpAny_nextOf_list_end hh (show s.heap.IsListIter it l i from hit) (show s.heap.IsList l items from hl) hx hE
theorem srcE_item {t : Bool} {it l : Addr} {i : Nat} {items : Array Value} {x : Value} {Q : Option Value → Shared → Prop} (hit : SI t s.heap it l i) (hl : SS t s.heap l items) (hx : items[i]? = some x)
    (hQ : ∀ h', SI t h' it l (i + 1) → Heap.SameBut it s.heap h' → Q (some x) { s with heap := h' }) : wpAny (model prog w) A (Builtin.SmallTypes.nextOrEnd (.ref it)) Q E s := by
  unfold Builtin.SmallTypes.nextOrEnd
  refine wpAny_bind (wpAny_attempt (src_item hit hl hx fun h' a b => ?_))
  exact wpAny_pure (hQ h' a b)
theorem srcE_end {t : Bool} {it l : Addr} {i : Nat} {items : Array Value} {Q : Option Value → Shared → Prop} (hh : A.handled = none) (hit : SI t s.heap it l i) (hl : SS t s.heap l items) (hx : items[i]? = none)
    (hQ : ∀ h', Heap.ExtBut it s.heap h' → Q none { s with heap := h' }) : wpAny (model prog w) A (Builtin.SmallTypes.nextOrEnd (.ref it)) Q E s := by
  unfold Builtin.SmallTypes.nextOrEnd
  refine wpAny_bind (wpAny_attempt (src_end hh hit hl hx fun h' e hk he => ?_))
  obtain ⟨o, ho, hc⟩ := he
  refine wpAny_bind (wpAny_isInstance (T := "StopIteration") (b := true) ⟨o, ho, hc⟩ isSubtype_stop ?_)
  exact wpAny_pure (hQ _ hk)
theorem zipS_next_item {t1 t2 : Bool} {z TI TO i1 i2 l1 l2 : Addr} {k1 k2 : Nat} {xs ys : Array Value} {x y a b : Value} {Q : Value → Shared → Prop} (D : ZipApart z TI TO i1 i2 l1 l2)
    (hz : IsZipB true s.heap z TI TO .none) (hTI : IsPair s.heap TI (.ref i1) (.ref i2)) (hTO : IsPair s.heap TO a b)
    (h1 : SI t1 s.heap i1 l1 k1) (h2 : SI t2 s.heap i2 l2 k2) (hl1 : SS t1 s.heap l1 xs) (hl2 : SS t2 s.heap l2 ys) (hx : xs[k1]? = some x) (hy : ys[k2]? = some y)
    (hQ : ∀ h', IsZipB true h' z TI TO (rawInt s.heap.objs.size) → IsPair h' TO x y → SI t1 h' i1 l1 (k1 + 1) → SI t2 h' i2 l2 (k2 + 1) → IsPair h' s.heap.objs.size x y → h'.objs.size = s.heap.objs.size + 1 →
      (∀ c o, c ≠ z → c ≠ TO → c ≠ i1 → c ≠ i2 → s.heap.get? c = some o → h'.get? c = some o) → Q (.ref s.heap.objs.size) { s with heap := h' }) :
    wpAny (model prog w) A (Builtin.«zip.__next__» ⟨[.ref z], []⟩) (fun fin s' => ∃ v, fin = .done (.ret v) ∧ Q v s') E s := by
  show wpAny _ _ (field (.ref z) 2 >>= _) _ _ _
  refine wpAny_bind (wpAny_field hz rfl (x := .bool true) rfl ?_)
  show wpAny _ _ (field (.ref z) 3 >>= _) _ _ _
  refine wpAny_bind (wpAny_field hz rfl (x := .ref TI) rfl ?_)
  refine wpAny_bind (wpAny_seqItems hTI rfl ?_)
  show wpAny _ _ (Builtin.SmallTypes.ownedTupleIsFree (.ref z) >>= _) _ _ _
  refine wpAny_bind ?_
  unfold Builtin.SmallTypes.ownedTupleIsFree
  refine wpAny_bind (wpAny_field hz rfl (x := .none) rfl (wpAny_pure ?_))
  simp only [if_true]
  refine wpAny_bind (wpAny_rule ?_)
  refine wpAny_bind (wpAny_field hz rfl (x := .ref TO) rfl ?_)
  refine wpAny_bind (wpAny_setField_rec hz (by simp) fun h₁ hz₁ hs₁ => ?_)
  replace hz₁ : IsZipB true h₁ z TI TO .ellipsis := hz₁
  refine wpAny_bind ?_
  simp only [List.zipIdx_cons, List.zipIdx_nil, List.forIn_cons, List.forIn_nil]
  refine wpAny_bind (wpAny_bind (wpAny_onRaise ?_))
  show wpAny _ _ (Builtin.SmallTypes.nextOrEnd (.ref i1)) _ _ _
  refine srcE_item (h1.extBut hs₁.extBut D.i1z) (hl1.extBut hs₁.extBut D.l1z) hx fun h₂ h1₂ hs₂ => ?_
  have hTO₂ : IsPair h₂ TO a b := hs₂.extBut _ _ D.TOi1 (hs₁.extBut _ _ D.TOz hTO)
  refine wpAny_bind (wpAny_seqItems hTO₂ rfl ?_)
  refine wpAny_bind (wpAny_updateSeq_pair hTO₂ fun h₃ hTO₃ hs₃ => ?_)
  replace hTO₃ : IsPair h₃ TO x b := hTO₃
  refine wpAny_bind (wpAny_letGo (wpAny_pure ?_))
  refine wpAny_bind (wpAny_bind (wpAny_onRaise ?_))
  show wpAny _ _ (Builtin.SmallTypes.nextOrEnd (.ref i2)) _ _ _
  refine srcE_item (((h2.extBut hs₁.extBut D.i2z).extBut hs₂.extBut D.i12.symm).extBut hs₃.extBut D.TOi2.symm)
    (((hl2.extBut hs₁.extBut D.l2z).extBut hs₂.extBut D.l2i1).extBut hs₃.extBut D.l2TO) hy fun h₄ h2₄ hs₄ => ?_
  have hTO₄ : IsPair h₄ TO x b := hs₄.extBut _ _ D.TOi2 hTO₃
  refine wpAny_bind (wpAny_seqItems hTO₄ rfl ?_)
  refine wpAny_bind (wpAny_updateSeq_pair hTO₄ fun h₅ hTO₅ hs₅ => ?_)
  replace hTO₅ : IsPair h₅ TO x y := hTO₅
  refine wpAny_bind (wpAny_letGo (wpAny_pure (wpAny_pure ?_)))
  refine wpAny_bind (wpAny_seqItems hTO₅ rfl ?_)
  refine wpAny_bind (wpAny_newTuple ?_)
  have hsz : h₅.objs.size = s.heap.objs.size := by rw [hs₅.1, hs₄.1, hs₃.1, hs₂.1, hs₁.1]
  have hz₅ : IsZipB true h₅ z TI TO .ellipsis := hs₅.extBut _ _ D.TOz.symm (hs₄.extBut _ _ D.i2z.symm (hs₃.extBut _ _ D.TOz.symm (hs₂.extBut _ _ D.i1z.symm hz₁)))
  have hk₅ : ∀ c o, c ≠ z → c ≠ TO → c ≠ i1 → c ≠ i2 → s.heap.get? c = some o → h₅.get? c = some o := fun c o c1 c2 c3 c4 e =>
    hs₅.extBut _ _ c2 (hs₄.extBut _ _ c4 (hs₃.extBut _ _ c2 (hs₂.extBut _ _ c3 (hs₁.extBut _ _ c1 e))))
  have h1₅ : SI t1 h₅ i1 l1 (k1 + 1) := ((h1₂.extBut hs₃.extBut D.TOi1.symm).extBut hs₄.extBut D.i12).extBut hs₅.extBut D.TOi1.symm
  have h2₅ : SI t2 h₅ i2 l2 (k2 + 1) := h2₄.extBut hs₅.extBut D.TOi2.symm
  have hzlt : z < h₅.objs.size := Heap.lt_size hz₅
  have hTOlt : TO < h₅.objs.size := Heap.lt_size hTO₅
  have hi1lt : i1 < h₅.objs.size := h1₅.lt
  have hi2lt : i2 < h₅.objs.size := h2₅.lt
  show wpAny _ _ (Builtin.SmallTypes.ownedTupleHandOut (.ref z) (.ref h₅.objs.size) >>= _) _ _ _
  refine wpAny_bind ?_
  unfold Builtin.SmallTypes.ownedTupleHandOut
  have hz₆ : IsZipB true (h₅.push { cls := .type "tuple", data := .seq #[x, y] }) z TI TO .ellipsis := Heap.get?_push_of_some _ hz₅
  refine wpAny_bind (wpAny_setField_rec hz₆ (by simp) fun h₇ hz₇ hs₇ => ?_)
  replace hz₇ : IsZipB true h₇ z TI TO (rawInt h₅.objs.size) := hz₇
  refine wpAny_setField_rec hz₇ (by simp) fun h₈ hz₈ hs₈ => ?_
  replace hz₈ : IsZipB true h₈ z TI TO (rawInt h₅.objs.size) := hz₈
  have up : ∀ c o, c ≠ z → h₅.get? c = some o → h₈.get? c = some o := fun c o c1 e => hs₈.extBut _ _ c1 (hs₇.extBut _ _ c1 (Heap.get?_push_of_some _ e))
  have hT₈ : IsPair h₈ h₅.objs.size x y := hs₈.extBut _ _ (Nat.ne_of_gt hzlt) (hs₇.extBut _ _ (Nat.ne_of_gt hzlt) (Heap.get?_push_size _ rfl))
  have hz8 : h₈.objs.size = h₅.objs.size + 1 := by rw [hs₈.1, hs₇.1, Heap.size_push]
  rw [hsz] at hz₈ hT₈ hz8
  refine wpAny_pure ⟨_, rfl, ?_⟩
  show Q (.ref h₅.objs.size) _
  rw [hsz]
  exact hQ h₈ hz₈ (up _ _ D.TOz hTO₅) (h1₅.at fun o e => up _ o D.i1z e) (h2₅.at fun o e => up _ o D.i2z e) hT₈ hz8 fun c o c1 c2 c3 c4 e => up c o c1 (hk₅ c o c1 c2 c3 c4 e)
theorem zipS_next_end {t1 t2 : Bool} {z TI TO i1 i2 l1 l2 : Addr} {k1 k2 : Nat} {xs ys : Array Value} {a b : Value} {Q : Fin → Shared → Prop} (hh : A.handled = none) (D : ZipApart z TI TO i1 i2 l1 l2)
    (hz : IsZipB true s.heap z TI TO .none) (hTI : IsPair s.heap TI (.ref i1) (.ref i2)) (hTO : IsPair s.heap TO a b)
    (h1 : SI t1 s.heap i1 l1 k1) (h2 : SI t2 s.heap i2 l2 k2) (hl1 : SS t1 s.heap l1 xs) (hl2 : SS t2 s.heap l2 ys) (hx : xs[k1]? = none) (hy : ys[k2]? = none)
    (hE : ∀ h' e, (∀ c o, c ≠ z → c ≠ TO → c ≠ i1 → c ≠ i2 → s.heap.get? c = some o → h'.get? c = some o) → (∃ o, h'.get? e = some o ∧ o.cls = .type "StopIteration") → E (.ref e) { s with heap := h' }) :
    wpAny (model prog w) A (Builtin.«zip.__next__» ⟨[.ref z], []⟩) Q E s := by
  show wpAny _ _ (field (.ref z) 2 >>= _) _ _ _
  refine wpAny_bind (wpAny_field hz rfl (x := .bool true) rfl ?_)
  show wpAny _ _ (field (.ref z) 3 >>= _) _ _ _
  refine wpAny_bind (wpAny_field hz rfl (x := .ref TI) rfl ?_)
  refine wpAny_bind (wpAny_seqItems hTI rfl ?_)
  show wpAny _ _ (Builtin.SmallTypes.ownedTupleIsFree (.ref z) >>= _) _ _ _
  refine wpAny_bind ?_
  unfold Builtin.SmallTypes.ownedTupleIsFree
  refine wpAny_bind (wpAny_field hz rfl (x := .none) rfl (wpAny_pure ?_))
  simp only [if_true]
  refine wpAny_bind (wpAny_rule ?_)
  refine wpAny_bind (wpAny_field hz rfl (x := .ref TO) rfl ?_)
  refine wpAny_bind (wpAny_setField_rec hz (by simp) fun h₁ hz₁ hs₁ => ?_)
  replace hz₁ : IsZipB true h₁ z TI TO .ellipsis := hz₁
  refine wpAny_bind ?_
  simp only [List.zipIdx_cons, List.zipIdx_nil, List.forIn_cons, List.forIn_nil]
  refine wpAny_bind (wpAny_bind (wpAny_onRaise ?_))
  show wpAny _ _ (Builtin.SmallTypes.nextOrEnd (.ref i1)) _ _ _
  refine srcE_end hh (h1.extBut hs₁.extBut D.i1z) (hl1.extBut hs₁.extBut D.l1z) hx fun h₂ hs₂ => ?_
  have hz₂ : IsZipB true h₂ z TI TO .ellipsis := hs₂ _ _ D.i1z.symm hz₁
  refine wpAny_bind (wpAny_setField_rec hz₂ (by simp) fun h₃ _ hs₃ => ?_)
  refine wpAny_bind ?_
  refine wpAny_bind ?_
  simp only [List.drop_succ_cons, List.drop_zero, List.zipIdx_cons, List.zipIdx_nil, List.forIn_cons, List.forIn_nil]
  refine wpAny_bind ?_
  refine wpAny_bind (srcE_end hh (((h2.extBut hs₁.extBut D.i2z).extBut hs₂ D.i12.symm).extBut hs₃.extBut D.i2z) (((hl2.extBut hs₁.extBut D.l2z).extBut hs₂ D.l2i1).extBut hs₃.extBut D.l2z) hy fun h₄ hs₄ => ?_)
  rw [if_neg (show ¬ ((none : Option Value).isSome = true) by decide)]
  refine wpAny_pure (wpAny_pure (wpAny_bind (wpAny_rule ?_)))
  show wpAny _ _ (newExc (.type "StopIteration") [] >>= _) _ _ _
  refine wpAny_bind ?_
  simp only [newExc, newTuple]
  refine wpAny_bind (wpAny_newObj_type ?_ (by size_fits))
  refine wpAny_bind (m := firstArgMember _ _) (wpAny_of_eq (a := Value.none) (by first | rfl | (simp only [firstArgMember]; rfl)) ?_)
  refine wpAny_newObj_type ?_ (by size_fits)
  simp only [raiseNew]
  refine wpAny_bind (wpAny_handled ?_)
  first | rw [show A.in1.handled = none from hh] | rw [hh]
  refine wpAny_bind (wpAny_pure (wpAny_throw ?_))
  refine hE _ _ (fun c o c1 c2 c3 c4 x => Heap.get?_push_of_some _ (Heap.get?_push_of_some _ (hs₄ _ _ c4 (hs₃.extBut _ _ c1 (hs₂ _ _ c3 (hs₁.extBut _ _ c1 x)))))) ⟨_, Heap.get?_push_size _ rfl, rfl⟩
theorem pyNext_zipS_item {t1 t2 : Bool} {z TI TO i1 i2 l1 l2 : Addr} {k1 k2 : Nat} {xs ys : Array Value} {x y a b : Value} {Q : Option Value → Shared → Prop} (D : ZipApart z TI TO i1 i2 l1 l2)
    (hz : IsZipB true s.heap z TI TO .none) (hTI : IsPair s.heap TI (.ref i1) (.ref i2)) (hTO : IsPair s.heap TO a b)
    (h1 : SI t1 s.heap i1 l1 k1) (h2 : SI t2 s.heap i2 l2 k2) (hl1 : SS t1 s.heap l1 xs) (hl2 : SS t2 s.heap l2 ys) (hx : xs[k1]? = some x) (hy : ys[k2]? = some y)
    (hQ : ∀ h', IsZipB true h' z TI TO (rawInt s.heap.objs.size) → IsPair h' TO x y → SI t1 h' i1 l1 (k1 + 1) → SI t2 h' i2 l2 (k2 + 1) → IsPair h' s.heap.objs.size x y → h'.objs.size = s.heap.objs.size + 1 →
      (∀ c o, c ≠ z → c ≠ TO → c ≠ i1 → c ≠ i2 → s.heap.get? c = some o → h'.get? c = some o) → Q (some (.ref s.heap.objs.size)) { s with heap := h' }) :
    wpAny (model prog w) A (pyNext (.ref z)) Q E s := by
  have hT : s.TypeIs (.ref z) "zip" := ⟨_, hz, rfl⟩
  unfold pyNext
  exact wpAny_bind (wpAny_attempt (wpAny_callSpecial?_slot (name := Str.ofString "__next__") hT F.slot_zip_next
    (wpAny_call_entry F.slot_zip_next hT F.entry_zip_next
      (zipS_next_item D hz hTI hTO h1 h2 hl1 hl2 hx hy fun h' a1 a2 a3 a4 a5 a6 a7 => wpAny_pure (hQ h' a1 a2 a3 a4 a5 a6 a7)) (F.args_zip_next_1 _))))
theorem pyNext_zipS_end {t1 t2 : Bool} {z TI TO i1 i2 l1 l2 : Addr} {k1 k2 : Nat} {xs ys : Array Value} {a b : Value} {Q : Option Value → Shared → Prop} (hh : A.handled = none) (D : ZipApart z TI TO i1 i2 l1 l2)
    (hz : IsZipB true s.heap z TI TO .none) (hTI : IsPair s.heap TI (.ref i1) (.ref i2)) (hTO : IsPair s.heap TO a b)
    (h1 : SI t1 s.heap i1 l1 k1) (h2 : SI t2 s.heap i2 l2 k2) (hl1 : SS t1 s.heap l1 xs) (hl2 : SS t2 s.heap l2 ys) (hx : xs[k1]? = none) (hy : ys[k2]? = none)
    (hQ : ∀ h', (∀ c o, c ≠ z → c ≠ TO → c ≠ i1 → c ≠ i2 → s.heap.get? c = some o → h'.get? c = some o) → Q none { s with heap := h' }) : wpAny (model prog w) A (pyNext (.ref z)) Q E s := by
  have hT : s.TypeIs (.ref z) "zip" := ⟨_, hz, rfl⟩
  unfold pyNext
  refine wpAny_bind (wpAny_attempt (wpAny_callSpecial?_slot (name := Str.ofString "__next__") hT F.slot_zip_next
    (wpAny_call_entry F.slot_zip_next hT F.entry_zip_next (zipS_next_end hh D hz hTI hTO h1 h2 hl1 hl2 hx hy fun h' e hk he => ?_) (F.args_zip_next_1 _))))
  obtain ⟨o, ho, hc⟩ := he
  refine wpAny_bind (wpAny_isInstance (T := "StopIteration") (b := true) ⟨o, ho, hc⟩ isSubtype_stop ?_)
  exact wpAny_pure (hQ _ hk)
theorem letGo_zipS {elts : List Expr} {x1} {pos : Pos} {z TI TO T : Addr} {Q : Unit → Shared → Prop} (hz : IsZipB true s.heap z TI TO (rawInt T))
    (hQ : ∀ h', IsZipB true h' z TI TO .none → Heap.SameBut z s.heap h' → Q () { s with heap := h' }) :
    wpAny (model prog w) A (letOwnedTupleGo (.Tuple elts x1 pos) (.ref z) (.ref T)) Q E s := by
  unfold letOwnedTupleGo
  refine wpAny_bind (wpAny_load hz ?_)
  show wpAny _ _ (if (["enumerate", "zip", "dict_itemiterator", "dict_reverseitemiterator", "odict_iterator", "itertools.zip_longest", "itertools.pairwise"].contains "zip" &&
      (#[rawInt T, .bool false, .bool true, .ref TI, .ref TO] : Array Value)[0]? == some (rawInt T)) = true then _ else _) Q E s
  rw [if_pos (by simp)]
  refine wpAny_bind (wpAny_rule ?_)
  show wpAny _ _ (setField (.ref z) 0 .none) Q E s
  exact wpAny_setField_rec hz (by simp) fun h' hz' hs' => hQ h' hz' hs'
theorem pyIter_zipS {z TI TO : Addr} {f0 : Value} {Q : Value → Shared → Prop} (hz : IsZipB true s.heap z TI TO f0) (h : Q (.ref z) s) : wpAny (model prog w) A (pyIter (.ref z)) Q E s := by
  have hT : s.TypeIs (.ref z) "zip" := ⟨_, hz, rfl⟩
  refine wpAny_pyIter_slot hT F.slot_zip_iter (wpAny_call_entry F.slot_zip_iter hT F.entry_zip_iter ?_ (F.args_zip_iter_1 _))
  show wpAny _ _ (ret (.ref z)) _ _ s
  exact wpAny_pure ⟨_, rfl, "zip", _, hT, F.slot_zip_next.lookup, h⟩
end
def itO (t : Bool) (l : Addr) : Obj := { cls := .type (if t = true then "tuple_iterator" else "list_iterator"), data := .fields #[.ref l, .int 0 0] }
theorem src_iter {prog : Program} {w : World} {A : Around} {E : Value → Shared → Prop} {s : Shared} {t : Bool} {l : Addr} {xs : Array Value} {Q : Value → Shared → Prop} (h : SS t s.heap l xs) (q : Q (.ref s.heap.objs.size) { s with heap := s.heap.push (itO t l) }) : wpAny (model prog w) A (pyIter (.ref l)) Q E s := by
  cases t with
  | true => exact wpAny_pyIter_tuple (show s.heap.IsTuple l xs from h) q
  | false => exact wpAny_pyIter_list (show s.heap.IsList l xs from h) q
theorem SI.new {t : Bool} {h : Heap} {l : Addr} : SI t (h.push (itO t l)) h.objs.size l 0 := by
  cases t with
  | true => exact ⟨_, Heap.get?_push_size _ rfl, rfl, rfl⟩
  | false => exact ⟨_, Heap.get?_push_size _ rfl, rfl, rfl⟩
theorem SS.keep {t : Bool} {h h' : Heap} {a : Addr} {xs : Array Value} (x : SS t h a xs) (k : ∀ o, h.get? a = some o → h'.get? a = some o) : SS t h' a xs := by
  cases t with
  | true => obtain ⟨o, e, r⟩ := (show h.IsTuple a xs from x); exact ⟨o, k o e, r⟩
  | false => obtain ⟨o, e, r⟩ := (show h.IsList a xs from x); exact ⟨o, k o e, r⟩
theorem SS.lt {t : Bool} {h : Heap} {a : Addr} {xs : Array Value} (x : SS t h a xs) : a < h.objs.size := by
  cases t with
  | true => obtain ⟨o, e, r⟩ := (show h.IsTuple a xs from x); exact Heap.lt_size e
  | false => obtain ⟨o, e, r⟩ := (show h.IsList a xs from x); exact Heap.lt_size e
abbrev zS1 (h : Heap) (t1 : Bool) (l1 : Addr) : Heap := h.push (itO t1 l1)
abbrev zS2 (h : Heap) (t1 t2 : Bool) (l1 l2 : Addr) : Heap := (zS1 h t1 l1).push (itO t2 l2)
abbrev zS3 (h : Heap) (t1 t2 : Bool) (l1 l2 : Addr) : Heap := (zS2 h t1 t2 l1 l2).push { cls := .type "tuple", data := .seq #[.ref h.objs.size, .ref (zS1 h t1 l1).objs.size] }
abbrev zS4 (h : Heap) (t1 t2 : Bool) (l1 l2 : Addr) : Heap := (zS3 h t1 t2 l1 l2).push { cls := .type "tuple", data := .seq #[.none, .none] }
abbrev zS5 (h : Heap) (t1 t2 : Bool) (l1 l2 : Addr) : Heap := (zS4 h t1 t2 l1 l2).push { cls := .type "zip", data := .fields #[.none, .bool false, .bool true, .ref (zS2 h t1 t2 l1 l2).objs.size, .ref (zS3 h t1 t2 l1 l2).objs.size] }
abbrev kwS : List (Str × Value) := [(Str.ofString "strict", .bool true)]
theorem meets_zipS_new (t1 t2 : Bool) (l1 l2 : Addr) (xs ys : Array Value) :
    Meets (Builtin.«zip.__new__» ⟨[.type "zip", .ref l1, .ref l2], kwS⟩) (fun _ R s => SS t1 s.heap l1 xs ∧ SS t2 s.heap l2 ys ∧
      R (.ok (.ret (.ref (zS4 s.heap t1 t2 l1 l2).objs.size))) { s with heap := zS5 s.heap t1 t2 l1 l2 }) :=
  .of_wp fun prog w A R s h => by
    obtain ⟨hp, g, d, tk, os⟩ := s; obtain ⟨hl1, hl2, h⟩ := h
    have hsub := sub_zip
    have q1 : ∀ {A' : Around} {E : Value → Shared → Prop} {Q : Value → Shared → Prop}, Q (.ref hp.objs.size) ⟨hp.push (itO t1 l1), g, d, tk, os⟩ → wpAny (model prog w) A' (pyIter (.ref l1)) Q E ⟨hp, g, d, tk, os⟩ := fun q => src_iter (s := ⟨hp, g, d, tk, os⟩) hl1 q
    have q2 : ∀ {A' : Around} {E : Value → Shared → Prop} {Q : Value → Shared → Prop}, Q (.ref (hp.push (itO t1 l1)).objs.size) ⟨(hp.push (itO t1 l1)).push (itO t2 l2), g, d, tk, os⟩ → wpAny (model prog w) A' (pyIter (.ref l2)) Q E ⟨hp.push (itO t1 l1), g, d, tk, os⟩ :=
      fun q => src_iter (s := ⟨hp.push (itO t1 l1), g, d, tk, os⟩) (hl2.keep fun o e => Heap.get?_push_of_some _ e) q
    have e1 : (Str.ofString "strict" != ("strict" : Str)) = false := by decide +kernel
    wp_walk using q1, q2
    exact ⟨_, rfl, h⟩
theorem typeCall_zipS (a b : Value) : checkTypeCall "zip" ⟨[a, b], kwS⟩ = pure () := by kernel_rfl
theorem newCall_zipS (a b : Value) : checkBuiltinCall "zip.__new__" ⟨[.type "zip", a, b], kwS⟩ = pure () := by kernel_rfl
theorem args_object_initS (obj a b : Value) : argsOk "object.__init__" ⟨[obj, a, b], kwS⟩ := by unfold argsOk; kernel_rfl
section
variable {prog : Program} {w : World} {A : Around} {E : Value → Shared → Prop} {s : Shared}
theorem call_zipS {t1 t2 : Bool} {l1 l2 : Addr} {xs ys : Array Value} {Q : Value → Shared → Prop} (hl1 : SS t1 s.heap l1 xs) (hl2 : SS t2 s.heap l2 ys)
    (h : ∀ h', IsZipB true h' (s.heap.objs.size + 4) (s.heap.objs.size + 2) (s.heap.objs.size + 3) .none → IsPair h' (s.heap.objs.size + 2) (.ref s.heap.objs.size) (.ref (s.heap.objs.size + 1)) →
      IsPair h' (s.heap.objs.size + 3) .none .none → SI t1 h' s.heap.objs.size l1 0 → SI t2 h' (s.heap.objs.size + 1) l2 0 → h'.objs.size = s.heap.objs.size + 5 →
      (∀ c o, s.heap.get? c = some o → h'.get? c = some o) → Q (.ref (s.heap.objs.size + 4)) { s with heap := h' }) :
    wpAny (model prog w) A (call (.type "zip") [.ref l1, .ref l2] kwS) Q E s := by
  refine callType_newKw F.called_zip (by decide) (typeCall_zipS _ _) (newCall_zipS _ _) (fun obj => args_object_initS obj _ _) F.entry_zip_new
    (meets_zipS_new t1 t2 l1 l2 xs ys) ⟨hl1, hl2, ?_⟩
  have z1 : (zS1 s.heap t1 l1).objs.size = s.heap.objs.size + 1 := Heap.size_push ..
  have z2 : (zS2 s.heap t1 t2 l1 l2).objs.size = s.heap.objs.size + 2 := by rw [Heap.size_push, z1]
  have z3 : (zS3 s.heap t1 t2 l1 l2).objs.size = s.heap.objs.size + 3 := by rw [Heap.size_push, z2]
  have z4 : (zS4 s.heap t1 t2 l1 l2).objs.size = s.heap.objs.size + 4 := by rw [Heap.size_push, z3]
  have z5 : (zS5 s.heap t1 t2 l1 l2).objs.size = s.heap.objs.size + 5 := by rw [Heap.size_push, z4]
  have g5 : (zS5 s.heap t1 t2 l1 l2).get? (zS4 s.heap t1 t2 l1 l2).objs.size = some _ := Heap.get?_push_size _ rfl
  have g4 : (zS5 s.heap t1 t2 l1 l2).get? (zS3 s.heap t1 t2 l1 l2).objs.size = some _ := Heap.get?_push_of_some _ (Heap.get?_push_size _ rfl)
  have g3 : (zS5 s.heap t1 t2 l1 l2).get? (zS2 s.heap t1 t2 l1 l2).objs.size = some _ := Heap.get?_push_of_some _ (Heap.get?_push_of_some _ (Heap.get?_push_size _ rfl))
  have g2 : SI t2 (zS5 s.heap t1 t2 l1 l2) (zS1 s.heap t1 l1).objs.size l2 0 := SI.at (h := zS2 s.heap t1 t2 l1 l2) SI.new fun o e => Heap.get?_push_of_some _ (Heap.get?_push_of_some _ (Heap.get?_push_of_some _ e))
  have g1 : SI t1 (zS5 s.heap t1 t2 l1 l2) s.heap.objs.size l1 0 := SI.at (h := zS1 s.heap t1 l1) SI.new fun o e => Heap.get?_push_of_some _ (Heap.get?_push_of_some _ (Heap.get?_push_of_some _ (Heap.get?_push_of_some _ e)))
  show _ ∧ _
  rw [z2, z3, z4] at g5
  rw [z1, z2] at g3
  rw [z3] at g4
  rw [z1] at g2
  rw [z4]
  exact ⟨⟨_, g5, rfl⟩, h _ g5 g3 g4 g1 g2 z5 fun c o x =>
    Heap.get?_push_of_some _ (Heap.get?_push_of_some _ (Heap.get?_push_of_some _ (Heap.get?_push_of_some _ (Heap.get?_push_of_some _ x))))⟩
end
/-- read as a list or a tuple -/
def SqB (t : Bool) (K : PySem.W.Frag) (H : Hp) (a : Addr) (xs : List V) : Prop := if t = true then SqT K H a xs else SqL K H a xs
theorem seqB {X : Cx} {pins : List (Addr × Obj)} {σ : L2.St} {H : Hp} {s : Shared} {t : Bool} {a : Addr} {xs : List V} (I : Inv X pins σ H s) (h : SqB t X.K H a xs) : ∃ its : List Value, Vals xs its ∧ SS t s.heap a its.toArray := by
  cases t with
  | true => obtain ⟨its, r, p, _⟩ := I.tuple (show SqT X.K H a xs from h); exact ⟨its, r, p⟩
  | false => obtain ⟨its, r, p, _⟩ := I.list (show SqL X.K H a xs from h); exact ⟨its, r, p.isList⟩
theorem seqB_inj {X : Cx} {pins : List (Addr × Obj)} {σ : L2.St} {H : Hp} {s : Shared} {t : Bool} {a : Addr} {xs ys : List V} (I : Inv X pins σ H s) (h : SqB t X.K H a xs) (h' : SqB t X.K H a ys) : xs = ys := by
  cases t with
  | true => exact I.tuple_inj (show SqT X.K H a xs from h) h'
  | false => exact I.list_inj (show SqL X.K H a xs from h) h'
def ItzS (t1 t2 : Bool) (K : PySem.W.Frag) (a b : Addr) : It :=
  ⟨fun i H => ∃ (xs ys : List V) (x y : V), SqB t1 K H a xs ∧ SqB t2 K H b ys ∧ xs[i]? = some x ∧ ys[i]? = some y,
    fun i H v H' => ∃ T x y, v = .ref T ∧ H T = none ∧ H' = upd H T (.tup [x, y]) ∧ (∀ xs, SqB t1 K H a xs → xs[i]? = some x) ∧ ∀ ys, SqB t2 K H b ys → ys[i]? = some y,
    fun i H => ∃ xs ys : List V, SqB t1 K H a xs ∧ SqB t2 K H b ys ∧ xs.length ≤ i ∧ ys.length ≤ i⟩
theorem turn_zipS {t1 t2 : Bool} {P : Program} {w : World} {K : PySem.W.Frag} {elts : List Expr} {kk : Nat} {tpos : Pos} {a b z TI TO i1 i2 : Addr} (D : ZipApart z TI TO i1 i2 a b) :
    Turn P w K (.Tuple elts kk tpos) (ItzS t1 t2 K a b) [z, TI, TO, i1, i2] z (fun i h => IsZipB true h z TI TO .none ∧ IsPair h TI (.ref i1) (.ref i2) ∧ (∃ x y, IsPair h TO x y) ∧ SI t1 h i1 a i ∧ SI t2 h i2 b i) where
  mem := by simp
  obj := fun i h st c hc => by
    obtain ⟨hz, hTI, ⟨x, y, hTO⟩, h1, h2⟩ := st
    have e' : c = z ∨ c = TI ∨ c = TO ∨ c = i1 ∨ c = i2 := by simpa using hc
    rcases e' with q | q | q | q | q
    · rw [q]; exact ⟨_, hz, fun v q => nomatch q⟩
    · rw [q]; exact ⟨_, hTI, fun v q => nomatch q⟩
    · rw [q]; exact ⟨_, hTO, fun v q => nomatch q⟩
    · rw [q]; exact h1.obj
    · rw [q]; exact h2.obj
  keep := fun i h h' st k => by
    obtain ⟨hz, hTI, ⟨x, y, hTO⟩, h1, h2⟩ := st
    exact ⟨k z (by simp) _ hz, k TI (by simp) _ hTI, ⟨x, y, k TO (by simp) _ hTO⟩, h1.at fun o q => k i1 (by simp) o q, h2.at fun o q => k i2 (by simp) o q⟩
  item := by
    intro X hP hw hK hc i pins s σ H E I hf st hg
    subst hP hw hK
    obtain ⟨hz, hTI, ⟨x0, y0, hTO⟩, h1, h2⟩ := st
    obtain ⟨xs, ys, x, y, hqx, hqy, hx, hy⟩ := hg
    obtain ⟨its, rv, p⟩ := seqB I hqx
    obtain ⟨its2, rv2, p2⟩ := seqB I hqy
    obtain ⟨u, hu, ru⟩ := rv.get hx
    obtain ⟨u2, hu2, ru2⟩ := rv2.get hy
    have hzl : z < s.heap.objs.size := Heap.lt_size hz
    refine pyNext_zipS_item D hz hTI hTO h1 h2 p p2 (x := u) (y := u2) (by simpa using hu) (by simpa using hu2) fun h' z' TO' h1' h2' hT hsz hk => ?_
    refine ⟨_, rfl, letGo_zipS (s := { s with heap := h' }) z' fun h'' z'' sb => ?_⟩
    have hT2 : h''.get? s.heap.objs.size = some { cls := .type "tuple", data := .seq #[u, u2] } := (sb.2 _ (Nat.ne_of_gt hzl)).trans hT
    have new : ObjOk X.prog X.w (upd H s.heap.objs.size (.tup [x, y])) h'' s.heap.objs.size (.tup [x, y]) :=
      ⟨by show 2 ≤ sizeLine; decide, [u, u2], .cons ru (.cons ru2 .nil), ⟨_, hT2, rfl, _, rfl⟩⟩
    have I1 : Inv X pins σ (upd H s.heap.objs.size (.tup [x, y])) { s with heap := h'' } :=
      I.turnedNew (t' := s.toks) (ch := [z, TI, TO, i1, i2]) (fun c o hb q => (sb.2 c (fun q' => hb (by simp [q']))).trans (hk c o (fun q' => hb (by simp [q'])) (fun q' => hb (by simp [q'])) (fun q' => hb (by simp [q'])) (fun q' => hb (by simp [q'])) q)) hf (Nat.le_refl _) new
    refine ⟨.ref s.heap.objs.size, _, I1, rfl, ⟨_, x, y, rfl, I.hok.fresh (Nat.le_refl _), rfl, fun l hl => by rw [seqB_inj I hl hqx]; exact hx, fun l hl => by rw [seqB_inj I hl hqy]; exact hy⟩, ⟨z'', ?_, ⟨u, u2, ?_⟩, ?_, ?_⟩, fun c hcm => ?_⟩
    · exact (sb.2 _ D.TIz).trans (hk _ _ D.TIz D.TITO D.TIi1 D.TIi2 hTI)
    · exact (sb.2 _ D.TOz).trans TO'
    · exact h1'.at fun o q => (sb.2 _ D.i1z).trans q
    · exact h2'.at fun o q => (sb.2 _ D.i2z).trans q
    · have hlt : c < s.heap.objs.size := by
        have e' : c = z ∨ c = TI ∨ c = TO ∨ c = i1 ∨ c = i2 := by simpa using hcm
        rcases e' with q | q | q | q | q
        · rw [q]; exact hzl
        · rw [q]; exact Heap.lt_size hTI
        · rw [q]; exact Heap.lt_size hTO
        · rw [q]; exact h1.lt
        · rw [q]; exact h2.lt
      rw [upd_ne (Nat.ne_of_lt hlt)]
      exact (hf c hcm).1
  done := by
    intro X hP hw hK hc i pins s σ H E I hf st hg
    subst hP hw hK
    obtain ⟨hz, hTI, ⟨x0, y0, hTO⟩, h1, h2⟩ := st
    obtain ⟨xs, ys, hqx, hqy, he1, he2⟩ := hg
    obtain ⟨its, rv, p⟩ := seqB I hqx
    obtain ⟨its2, rv2, p2⟩ := seqB I hqy
    have l1 := rv.length
    have l2 := rv2.length
    exact pyNext_zipS_end (I.ok.hd hc) D hz hTI hTO h1 h2 p p2 (by simp; omega) (by simp; omega) fun h' hk => ⟨rfl, I.turnedL (t' := s.toks) (ch := [z, TI, TO, i1, i2]) (fun c o hb q =>
      hk c o (fun q' => hb (by simp [q'])) (fun q' => hb (by simp [q'])) (fun q' => hb (by simp [q'])) (fun q' => hb (by simp [q'])) q) hf⟩
  self := fun A i s Q E st h => pyIter_zipS st.1 h
/-- the items of zip(.., strict=True) -/
def asSq : D → Option (Bool × List D)
  | .tup xs => some (true, xs)
  | .lst xs => some (false, xs)
  | _ => none
def zipDs (xs ys : List D) : List D := (xs.zip ys).map fun p => .tup [p.1, p.2]
def iZipS (a b : Ex) : Ix := fun ρ S => (a ρ S).bind fun x S => (b ρ S).bind fun y S => match asSq x, asSq y with
  | some p, some q => if p.2.length = q.2.length then .ok (zipDs p.2 q.2) S else .bad
  | _, _ => .bad
section
variable {K : PySem.W.Frag} {H : Hp} {Fb : Addr → Prop} {m : List Addr}
theorem asSq_rep {v : V} {d : D} {p : Bool × List D} (h : Rep K H Fb m v d) (e : asSq d = some p) : ∃ a vs, v = .ref a ∧ RepA K H Fb m vs p.2 ∧ SqB p.1 K H a vs ∧ ∀ H2 F2 m2, Kp H H2 Fb F2 m m2 → SqB p.1 K H2 a vs := by
  cases d with
  | tup xs => cases e; cases h with | tup h z q => exact ⟨_, _, rfl, q, h, fun H2 F2 m2 k => k.sqT h⟩
  | lst xs => cases e; cases h with | lst h f z q => exact ⟨_, _, rfl, q, SqL.of h, fun H2 F2 m2 k => SqL.of (k.lst _ _ h f)⟩
  | _ => simp [asSq] at e
theorem itr_zipS {t1 t2 : Bool} {a b : Addr} {xs ys : List D} {vs ws : List V} (q1 : RepA K H Fb m vs xs) (q2 : RepA K H Fb m ws ys) (h1 : ∀ H2 F2 m2, Kp H H2 Fb F2 m m2 → SqB t1 K H2 a vs) (h2 : ∀ H2 F2 m2, Kp H H2 Fb F2 m m2 → SqB t2 K H2 b ws)
    (hl : xs.length = ys.length) : ItR K H Fb m (ItzS t1 t2 K a b) (zipDs xs ys) := by
  intro H2 F2 m2 k
  have s1 := h1 H2 F2 m2 k
  have s2 := h2 H2 F2 m2 k
  have l1 := q1.length
  have l2 := q2.length
  have hz : (zipDs xs ys).length = xs.length := by simp [zipDs]; omega
  refine ⟨fun i hi => ?_, fun i hi => ⟨vs, ws, s1, s2, by omega, by omega⟩⟩
  rw [hz] at hi
  obtain ⟨v, ev, rv⟩ := (q1.kp k).get (d := xs[i]) (List.getElem?_eq_getElem hi)
  obtain ⟨w, ew, rw'⟩ := (q2.kp k).get (d := ys[i]'(by omega)) (List.getElem?_eq_getElem (by omega))
  refine ⟨⟨vs, ws, v, w, s1, s2, ev, ew⟩, fun x H3 y => ?_⟩
  obtain ⟨T, x1, y1, e1, e2, e3, e4, e5⟩ := y
  subst e1 e3
  have a1 := e4 vs s1
  rw [ev] at a1; cases a1
  have a2 := e5 ws s2
  rw [ew] at a2; cases a2
  refine ⟨.tup [xs[i], ys[i]'(by omega)], by rw [zipDs, List.getElem?_map, List.getElem?_eq_getElem (show i < (xs.zip ys).length by simp; omega), List.getElem_zip]; rfl, same_upd e2, ?_⟩
  exact .tup (.of upd_same) (by show 2 ≤ sizeLine; decide) ((RepA.cons rv (.cons rw' .nil)).kp (kp_same (same_upd e2)))
end
theorem fresh5 {X : Cx} {pins : List (Addr × Obj)} {σ : L2.St} {H1 : Hp} {s1 : Shared} (I1 : Inv X pins σ H1 s1) : ∀ c, c ∈ [s1.heap.objs.size + 4, s1.heap.objs.size + 2, s1.heap.objs.size + 3, s1.heap.objs.size, s1.heap.objs.size + 1] → FpOk X pins H1 c := fun c hcm => by
  have e' : c = s1.heap.objs.size + 4 ∨ c = s1.heap.objs.size + 2 ∨ c = s1.heap.objs.size + 3 ∨ c = s1.heap.objs.size ∨ c = s1.heap.objs.size + 1 := by simpa using hcm
  have hle : s1.heap.objs.size ≤ c := by
    rcases e' with z | z | z | z | z
    · rw [z]; exact Nat.le_add_right _ _
    · rw [z]; exact Nat.le_add_right _ _
    · rw [z]; exact Nat.le_add_right _ _
    · rw [z]; exact Nat.le_refl _
    · rw [z]; exact Nat.le_add_right _ _
  exact I1.fpOk hle (I1.hok.fresh hle)
theorem callWith_typeK {M : Model} {A : Around} {E : Value → Shared → Prop} {s : Shared} {pos : Pos} {T : String} {args : List (Bool × Sem Value)} {keywords : List (Option Str × Sem Value)} {Q : Value → Shared → Prop}
    (hplain : args.any (·.1) = false) (hkw : keywords.any (·.1.isNone) = false) (h : wpAny M A (evalArgs (.type T) true args keywords) (fun a s₁ => wpAny M A (call (.type T) a.pos a.kw) Q E s₁) E s) :
    wpAny M A (callWith pos (.type T) [] args keywords) Q E s := by
  unfold callWith
  refine wpAny_bind (wpAny_holding (wpAny_mono h (fun a s₁ h₁ => wpAny_bind (wpAny_standAt ?_)) fun _ _ x => x))
  simp only [hplain, hkw, Bool.or_false]
  refine wpAny_bind (wpAny_pure ?_)
  exact wpAny_bind (wpAny_mono h₁ (fun r s₂ hr => wpAny_bind (wpAny_holding (wpAny_point (wpAny_pure hr)))) fun _ _ x => x)
section
variable {X : Cx} {W : WX} {e e2 : Expr} {fa fb : Ex} {p pos tpos p3 kp : Pos} {elts : List Expr} {kk j : Nat}
theorem iv_zipS (hg : Gl X "zip") (hm : X.mg "zip" = none) (ha : EV X W e fa) (hb : EV X W e2 fb) (hs2 : starEach [e2] X.env = [(false, eval e2 X.env)] := by rfl)
    (he1 : starEach [e, e2] X.env = (false, eval e X.env) :: starEach [e2] X.env := by rfl)
    (he : backTo pos (starEach [e, e2] X.env) = (false, eval e X.env) :: backTo pos (starEach [e2] X.env) := by rfl) (hpl : (backTo pos (starEach [e, e2] X.env)).any (·.1) = false := by rfl)
    (hall : (backToKw pos (keywordEach [⟨some "strict", .Constant (.bool true) j p3, kp⟩] X.env)).all (·.1.isSome) = true := by rfl) (hnone : (backToKw pos (keywordEach [⟨some "strict", .Constant (.bool true) j p3, kp⟩] X.env)).any (·.1.isNone) = false := by rfl)
    (hks : (backToKw pos (keywordEach [⟨some "strict", .Constant (.bool true) j p3, kp⟩] X.env)).filterMap (·.1) = [Str.ofString "strict"] := by rfl) :
    IV X W (.Tuple elts kk tpos) (.Call (.Name "zip" p) [e, e2] [⟨some "strict", .Constant (.bool true) j p3, kp⟩] pos) (iZipS fa fb) := by
  refine ⟨fun pins s σ H R I h => ?_⟩
  obtain ⟨B, m, ρ, S, r, re, f⟩ := h
  -- the two sources
  have hA : upA X.K X.mg W (evL [fa, fb]) σ H fun vs H1 => ∃ B m S ρ dx dy v1 v2, vs = [v1, v2] ∧ Rl X.K X.mg B m H1 S ∧ RepE X.K H1 (Fo B m S) m σ ρ ∧ Rep X.K H1 (Fo B m S) m v1 dx ∧ Rep X.K H1 (Fo B m S) m v2 dy ∧
      finI X.K X.mg W B m S σ H1 (match asSq dx, asSq dy with | some p, some q => if p.2.length = q.2.length then .ok (zipDs p.2 q.2) S else .bad | _, _ => .bad) R := by
    refine ⟨B, m, ρ, S, r, re, ?_⟩
    have f' : finI X.K X.mg W B m S σ H ((fa ρ S).bind fun x S => (fb ρ S).bind fun y S => match asSq x, asSq y with | some p, some q => if p.2.length = q.2.length then .ok (zipDs p.2 q.2) S else .bad | _, _ => .bad) R := f
    unfold evL evL evL
    cases e1 : fa ρ S with
    | bad => rw [e1] at f'; exact f'.elim
    | exc c p S1 => rw [e1] at f'; exact f'
    | ok dx S1 =>
      rw [e1] at f'
      simp only [DL.R.bind] at f' ⊢
      cases e2 : fb ρ S1 with
      | bad => rw [e2] at f'; exact f'.elim
      | exc c p S1 => rw [e2] at f'; exact f'
      | ok dy S2 =>
        rw [e2] at f'
        simp only [DL.R.bind] at f' ⊢
        intro m' H' vs po q
        cases q with
        | cons q1 qt =>
          cases qt with
          | cons q2 qn =>
            cases qn
            exact ⟨B, m', S2, ρ, dx, dy, _, _, rfl, po.rl, re.kp (po.kp r), q1, q2, finI.later po f'⟩
  have hpa : PA X [e, e2] (upA X.K X.mg W (evL [fa, fb])) := ea_cons ha (ea_cons hb ea_nil hs2) he1
  refine wpAny_Call_Name_kw (ld_blt I hg hm PyProof.Rows.boot_zip ?_)
  refine callWith_typeK hpl hnone ?_
  rw [he]
  refine evalArgs_kwB hall ?_
  rw [← he]
  refine thn (hpa.run pos pins s σ H _ I hA) fun us s1 ⟨vs, H1, I1, r1, q1⟩ => ?_
  refine kws_cons (Constant_bool (kws_nil ?_))
  rw [hks]
  obtain ⟨B, m, S, ρ, dx, dy, v1, v2, rfl, rl, re, rx, ry, fI⟩ := q1
  obtain ⟨u1, u2, rfl, ru1, ru2⟩ := vals2 r1
  cases e1 : asSq dx with
  | none => rw [e1] at fI; exact fI.elim
  | some p =>
    cases e2 : asSq dy with
    | none => rw [e1, e2] at fI; exact fI.elim
    | some q =>
      rw [e1, e2] at fI
      dsimp only at fI
      split at fI
      · rename_i hl
        obtain ⟨a, vs, rfl, qa, sa, ka⟩ := asSq_rep rx e1
        obtain ⟨b, ws, rfl, qb, sb, kb⟩ := asSq_rep ry e2
        cases ru1
        cases ru2
        obtain ⟨its, rv, p1⟩ := seqB I1 sa
        obtain ⟨its2, rv2, p2⟩ := seqB I1 sb
        refine call_zipS p1 p2 fun h' hz hTI hTO h1 h2 hsz hk => pyIter_zipS hz ?_
        have I2 : Inv X pins σ H1 { s1 with heap := h' } := I1.kept (t' := s1.toks) hk
        exact ⟨s1.heap.objs.size + 4, [s1.heap.objs.size + 4, s1.heap.objs.size + 2, s1.heap.objs.size + 3, s1.heap.objs.size, s1.heap.objs.size + 1], _, _, H1, rfl, I2, turn_zipS (PySem.W.ktu_apart s1.heap.objs.size a b p1.lt p2.lt), ⟨hz, hTI, ⟨_, _, hTO⟩, h1, h2⟩, fresh5 I1, fI m H1 _ (Post.refl rl) (itr_zipS qa qb ka kb hl)⟩
      · exact fI.elim
end
end DL
set_option Elab.async false
set_option linter.all false
set_option maxRecDepth 100000
set_option maxHeartbeats 4000000
namespace DL
open PySem PySem.Spec PyProof.Rows L2
section
variable {P : Program} {w : World} {K : PySem.W.Frag} {mg : Str → Option Value} {base : Heap}
/-- a def of the head's facts -/
theorem fn_denD {x qual : Str} {params : Arguments} {body : List Stmt} {scope : Scope} {dvs : List V} {kws : List (Str × V)} {f : Addr} {fd : FuncData} {N ps : List Str} {k : Nat} {b : Sx} (F : FunD K x qual params body scope dvs kws f fd) (sc : FnScope N ps scope)
    (h : ∀ (cdv : Value) (A : Around) (outer : List Env) (s : Shared) (H : Hp) (E : XK), DL.Room k (A.deeper (envOfC qual scope s.heap.objs.size f cdv)) →
      Takes (cxOf (L2.CX P w) P w K mg base N qual scope f cdv A outer s H E) (WB E) → PassesOwn (model P w) (A.deeper (envOfC qual scope s.heap.objs.size f cdv)) (envOfC qual scope s.heap.objs.size f cdv) (cxOf (L2.CX P w) P w K mg base N qual scope f cdv A outer s H E).xe →
      SVs (cxOf (L2.CX P w) P w K mg base N qual scope f cdv A outer s H E) (WB E) body b) : DL.FnOk P w K mg base (L2.CX P w) (k + 1) f fd ps (spD K mg ps.length (fnB N.length b)) := by
  refine funD_ok F sc (fun vs H Q E h => ?_) (fun cdv A outer s H vs Q E hr hs => ?_)
  · obtain ⟨_, _, _, _, _, _, e, _⟩ := h
    exact e
  · obtain ⟨B, m, S, ds, r, q, e, g⟩ := hs
    refine ⟨_, h cdv A outer s H E hr (takes_of rfl rfl rfl rfl) (passes_of rfl), B, m, _, S, r, repE_start q, ?_⟩
    unfold fnB at g
    show finS K mg (WB E) B m S H (b (ds.map some ++ List.replicate (N.length - ds.length) none) S) _
    cases e1 : b (ds.map some ++ List.replicate (N.length - ds.length) none) S with
    | bad => rw [e1] at g; exact g.elim
    | exc c p ρ' S' => rw [e1] at g; exact fun m' H' σ' cls dd po re x => g m' H' cls dd po x
    | fl fl S' =>
      rw [e1] at g
      cases fl with
      | nx ρ' => exact fun m' H' σ' po re => g m' H' .non po .non
      | rt d => exact fun m' H' v po rv => g m' H' v po rv
      | bk _ => exact g.elim
      | ct _ => exact g.elim
theorem fn_P {k n : Nat} {f : Addr} {fd : FuncData} {ps : List Str} {F : Fn} (h : DL.FnOk P w K mg base (L2.CX P w) k f fd ps (spD K mg n F)) : DL.FnOk P w K mg base (L2.CX P w) k f fd ps (spD K mg n (fnP F)) := h.imp spP_of
end
def frz (S : Sto) : D → D
  | .ref n => match S[n]? with
    | some (some (.lst xs)) => .lst xs
    | _ => .ref n
  | d => d
section
variable {K : PySem.W.Frag} {mg : Str → Option Value} {H : Hp} {Fb Fb' : Addr → Prop} {m m' : List Addr}
theorem Rep.frz {B : Addr → Prop} {S : Sto} {v : V} {d : D} (r : Rl K mg B m H S) (h : Rep K H (Fo B m S) m v d) (e : DL.noRef (DL.frz S d) = true) : Rep K H (fun _ => False) [] v (DL.frz S d) := by
  cases d with
  | ref n =>
    cases h with
    | ref hn =>
      unfold DL.frz at e ⊢
      dsimp only at e ⊢
      cases hx : S[n]? with
      | none => rw [hx] at e; simp [DL.noRef] at e
      | some o =>
        cases o with
        | none => rw [hx] at e; simp [DL.noRef] at e
        | some o =>
          cases o with
          | lst xs =>
            rw [hx] at e
            cases r.obj _ _ _ hn hx with
            | lst h z q => exact .lst h (fun f => f) z (q.noRef (fun _ f => f.elim) (by simpa [DL.noRef] using e))
          | dic t kvs => rw [hx] at e; simp [DL.noRef] at e
          | ins c fs => rw [hx] at e; simp [DL.noRef] at e
  | _ => exact Rep.noRef (fun _ f => f.elim) h e
theorem RepA.frz {B : Addr → Prop} {S : Sto} (r : Rl K mg B m H S) : ∀ {vs : List V} {ds : List D}, RepA K H (Fo B m S) m vs ds → noRefs (ds.map (DL.frz S)) = true → RepA K H (fun _ => False) [] vs (ds.map (DL.frz S))
  | _, _, .nil, _ => .nil
  | _, _, .cons h q, e => .cons (Rep.frz r h (by simp [noRefs] at e; exact e.1)) (RepA.frz r q (by simp [noRefs] at e; simpa using e.2))
end
def iZip2 (a b : Ex) : Ix := fun ρ S => (a ρ S).bind fun x S => (b ρ S).bind fun y S => match x, y with
  | .lst xs, .lst ys => .ok (zipDs xs ys) S
  | .tup xs, .tup ys => .ok (zipDs xs ys) S
  | _, _ => .bad
theorem cx_none {P : Program} {w : World} : ∀ (H : Hp) (s : Shared) (e : Value) (s' : Shared), L2.CX P w [] H s (fun _ _ _ => False) e s' → False := fun _ _ _ _ h => by
  obtain ⟨_, _, _, _, _, _, _, _, _, _, _, _, z⟩ := h
  exact z.elim
theorem sp_law {K : PySem.W.Frag} {mg : Str → Option Value} {F : Fn} (h : ∀ ns : List Int, ns.length ≤ 63 → ∃ S, F [.scr ns] [] = .ok (.bl true) S) (H : Hp) (a : Addr) (ns : List Int) (hl : ns.length ≤ 63) (_ : Only H) (hS : SqL K H a (ns.map V.int)) : spD K mg 1 F [.ref a] H (fun v _ => v = .bl true) fun _ _ _ => False := by
  obtain ⟨S, e⟩ := h ns hl
  have e0 : ∀ a, Fo (fun _ => False) [] [] a → False := fun a z => z.elim id fun ⟨n, o, e1, e2⟩ => by simp at e1
  refine ⟨fun _ => False, [], [], [.scr ns], ⟨rfl, List.nodup_nil, fun a ⟨n, o, e1, e2⟩ => by simp at e1, fun a z => z.elim, fun a z => by simp at z, fun n a o e1 e2 => by simp at e1⟩, .cons (.scr ?_ (Nat.le_trans hl (by decide))) .nil, rfl, ?_⟩
  · rcases hS with h | h
    · exact .inl ⟨h, e0 a⟩
    · exact .inr h
  · rw [e]
    intro m' H' v p rv
    cases rv
    rfl
def HasFd (K : PySem.W.Frag) (a : Addr) (fd : FuncData) : Prop := ∃ oc od osl, K.lookup a = some ⟨oc, od, .func fd, osl⟩
def OkF (P : Program) (w : World) (K : PySem.W.Frag) (mg : Str → Option Value) (base : Heap) (x : Str) (ps : List Str) (k : Nat) (F : Fn) : Prop :=
  ∃ fd, HasFd K (He.ga K x) fd ∧ DL.FnOk P w K mg base (L2.CX P w) k (He.ga K x) fd ps (spD K mg ps.length F) ∧ Binds K fd ps [] ∧ mg x = some (.ref (He.ga K x)) ∧ PySem.W.keepIn K (.ref (He.ga K x)) = true
section
variable {P : Program} {w : World} {K : PySem.W.Frag} {mg : Str → Option Value} {base : Heap} {x name qual : Str} {params : Arguments} {body : List Stmt} {scope : Scope} {f : Addr} {N ps : List Str} {k : Nat} {b : Sx} {F : Fn}
theorem OkF.at_ {dvs : List V} {kws : List (Str × V)} {fd : FuncData} (h : OkF P w K mg base x ps k F) (g : FunD K name qual params body scope dvs kws (He.ga K x) fd) : DL.FnOk P w K mg base (L2.CX P w) k (He.ga K x) fd ps (spD K mg ps.length F) := by
  obtain ⟨fd2, ⟨oc, od, osl, e⟩, h, _⟩ := h
  obtain ⟨oc2, od2, dV, kV, doc, pm, an, cdv, ct, osl2, rfl, lk, hcd, _, _⟩ := g.ex
  rw [e] at lk
  cases lk
  exact h
theorem okF_mk (h : ∃ fd, FunD K name qual params body scope [] [] (He.fAd K (x, none)) fd) (hm : mg x = some (.ref (He.ga K x)))
    (hbind : ∀ (kV doc pm : Value) (an : Option Addr) (cdv ct : Value) (us : List Value), us.length = ps.length → bindArgs (PySem.W.fnOf name qual params body scope .none kV doc pm an cdv ct) ⟨us, []⟩ = pure (ps.zip us))
    (hF : ∀ fd, FunD K name qual params body scope [] [] (He.ga K x) fd → DL.FnOk P w K mg base (L2.CX P w) k (He.ga K x) fd ps (spD K mg ps.length F)) : OkF P w K mg base x ps k F := by
  obtain ⟨fd, g⟩ := h
  refine ⟨fd, ?_, hF fd g, g.bindsN hbind, hm, g.kp⟩
  obtain ⟨oc, od, dV, kV, doc, pm, an, cdv, ct, osl, rfl, lk, hcd, _, _⟩ := g.ex
  exact ⟨_, _, _, lk⟩
abbrev BodyOk (P : Program) (w : World) (K : PySem.W.Frag) (mg : Str → Option Value) (base : Heap) (x qual : Str) (body : List Stmt) (scope : Scope) (N : List Str) (k : Nat) (b : Sx) : Prop :=
  ∀ (cdv : Value) (A : Around) (outer : List Env) (s : Shared) (H : Hp) (E : XK), DL.Room k (A.deeper (envOfC qual scope s.heap.objs.size (He.ga K x) cdv)) →
      Takes (cxOf (L2.CX P w) P w K mg base N qual scope (He.ga K x) cdv A outer s H E) (WB E) → PassesOwn (model P w) (A.deeper (envOfC qual scope s.heap.objs.size (He.ga K x) cdv)) (envOfC qual scope s.heap.objs.size (He.ga K x) cdv) (cxOf (L2.CX P w) P w K mg base N qual scope (He.ga K x) cdv A outer s H E).xe →
      SVs (cxOf (L2.CX P w) P w K mg base N qual scope (He.ga K x) cdv A outer s H E) (WB E) body b
theorem okF_N (h : ∃ fd, FunD K name qual params body scope [] [] (He.fAd K (x, none)) fd) (hm : mg x = some (.ref (He.ga K x))) (sc : FnScope N ps scope)
    (hbind : ∀ (kV doc pm : Value) (an : Option Addr) (cdv ct : Value) (us : List Value), us.length = ps.length → bindArgs (PySem.W.fnOf name qual params body scope .none kV doc pm an cdv ct) ⟨us, []⟩ = pure (ps.zip us))
    (hb : BodyOk P w K mg base x qual body scope N k b) : OkF P w K mg base x ps (k + 1) (fnB N.length b) :=
  okF_mk h hm hbind fun fd g => fn_denD g sc hb
theorem okF_P (h : ∃ fd, FunD K name qual params body scope [] [] (He.fAd K (x, none)) fd) (hm : mg x = some (.ref (He.ga K x))) (sc : FnScope N ps scope)
    (hbind : ∀ (kV doc pm : Value) (an : Option Addr) (cdv ct : Value) (us : List Value), us.length = ps.length → bindArgs (PySem.W.fnOf name qual params body scope .none kV doc pm an cdv ct) ⟨us, []⟩ = pure (ps.zip us))
    (hb : BodyOk P w K mg base x qual body scope N k b) : OkF P w K mg base x ps (k + 1) (fnP (fnB N.length b)) :=
  okF_mk h hm hbind fun fd g => fn_P (fn_denD g sc hb)
end
section
variable {X : Cx} {W : WX} {x : Str} {ps : List Str} {k j : Nat} {F : Fn} {p pos : Pos} {e : Expr} {es : List Expr} {fs : List Ex}
theorem ev_fnO (O : OkF X.prog X.w X.K X.mg X.base x ps k F) (hr : DL.Room j X.A) (hg : Gl X x) (tk : Takes X W) (ha : EVA X W (e :: es) fs) (hj : k ≤ j := by omega) (hn : fs.length = ps.length := by rfl) (hdb : (x == ("__debug__" : Str)) = false := by decide) (he : starEach (e :: es) X.env = (false, eval e X.env) :: starEach es X.env := by rfl) (hpl : (backTo pos (starEach es X.env)).any (·.1) = false := by rfl) :
    EV X W (.Call (.Name x p) (e :: es) [] pos) (eFn F fs) := by
  obtain ⟨fd, _, FO, hb, hm, hk⟩ := O
  exact ev_fn FO (hr.mono hj) hg hm hk hb tk ha hn hdb he hpl
end
def igAdd : D → D → Option D
  | .int i, .int j => some (.int (i + j))
  | _, _ => none
def igMul : D → D → Option D
  | .int i, .int j => if (-(2 ^ 64) < i ∧ i < 2 ^ 64) ∨ (-(2 ^ 64) < j ∧ j < 2 ^ 64) then some (.int (i * j)) else none
  | _, _ => none
section
variable {X : Cx}
theorem ig_addN : OpR X (inplaceOp .Add) (rG2 X.K igAdd) := og_int iop_add fun dx dy d e => by
  unfold igAdd at e
  split at e
  · rename_i i j; cases e; exact ⟨i, j, _, rfl, rfl, rfl, fun H Q k => ⟨i, j, rfl, rfl, k _ fun _ _ _ => .int _⟩⟩
  · cases e
theorem ig_mulN : OpR X (inplaceOp .Mult) (rG2 X.K igMul) := og_int iop_mul fun dx dy d e => by
  unfold igMul at e
  split at e
  · rename_i i j
    split at e
    · rename_i hj
      cases e
      exact ⟨i, j, _, rfl, rfl, rfl, fun H Q k => ⟨i, j, rfl, rfl, hj, k _ fun _ _ _ => .int _⟩⟩
    · cases e
  · cases e
end
def sFrz (i : Nat) (s : Sx) : Sx := fun ρ S => match ρ[i]? with
  | some (some (.ref n)) => match S[n]? with
    | some (some (.lst xs)) => s (ρ.set i (some (.lst xs))) (S.set n none)
    | some (some (.dic false kvs)) => s (ρ.set i (some (.dic false kvs))) (S.set n none)
    | _ => .bad
  | _ => .bad
section
variable {K : PySem.W.Frag} {mg : Str → Option Value} {B : Addr → Prop} {m m' : List Addr} {S S' : Sto} {H H' : Hp} {n : Nat}
theorem liv_kill {a : Addr} (h : Liv m (S.set n none) a) : Liv m S a ∧ m[n]? ≠ some a ∨ (Liv m S a ∧ ∃ k, k ≠ n ∧ m[k]? = some a) := by
  obtain ⟨k, o, e1, e2⟩ := h
  by_cases hk : k = n
  · subst hk
    rw [List.getElem?_set] at e2
    simp at e2
  · rw [List.getElem?_set_ne (fun e => hk e.symm)] at e2
    exact .inr ⟨⟨k, o, e1, e2⟩, k, hk, e1⟩
theorem liv_kill' {a : Addr} (h : Liv m (S.set n none) a) : Liv m S a := (liv_kill h).elim (·.1) (·.1)
theorem Rl.kill (r : Rl K mg B m H S) : Rl K mg B m H (S.set n none) := by
  have kp : Kp H H (Fo B m S) (Fo B m (S.set n none)) m m := kp_anti fun a z => z.imp id liv_kill'
  refine ⟨by simp [r.len], r.nod, fun a l z => r.nb a (liv_kill' l) z, r.bt, r.mt, fun k a u e1 e2 => ?_⟩
  by_cases hk : k = n
  · subst hk
    rw [List.getElem?_set] at e2
    simp at e2
  · rw [List.getElem?_set_ne (fun e => hk e.symm)] at e2
    cases r.obj k a u e1 e2 with
    | lst h z q => exact .lst h z (q.kp kp)
    | dK h z e q => exact .dK h z e (q.kp kp)
    | dT h z e q => exact .dT h z e (q.kp kp)
    | ins g h e q => exact .ins g h e (q.kp kp)
theorem Post.unkill (p : Post K mg B m (S.set n none) H m' S' H') : Post K mg B m S H m' S' H' :=
  ⟨p.ext, fun a o h hl => p.keep a o h fun z => hl (liv_kill' z), p.smm, p.rl, fun a h => (p.liv a h).imp liv_kill' id⟩
end
section
variable {X : Cx} {W : WX} {st : Stmt} {s : Sx} {i : Nat}
/-- a dict locked for ever: nobody of ours writes it any more -/
theorem ps_lockF {st : Stmt} {t : TS} (h : PS X st t) : PS X st (fun E σ H => t E σ H ∨ ∃ d u, H d = some u ∧ Mut (some u) ∧ ∀ od, t E σ (L2.upd H d (.frz od u))) :=
  ⟨fun pins s σ H E I q => q.elim (fun q => h.run pins s σ H E I q) fun ⟨d, u, e, mu, q⟩ => let ⟨od, I'⟩ := I.lock e mu; h.run pins s σ _ E I' (q od)⟩
theorem Rl.lockD {K : PySem.W.Frag} {mg : Str → Option Value} {B : Addr → Prop} {m : List Addr} {S : Sto} {H : Hp} {n : Nat} {a : Addr} {o : Ob} {u : HO} (r : Rl K mg B m H S) (ha : m[n]? = some a) (ex : S[n]? = some (some o)) :
    Rl K mg B m (L2.upd H a u) (S.set n none) ∧ Kp H (L2.upd H a u) (Fo B m S) (Fo B m (S.set n none)) m m ∧ ∀ m' S' H', Post K mg B m (S.set n none) (L2.upd H a u) m' S' H' → Post K mg B m S H m' S' H' := by
  have hl : Liv m S a := ⟨n, o, ha, ex⟩
  have na : ∀ b, ¬ Fo B m S b → b ≠ a := fun b f e => f (.inr (e ▸ hl))
  have nk : ¬ Liv m (S.set n none) a := by
    rintro l
    rcases liv_kill l with ⟨_, z⟩ | ⟨_, k, hk, hk2⟩
    · exact z ha
    · obtain ⟨l1, g1⟩ := List.getElem?_eq_some_iff.mp hk2
      obtain ⟨l2, g2⟩ := List.getElem?_eq_some_iff.mp ha
      exact hk ((List.getElem_inj r.nod).mp (g1.trans g2.symm))
  have kp : Kp H (L2.upd H a u) (Fo B m S) (Fo B m (S.set n none)) m m := by
    refine ⟨fun b xs h f => by rw [upd_ne (na b f)]; exact h, fun b u' h f => by unfold Rd; rw [upd_ne (na b f)]; exact h, fun b o' f h => ?_, fun b u' h f z => f (z.imp id liv_kill'), fun _ _ h => h⟩
    have : b ≠ a := by
      rintro rfl
      exact (r.obj n _ _ ha ex).not_fix f h
    rw [upd_ne this]; exact h
  have sm : ∀ b, H b ≠ none → L2.upd H a u b ≠ none := fun b h => by
    by_cases e : b = a
    · subst e; rw [upd_same]; simp
    · rw [upd_ne e]; exact h
  refine ⟨⟨by simp [r.len], r.nod, fun b l z => r.nb b (liv_kill' l) z, fun b z => sm b (r.bt b z), fun b z => sm b (r.mt b z), fun k b o' e1 e2 => ?_⟩, kp, fun m' S' H' p => ?_⟩
  · have hb : b ≠ a := fun e => nk ⟨k, o', e ▸ e1, e2⟩
    have hk : k ≠ n := by
      rintro rfl
      rw [List.getElem?_set] at e2
      simp at e2
    rw [List.getElem?_set_ne (Ne.symm hk)] at e2
    cases r.obj k b o' e1 e2 with
    | lst h z q => exact .lst (by rw [upd_ne hb]; exact h) z (q.kp kp)
    | dK h z e q => exact .dK (by rw [upd_ne hb]; exact h) z e (q.kp kp)
    | dT h z e q => exact .dT (by rw [upd_ne hb]; exact h) z e (q.kp kp)
    | ins g h e q => exact .ins g (by rw [upd_ne hb]; exact h) e (q.kp kp)
  · refine ⟨?_, fun b o' h hl' => ?_, fun b h => p.smm b (sm b h), p.rl, fun b h => ?_⟩
    · obtain ⟨l, e, g⟩ := p.ext
      refine ⟨l, e, fun b hb => ?_⟩
      have := g b hb
      by_cases e : b = a
      · subst e; rw [upd_same] at this; cases this
      · rw [upd_ne e] at this; exact this
    · have hb : b ≠ a := fun e => hl' (e ▸ hl)
      exact p.keep b o' (by rw [upd_ne hb]; exact h) fun z => hl' (liv_kill' z)
    · rcases p.liv b h with z | z
      · exact .inl (liv_kill' z)
      · by_cases e : b = a
        · subst e; rw [upd_same] at z; cases z
        · rw [upd_ne e] at z; exact .inr z
theorem sv_frz (h : SV X W st s) : SV X W st (sFrz i s) := by
  refine ps_imp (ps_lockF h) fun E σ H h => ?_
  obtain ⟨B, m, ρ, S, r, re, f⟩ := h
  unfold sFrz at f
  split at f
  · rename_i n en
    split at f
    · rename_i xs ex
      have kp : Kp H H (Fo B m S) (Fo B m (S.set n none)) m m := kp_anti fun a z => z.imp id liv_kill'
      obtain ⟨v, ev, rv⟩ := re.2 i _ en
      cases rv with
      | ref ha =>
        rename_i a
        cases r.obj _ _ _ ha ex with
        | lst h z q =>
          have nf : ¬ Fo B m (S.set n none) a := by
            rintro (b | l)
            · exact r.nb a ⟨n, _, ha, ex⟩ b
            · rcases liv_kill l with ⟨_, z⟩ | ⟨_, k, hk, hk2⟩
              · exact z ha
              · obtain ⟨l1, g1⟩ := List.getElem?_eq_some_iff.mp hk2
                obtain ⟨l2, g2⟩ := List.getElem?_eq_some_iff.mp ha
                exact hk ((List.getElem_inj r.nod).mp (g1.trans g2.symm))
          refine .inl ⟨B, m, ρ.set i (some (.lst xs)), S.set n none, r.kill, ⟨by simp [re.1], fun j d e => ?_⟩, ?_⟩
          · by_cases hj : i = j
            · subst hj
              rw [List.getElem?_set] at e
              have hi : i < ρ.length := (List.getElem?_eq_some_iff.mp en).1
              simp [hi] at e
              subst e
              exact ⟨_, ev, .lst h nf z (q.kp kp)⟩
            · rw [List.getElem?_set_ne hj] at e
              obtain ⟨w, ew, rw'⟩ := re.2 j d e
              exact ⟨w, ew, rw'.kp kp⟩
          · generalize hr : s (ρ.set i (some (.lst xs))) (S.set n none) = r2 at f
            cases r2 with
            | bad => exact f.elim
            | exc c p ρ' S' => exact fun m' H' σ' cls dd po => f m' H' σ' cls dd po.unkill
            | fl fl S' =>
              cases fl with
              | nx ρ' => exact fun m' H' σ' po => f m' H' σ' po.unkill
              | bk ρ' => exact fun m' H' σ' po => f m' H' σ' po.unkill
              | ct ρ' => exact fun m' H' σ' po => f m' H' σ' po.unkill
              | rt d => exact fun m' H' v po => f m' H' v po.unkill
    · rename_i kvs ex
      obtain ⟨v, ev, rv⟩ := re.2 i _ en
      cases rv with
      | ref ha =>
        rename_i a
        cases r.obj _ _ _ ha ex with
        | @dK kv _ h z e q =>
          refine .inr ⟨a, .dK kv, h, trivial, fun od => ?_⟩
          obtain ⟨r', kp, un⟩ := r.lockD (u := .frz od (.dK kv)) ha ex
          refine ⟨B, m, ρ.set i (some (.dic false kvs)), S.set n none, r', ⟨by simp [re.1], fun j d e' => ?_⟩, ?_⟩
          · by_cases hj : i = j
            · subst hj
              rw [List.getElem?_set] at e'
              have hi : i < ρ.length := (List.getElem?_eq_some_iff.mp en).1
              simp [hi] at e'
              subst e'
              exact ⟨_, ev, .dK ⟨od, upd_same⟩ z e (q.kp kp)⟩
            · rw [List.getElem?_set_ne hj] at e'
              obtain ⟨w, ew, rw'⟩ := re.2 j d e'
              exact ⟨w, ew, rw'.kp kp⟩
          · generalize hr : s (ρ.set i (some (.dic false kvs))) (S.set n none) = r2 at f
            cases r2 with
            | bad => exact f.elim
            | exc c p ρ' S' => exact fun m' H' σ' cls dd po => f m' H' σ' cls dd (un _ _ _ po)
            | fl fl S' =>
              cases fl with
              | nx ρ' => exact fun m' H' σ' po => f m' H' σ' (un _ _ _ po)
              | bk ρ' => exact fun m' H' σ' po => f m' H' σ' (un _ _ _ po)
              | ct ρ' => exact fun m' H' σ' po => f m' H' σ' (un _ _ _ po)
              | rt d => exact fun m' H' v po => f m' H' v (un _ _ _ po)
    · exact f.elim
  · exact f.elim
end
end DL
set_option Elab.async false
set_option linter.all false
set_option maxRecDepth 100000
set_option maxHeartbeats 4000000
namespace DL
open PySem PySem.Spec PyProof.Rows
theorem view_at {S : Sto} {n : Nat} {xs : List D} (h : S[n]? = some (some (.lst xs))) : view S (.ref n) = .lst xs := by simp only [view, h]
theorem lst_at {S : Sto} {n : Nat} {xs : List D} (h : S[n]? = some (some (.lst xs))) : lstOf S (.ref n) = some (n, xs) := by simp only [lstOf, h]
theorem lst_app {S : Sto} {xs : List D} : lstOf (S ++ [some (.lst xs)]) (.ref S.length) = some (S.length, xs) := lst_at (by simp)
theorem mulB {a b A B : Int} (h1 : 0 ≤ a) (h2 : a ≤ A) (h3 : 0 ≤ b) (h4 : b ≤ B) : 0 ≤ a * b ∧ a * b ≤ A * B :=
  ⟨Int.mul_nonneg h1 h3, Int.mul_le_mul h2 h4 h3 (Int.le_trans h1 h2)⟩
theorem atI_in {α : Type} {xs : List α} {i : Int} (h : 0 ≤ i) (h2 : i < xs.length) : L2.atI xs i = some (xs[i.toNat]'(by omega)) := by
  unfold L2.atI L2.ixN
  rw [if_pos h, if_pos h2]
  exact List.getElem?_eq_getElem (by omega)
theorem ixN_in {n : Nat} {i : Int} (h : 0 ≤ i) (h2 : i < n) : L2.ixN n i = some i.toNat := by
  unfold L2.ixN
  rw [if_pos h, if_pos h2]
/-- the jar at n -/
def Jar (S : Sto) (n : Nat) (cells : List Int) (t r : Int) : Prop := S[n]? = some (some (.lst [.lst (cells.map .int), .int t, .int r]))
theorem modR (a p : Int) (h : 2147483423 ≤ p ∧ p ≤ 2147483647) : 0 ≤ a % p ∧ a % p ≤ 2147483647 := by
  have b := Int.emod_nonneg a (by omega : p ≠ 0)
  have d := Int.emod_lt_of_pos a (by omega : 0 < p)
  omega
theorem mulD_l {i j : Int} (h : -18446744073709551616 < i) (h2 : i < 18446744073709551616) : mulD (.int i) (.int j) = some (.int (i * j)) := by
  unfold mulD
  exact if_pos (.inl ⟨h, h2⟩)
theorem mulD_r {i j : Int} (h : -18446744073709551616 < j) (h2 : j < 18446744073709551616) : mulD (.int i) (.int j) = some (.int (i * j)) := by
  unfold mulD
  exact if_pos (.inr ⟨h, h2⟩)
theorem mulD_t {xs : List D} {j : Int} (h : j ≤ 1000000) (h1 : -1000000 ≤ j) (h2 : xs.length * j.toNat ≤ 16777216) : mulD (.tup xs) (.int j) = some (.tup (List.replicate j.toNat xs).flatten) := by
  unfold mulD
  exact if_pos ⟨h, h1, by rw [PySem.sizeLine_eq]; exact h2⟩
theorem powD_k {i j : Int} (h : 0 ≤ j) (h1 : j ≤ 1000000) (h2 : i.natAbs < 18446744073709551616) : powD (.int i) (.int j) = some (.int (i ^ j.toNat)) := by
  unfold powD
  exact if_pos ⟨h, h1, h2⟩
theorem pow1018 : powD (.int 10) (.int 18) = some (.int 1000000000000000000) := by
  rw [powD_k (by decide) (by decide) (by decide)]
  rfl
theorem eqD_int (a b : Int) : eqD (.int a) (.int b) = some (.bl (decide (a = b))) := by
  by_cases h : a = b
  · subst h
    simp [eqD, eqB, eqS, toP, SeqAt.shaped, PyData.eqv, PyData.canLay0, PyData.depth]
  · simp [eqD, eqB, eqS, toP, SeqAt.shaped, PyData.eqv, PyData.canLay0, PyData.depth, h]
theorem eqD_bl (a b : Bool) : eqD (.bl a) (.bl b) = some (.bl (a == b)) := by
  cases a <;> cases b <;> simp [eqD, eqB, eqS, toP, SeqAt.shaped, PyData.eqv, PyData.canLay0, PyData.depth]
theorem neD_bl (a b : Bool) : neD (.bl a) (.bl b) = some (.bl (!(a == b))) := by
  cases a <;> cases b <;> simp [neD, eqB, eqS, toP, SeqAt.shaped, PyData.eqv, PyData.canLay0, PyData.depth]
theorem neD_int (a b : Int) : neD (.int a) (.int b) = some (.bl (!decide (a = b))) := by
  by_cases h : a = b
  · subst h
    simp [neD, eqB, eqS, toP, SeqAt.shaped, PyData.eqv, PyData.canLay0, PyData.depth]
  · simp [neD, eqB, eqS, toP, SeqAt.shaped, PyData.eqv, PyData.canLay0, PyData.depth, h]
theorem iRng_nat (n : Nat) : iRng 0 (n : Int) = (List.range n).map fun k => .int (k : Nat) := by
  unfold iRng
  simp
theorem toPs_map {α : Type} (f : α → D) (g : α → PyData) (h : ∀ x, toP (f x) = some (g x)) : ∀ xs : List α, toPs (xs.map f) = some (xs.map g)
  | [] => rfl
  | x :: xs => by simp [toPs, h x, toPs_map f g h xs]
theorem lay_map {α : Type} (g : α → PyData) (h : ∀ x, (g x).canLay0 = true) : ∀ xs : List α, PyData.canLayAll0 (xs.map g) = true
  | [] => by simp [PyData.canLayAll0]
  | x :: xs => by simp [PyData.canLayAll0, h x, lay_map g h xs]
theorem dep_map {α : Type} (g : α → PyData) (n : Nat) (h : ∀ x, (g x).depth ≤ n) : ∀ xs : List α, PyData.depthAll (xs.map g) ≤ n
  | [] => by simp [PyData.depthAll]
  | x :: xs => by
    have h1 := h x
    have h2 := dep_map g n h xs
    simp only [List.map_cons, PyData.depthAll]
    omega
end DL
set_option Elab.async false
set_option linter.all false
set_option maxRecDepth 100000
set_option maxHeartbeats 4000000
namespace DL
open PySem PySem.Spec PyProof.Rows L2
def frzR (S : Sto) (n : Nat) : D := match S[n]? with
  | some (some (.lst xs)) => .lst xs
  | _ => .ref n
mutual
def frzD (S : Sto) : D → D
  | .ref n => frzR S n
  | .tup xs => .tup (frzDs S xs)
  | .lst xs => .lst (frzDs S xs)
  | .non => .non
  | .bl b => .bl b
  | .int i => .int i
  | .str x => .str x
  | .dic t kvs => .dic t kvs
  | .raw v => .raw v
  | .scr ns => .scr ns
  | .exn c p => .exn c p
def frzDs (S : Sto) : List D → List D
  | [] => []
  | d :: ds => frzD S d :: frzDs S ds
end
section
variable {K : PySem.W.Frag} {mg : Str → Option Value} {H : Hp} {m : List Addr} {B : Addr → Prop} {S : Sto}
theorem Rep.frzR {n : Nat} {v : V} (r : Rl K mg B m H S) (h : Rep K H (Fo B m S) m v (.ref n)) (e : DL.noRef (DL.frzR S n) = true) : Rep K H (fun _ => False) [] v (DL.frzR S n) := by
  cases h with
  | ref hn =>
    unfold DL.frzR at e ⊢
    cases hx : S[n]? with
    | none => rw [hx] at e; simp [DL.noRef] at e
    | some o =>
      cases o with
      | none => rw [hx] at e; simp [DL.noRef] at e
      | some o =>
        cases o with
        | lst xs =>
          rw [hx] at e
          cases r.obj _ _ _ hn hx with
          | lst h z q => exact .lst h (fun f => f) z (q.noRef (fun _ f => f.elim) (by simpa [DL.noRef] using e))
        | dic t kvs => rw [hx] at e; simp [DL.noRef] at e
        | ins c fs => rw [hx] at e; simp [DL.noRef] at e
mutual
theorem Rep.frzD (r : Rl K mg B m H S) : ∀ {d : D} {v : V}, Rep K H (Fo B m S) m v d → DL.noRef (DL.frzD S d) = true → Rep K H (fun _ => False) [] v (DL.frzD S d)
  | .ref n, v, h, e => by
    simp only [DL.frzD] at e ⊢
    exact h.frzR r e
  | .tup xs, v, h, e => by
    cases h with
    | tup h z q =>
      simp only [DL.frzD, DL.noRef] at e ⊢
      exact .tup h z (RepA.frzD r q e)
  | .lst xs, v, h, e => by
    cases h with
    | lst h f z q =>
      simp only [DL.frzD, DL.noRef] at e ⊢
      exact .lst h (fun f => f) z (RepA.frzD r q e)
  | .non, v, h, e => by simp only [DL.frzD] at e ⊢; exact Rep.noRef (fun _ f => f.elim) h e
  | .bl b, v, h, e => by simp only [DL.frzD] at e ⊢; exact Rep.noRef (fun _ f => f.elim) h e
  | .int i, v, h, e => by simp only [DL.frzD] at e ⊢; exact Rep.noRef (fun _ f => f.elim) h e
  | .str x, v, h, e => by simp only [DL.frzD] at e ⊢; exact Rep.noRef (fun _ f => f.elim) h e
  | .dic t kvs, v, h, e => by simp only [DL.frzD] at e ⊢; exact Rep.noRef (fun _ f => f.elim) h e
  | .raw w, v, h, e => by simp only [DL.frzD] at e ⊢; exact Rep.noRef (fun _ f => f.elim) h e
  | .scr ns, v, h, e => by simp only [DL.frzD] at e ⊢; exact Rep.noRef (fun _ f => f.elim) h e
  | .exn c p, v, h, e => by simp only [DL.frzD] at e ⊢; exact Rep.noRef (fun _ f => f.elim) h e
theorem RepA.frzD (r : Rl K mg B m H S) : ∀ {ds : List D} {vs : List V}, RepA K H (Fo B m S) m vs ds → noRefs (frzDs S ds) = true → RepA K H (fun _ => False) [] vs (frzDs S ds)
  | [], _, .nil, _ => .nil
  | d :: ds, _, .cons h q, e => by
    simp only [frzDs, noRefs, Bool.and_eq_true] at e ⊢
    exact .cons (Rep.frzD r h e.1) (RepA.frzD r q e.2)
end
end
end DL
set_option Elab.async false
set_option linter.all false
set_option maxRecDepth 100000
set_option maxHeartbeats 4000000
namespace DL
open PySem PySem.Spec PyProof.Rows L2
def showsD (p : PyData) : Bool := p.showable && decide (p.depth ≤ 40) && decide (p.shown.length ≤ 16000000)
def reprD (d : D) : Option D := (toP d).bind fun p => if showsD p = true then some (.str p.shown) else none
def eRepr (f : Ex) : Ex := fun ρ S => (f ρ S).bind fun d S => ans S (reprD (frzD S d))
end DL
set_option Elab.async false
set_option linter.all false
set_option maxRecDepth 100000
set_option maxHeartbeats 4000000
namespace DL
open PySem PySem.Spec PyProof.Rows L2
def rgN (i j c : Int) : Nat := (Builtin.Range.rangeSize i j c).toNat
def iRng3 (i j c : Int) : List D := (List.range (rgN i j c)).map fun k => .int (i + (k : Nat) * c)
def iRng3X (a b c : Ex) : Ix := fun ρ S => (evL [a, b, c] ρ S).bind fun ds S => match ds with
  | [.int i, .int j, .int k] => if k ≠ 0 ∧ k.natAbs < 1073741824 ∧ Builtin.Range.small i j k = true then .ok (iRng3 i j k) S else .bad
  | _ => .bad
section
variable {X : Cx} {W : WX} {tg e e2 e3 : Expr} {fa fb fc : Ex} {p pos : Pos}
theorem itr_rngC {K : PySem.W.Frag} {Fb : Addr → Prop} {m : List Addr} {H : Hp} {a b c : Int} : ItR K H Fb m (Itc a c (rgN a b c)) (iRng3 a b c) := by
  intro H2 F2 m2 p
  refine ⟨fun i hi => ⟨?_, fun x H3 y => ?_⟩, fun i hi => ?_⟩
  · show i < rgN a b c
    simpa [iRng3] using hi
  · obtain ⟨e, y⟩ := y
    subst e y
    have hi' : i < rgN a b c := by simpa [iRng3] using hi
    exact ⟨.int (a + (i : Nat) * c), by simp only [iRng3, List.getElem?_map, List.getElem?_range hi', Option.map_some], Same.refl _, .int _⟩
  · show rgN a b c ≤ i
    simpa [iRng3] using hi
theorem iv_rng3 (hg : Gl X "range") (hm : X.mg "range" = none) (ha : EV X W e fa) (hb : EV X W e2 fb) (hc : EV X W e3 fc) (hs : starEach [e, e2, e3] X.env = (false, eval e X.env) :: starEach [e2, e3] X.env := by rfl) (hs2 : starEach [e2, e3] X.env = (false, eval e2 X.env) :: starEach [e3] X.env := by rfl)
    (hs3 : starEach [e3] X.env = (false, eval e3 X.env) :: starEach [] X.env := by rfl) (hpl : (backTo pos (starEach [e2, e3] X.env)).any (·.1) = false := by rfl) :
    IV X W tg (.Call (.Name "range" p) [e, e2, e3] [] pos) (iRng3X fa fb fc) := by
  refine pi_imp (pi_range3 hg hm (ea_cons ha (ea_cons hb (ea_cons hc ea_nil hs3) hs2) hs) hs hpl) fun σ H Q h => ?_
  obtain ⟨B, m, ρ, S, r, re, f⟩ := h
  refine ⟨B, m, ρ, S, r, re, (finA.bindI f).mono fun vs H1 => ?_⟩
  rintro ⟨m1, S1, ds, po, q, f⟩
  split at f
  · rename_i i j k
    split at f
    · rename_i hk
      cases q with
      | cons q1 q => cases q with
        | cons q2 q => cases q with
          | cons q3 q =>
            cases q; cases q1; cases q2; cases q3
            refine ⟨i, j, k, rgN i j k, rfl, ⟨hk.1, hk.2.1, hk.2.2, PyProof.Rows.rangeSize_toNat i j k⟩, f m1 H1 _ (Post.refl po.rl) itr_rngC⟩
    · exact f.elim
  · exact f.elim
end
def fV : D → Option V
  | .non => some .non
  | .bl b => some (.bl b)
  | .int i => some (.int i)
  | .str x => some (.str x)
  | _ => none
def fVs : List D → Option (List V)
  | [] => some []
  | d :: ds => match fV d, fVs ds with
    | some v, some vs => some (v :: vs)
    | _, _ => none
def sqOf : D → Option (List D)
  | .lst xs => some xs
  | .tup xs => some xs
  | _ => none
def inB (x y : D) : Option Bool := (fV x).bind fun v => (sqOf y).bind fun ds => (fVs ds).map fun vs => inV v vs
def inU (x y : D) : Option Bool := match y with
  | .dic t kvs => dhasD (.dic t kvs) x
  | .str z => match x with
    | .str i => some (!(Builtin.Str.occurrences z i 0 z.length 1).isEmpty)
    | _ => none
  | y => inB x y
def inD (x y : D) : Option D := (inU x y).map .bl
def ninD (x y : D) : Option D := (inU x y).map fun b => .bl (!b)
section
variable {K : PySem.W.Frag} {H : Hp} {Fb : Addr → Prop} {m : List Addr}
theorem fV_flat : ∀ {d : D} {v : V}, fV d = some v → flatV v = true
  | .non, _, e => by cases e; rfl
  | .bl _, _, e => by cases e; rfl
  | .int _, _, e => by cases e; rfl
  | .str _, _, e => by cases e; rfl
  | .tup _, _, e => by cases e
  | .lst _, _, e => by cases e
  | .dic _ _, _, e => by cases e
  | .ref _, _, e => by cases e
  | .raw _, _, e => by cases e
  | .scr _, _, e => by cases e
  | .exn _ _, _, e => by cases e
theorem Rep.fV {d : D} {v w : V} (h : Rep K H Fb m v d) (e : DL.fV d = some w) : v = w := by
  cases h <;> simp [DL.fV] at e <;> first | exact e | (subst e; rfl)
theorem Vw.fV {d : D} {v w : V} (h : Vw K H Fb m v d) (e : DL.fV d = some w) : v = w := by
  cases h with
  | oth h => exact h.fV e
  | lst _ _ _ => cases e
  | dK _ _ _ _ => cases e
  | dT _ _ _ _ => cases e
theorem RepA.fVs : ∀ {ds : List D} {vs ws : List V}, RepA K H Fb m vs ds → DL.fVs ds = some ws → vs = ws ∧ ws.all flatV = true
  | [], _, _, .nil, e => by cases e; exact ⟨rfl, rfl⟩
  | d :: ds, _, ws, .cons h q, e => by
    unfold DL.fVs at e
    cases e1 : DL.fV d with
    | none => rw [e1] at e; cases e
    | some w =>
      cases e2 : DL.fVs ds with
      | none => rw [e1, e2] at e; cases e
      | some us =>
        rw [e1, e2] at e
        cases e
        obtain ⟨rfl, g⟩ := q.fVs e2
        have := h.fV e1
        subst this
        exact ⟨rfl, by simp [fV_flat e1, g]⟩
end
section
variable {X : Cx}
theorem inB_sq {K : PySem.W.Frag} {H : Hp} {Fb : Addr → Prop} {m : List Addr} {dx dy : D} {x y : V} {c : Bool} (vx : Vw K H Fb m x dx) (vy : Vw K H Fb m y dy) (e : inB dx dy = some c) :
    ∃ p xs, y = .ref p ∧ (SqL K H p xs ∨ SqT K H p xs) ∧ flatV x = true ∧ xs.all flatV = true ∧ c = inV x xs := by
  unfold inB at e
  cases e1 : fV dx with
  | none => rw [e1] at e; cases e
  | some v =>
    cases e2 : sqOf dy with
    | none => rw [e1, e2] at e; cases e
    | some ds =>
      cases e3 : fVs ds with
      | none => rw [e1, e2] at e; simp [e3] at e
      | some vs =>
        rw [e1, e2] at e
        simp [e3] at e
        have ex := vx.fV e1
        subst ex
        cases dy with
        | lst zs =>
          cases e2
          obtain ⟨a, us, rfl, h, z, q⟩ := vy.asL
          obtain ⟨rfl, g⟩ := q.fVs e3
          exact ⟨a, _, rfl, .inl (SqL.of h), fV_flat e1, g, e.symm⟩
        | tup zs =>
          cases e2
          obtain ⟨a, us, rfl, h, z, q⟩ := vy.asT
          obtain ⟨rfl, g⟩ := q.fVs e3
          exact ⟨a, _, rfl, .inr h, fV_flat e1, g, e.symm⟩
        | _ => cases e2
theorem og_nin (hu : X.A.units + 64 < cLine) : OpR X (compareOp .NotIn) (rG2 X.K ninD) := by
  intro pins s σ H x y v u Q I rx ry ⟨Fb, m, dx, dy, d, fr, vx, vy, e, k⟩
  obtain ⟨c, e1, rfl⟩ := Option.map_eq_some_iff.mp e
  unfold inU at e1
  split at e1
  · obtain ⟨a, o, rfl, g, rfl⟩ := dhas_ok vy vx e1
    obtain rfl : u = Value.ref a := ry
    exact d_notIn (by omega) I g rx fun s' I' => ⟨.bl (!o.isSome), H, I', rfl, k H _ (Same.refl H) (.bl _)⟩
  · split at e1
    · cases e1
      cases vx.asS
      cases vy.asS
      exact op_notIn_str pins s σ H _ _ v u Q I rx ry ⟨_, _, rfl, rfl, k H _ (Same.refl H) (.bl _)⟩
    · cases e1
  · obtain ⟨p, xs, h1, h2, h3, h4, rfl⟩ := inB_sq vx vy e1
    exact op_notIn_seq pins s σ H x y v u Q I rx ry ⟨p, xs, h1, h2, h3, h4, by rw [if_pos rfl]; exact k H _ (Same.refl H) (.bl _)⟩
end
def maxI (n : Int) (ns : List Int) : Int := ns.foldl max n
section
variable {X : Cx} {W : WX}
theorem asIs_eq : ∀ {ds : List D} {ns : List Int}, asIs ds = some ns → ds = ns.map .int
  | [], ns, e => by cases e; rfl
  | .int i :: ds, ns, e => by
    unfold asIs at e
    obtain ⟨ms, e1, rfl⟩ := Option.map_eq_some_iff.mp e
    rw [asIs_eq e1]
    rfl
  | .non :: _, _, e => by simp [asIs] at e
  | .bl _ :: _, _, e => by simp [asIs] at e
  | .str _ :: _, _, e => by simp [asIs] at e
  | .tup _ :: _, _, e => by simp [asIs] at e
  | .lst _ :: _, _, e => by simp [asIs] at e
  | .dic _ _ :: _, _, e => by simp [asIs] at e
  | .ref _ :: _, _, e => by simp [asIs] at e
  | .raw _ :: _, _, e => by simp [asIs] at e
  | .scr _ :: _, _, e => by simp [asIs] at e
  | .exn _ _ :: _, _, e => by simp [asIs] at e
/-- max(xs, default=i) -/
def maxDef (i : Int) : List Int → Int
  | [] => i
  | n :: ns => maxI n ns
def maxDD : List D → Option D
  | [.lst xs, .int i] => (asIs xs).map fun ns => .int (maxDef i ns)
  | _ => none
def eMaxD (i : Int) (f : Ex) : Ex := fun ρ S => (f ρ S).bind fun d S => ans S (maxDD [view S d, .int i])
end
def fnD (dd : List D) (F : Fn) : Fn := fun ds S => F (ds ++ dd) S
def OkFD (P : Program) (w : World) (K : PySem.W.Frag) (mg : Str → Option Value) (base : Heap) (x : Str) (ps : List Str) (n k : Nat) (dvs : List V) (F : Fn) : Prop :=
  ∃ fd ds, DL.FnOk P w K mg base (L2.CX P w) k (He.ga K x) fd ps (spD K mg ps.length F) ∧ Vals dvs ds ∧ Binds K fd ps ds ∧ mg x = some (.ref (He.ga K x)) ∧ PySem.W.keepIn K (.ref (He.ga K x)) = true ∧ n + dvs.length = ps.length
section
variable {P : Program} {w : World} {K : PySem.W.Frag} {mg : Str → Option Value} {base : Heap} {x name qual : Str} {params : Arguments} {body : List Stmt} {scope : Scope} {N ps : List Str} {k n : Nat} {b : Sx} {F : Fn} {kws : List (Str × V)}
/-- keyword-only defaults, none of them given -/
theorem okFD_kw {G : Fn} (h : ∃ fd, FunD K name qual params body scope [] kws (He.fAd K (x, none)) fd) (hm : mg x = some (.ref (He.ga K x))) (sc : FnScope N ps scope) (hk : kws ≠ []) (hn : n + kws.length = ps.length)
    (hbind : ∀ (D : Addr) (doc pm : Value) (an : Option Addr) (cdv ct : Value) (us ks : List Value), us.length = n → ks.length = kws.length →
      KwChain D ((kws.map (·.1)).zip ks) (bindArgs (PySem.W.fnOf name qual params body scope .none (.ref D) doc pm an cdv ct) ⟨us, []⟩) (ps.zip (us ++ ks)))
    (hb : BodyOk P w K mg base x qual body scope N k b) (imp : ∀ vs H Q E, spD K mg ps.length G vs H Q E → spD K mg ps.length (fnB N.length b) vs H Q E) : OkFD P w K mg base x ps n (k + 1) (kws.map (·.2)) G := by
  obtain ⟨fd, g⟩ := h
  obtain ⟨ds, rd, bi⟩ := g.binds0 n hk hn hbind
  exact ⟨fd, ds, (fn_denD g sc hb).imp imp, rd, bi, hm, g.kp, by rw [List.length_map]; exact hn⟩
end
section
variable {X : Cx} {W : WX} {x : Str} {ps : List Str} {k j n : Nat} {F : Fn} {p pos : Pos} {e : Expr} {es : List Expr} {fs : List Ex} {dvs : List V} {dd : List D}
theorem evL_len : ∀ (fs : List Ex) (ρ : Ev) (S S' : Sto) (ds : List D), evL fs ρ S = .ok ds S' → ds.length = fs.length
  | [], ρ, S, S', ds, e => by unfold evL at e; cases e; rfl
  | f :: fs, ρ, S, S', ds, e => by
    unfold evL at e
    cases e1 : f ρ S with
    | bad => rw [e1] at e; cases e
    | exc c p S1 => rw [e1] at e; cases e
    | ok d S1 =>
      rw [e1] at e
      simp only [R.bind] at e
      cases e2 : evL fs ρ S1 with
      | bad => rw [e2] at e; cases e
      | exc c p S1 => rw [e2] at e; cases e
      | ok ds2 S2 =>
        rw [e2] at e
        cases e
        simp [evL_len fs ρ S1 _ ds2 e2]
theorem ev_fnD (O : OkFD X.prog X.w X.K X.mg X.base x ps n k dvs F) (hd : ∀ H Fb m, RepA X.K H Fb m dvs dd) (hr : DL.Room j X.A) (hg : Gl X x) (tk : Takes X W) (ha : EVA X W (e :: es) fs) (hj : k ≤ j := by omega) (hn : fs.length = n := by rfl) (hdb : (x == ("__debug__" : Str)) = false := by decide) (he : starEach (e :: es) X.env = (false, eval e X.env) :: starEach es X.env := by rfl) (hpl : (backTo pos (starEach es X.env)).any (·.1) = false := by rfl) :
    EV X W (.Call (.Name x p) (e :: es) [] pos) (eFn (fnD dd F) fs) := by
  obtain ⟨fd, ds0, FO, rd, bi, hm, hk, hl⟩ := O
  refine pe_imp (pe_callG (p := p) FO (hr.mono hj) hg hm hk bi rd (fun σ => passAt tk σ) ha hdb he hpl) fun σ H Q h => ?_
  obtain ⟨B, m, ρ, S, r, re, g⟩ := h
  refine ⟨B, m, ρ, S, r, re, ?_⟩
  have g' : fin X.K X.mg W B m S σ H ((evL fs ρ S).bind fun ds S => F (ds ++ dd) S) Q := g
  cases e1 : evL fs ρ S with
  | bad => rw [e1] at g'; exact g'.elim
  | exc c p S1 => rw [e1] at g'; exact g'
  | ok ds S1 =>
    rw [e1] at g'
    intro m1 H1 vs po q
    have h2 := (hd H1 (Fo B m1 S1) m1).length
    exact ⟨B, m1, S1, ds ++ dd, po.rl, q.append (hd _ _ _), by rw [List.length_append, q.length, evL_len _ _ _ _ _ e1, hn, hl], fin_call (fin.later po g')⟩
end
end DL
set_option Elab.async false
set_option linter.all false
set_option maxRecDepth 100000
set_option maxHeartbeats 4000000
namespace DL
open PySem PySem.Spec PyProof.Rows L2
abbrev Px := Str → D → Sto → Prop
abbrev Xs := Str → D → Ev → Sto → Prop
abbrev noX : Px := fun _ _ _ => False
def Wp0 {α : Type} (r : R α) (Q : α → Sto → Prop) (E : Px) : Prop := match r with
  | .ok a S => Q a S
  | .exc c p S => E c p S
  | .bad => False
def Ws0 (r : RS) (Q : Fl → Sto → Prop) (E : Str → D → Ev → Sto → Prop) : Prop := match r with
  | .fl f S => Q f S
  | .exc c p ρ S => E c p ρ S
  | .bad => False
structure Wp {α : Type} (r : R α) (Q : α → Sto → Prop) (E : Px) : Prop where
  out : Wp0 r Q E
structure Ws (r : RS) (Q : Fl → Sto → Prop) (E : Str → D → Ev → Sto → Prop) : Prop where
  out : Ws0 r Q E
section
variable {α β : Type} {Q : α → Sto → Prop} {E : Px} {ρ : Ev} {S S1 : Sto}
theorem Wp.mono {r : R α} {Q' : α → Sto → Prop} (h : Wp r Q E) (k : ∀ a S, Q a S → Q' a S) : Wp r Q' E := by
  cases r with
  | ok a S => exact ⟨k _ _ h.out⟩
  | exc c p S => first | exact h | exact ⟨h⟩ | exact (h).out | exact ⟨(h).out⟩
  | bad => first | exact h | exact ⟨h⟩ | exact (h).out | exact ⟨(h).out⟩
theorem Wp.of {r : R α} {a : α} (h : r = .ok a S) (q : Q a S) : Wp r Q E := by rw [h]; first | exact q | exact ⟨q⟩ | exact (q).out | exact ⟨(q).out⟩
theorem Wp.ok {r : R α} (h : Wp r Q noX) : ∃ a S, r = .ok a S ∧ Q a S := by
  cases r with
  | ok a S => exact ⟨a, S, rfl, h.out⟩
  | exc c p S => exact h.out.elim
  | bad => exact h.out.elim
theorem Ws.mono {r : RS} {Q Q' : Fl → Sto → Prop} {E : Str → D → Ev → Sto → Prop} (h : Ws r Q E) (k : ∀ a S, Q a S → Q' a S) : Ws r Q' E := by
  cases r with
  | fl a S => exact ⟨k _ _ h.out⟩
  | exc c p ρ S => first | exact h | exact ⟨h⟩ | exact (h).out | exact ⟨(h).out⟩
  | bad => first | exact h | exact ⟨h⟩ | exact (h).out | exact ⟨(h).out⟩
theorem Ws.of {r : RS} {f : Fl} {Q : Fl → Sto → Prop} {E : Str → D → Ev → Sto → Prop} (h : r = .fl f S) (q : Q f S) : Ws r Q E := by rw [h]; first | exact q | exact ⟨q⟩ | exact (q).out | exact ⟨(q).out⟩
theorem wp_bind {r : R α} {g : α → Sto → R β} {Q : β → Sto → Prop} (h : Wp r (fun a S => Wp (g a S) Q E) E) : Wp (r.bind g) Q E := by
  cases r with
  | ok a S => first | exact h | exact ⟨h⟩ | exact (h).out | exact ⟨(h).out⟩
  | exc c p S => first | exact h | exact ⟨h⟩ | exact (h).out | exact ⟨(h).out⟩
  | bad => first | exact h | exact ⟨h⟩ | exact (h).out | exact ⟨(h).out⟩
theorem ws_bind {r : R α} {g : α → Sto → RS} {Q : Fl → Sto → Prop} {E : Str → D → Ev → Sto → Prop} (h : Wp r (fun a S => Ws (g a S) Q E) (fun c p S => E c p ρ S)) : Ws (r.bindS ρ g) Q E := by
  cases r with
  | ok a S => first | exact h | exact ⟨h⟩ | exact (h).out | exact ⟨(h).out⟩
  | exc c p S => first | exact h | exact ⟨h⟩ | exact (h).out | exact ⟨(h).out⟩
  | bad => first | exact h | exact ⟨h⟩ | exact (h).out | exact ⟨(h).out⟩
end
/-- an operation's answer -/
def Wo0 (o : Option D) (Q : D → Prop) : Prop := match o with
  | some d => Q d
  | none => False
structure Wo (o : Option D) (Q : D → Prop) : Prop where
  out : Wo0 o Q
theorem Wo.of {o : Option D} {d : D} {Q : D → Prop} (h : o = some d) (q : Q d) : Wo o Q := by rw [h]; exact ⟨q⟩
section
variable {Q : D → Sto → Prop} {E : Px} {ρ : Ev} {S : Sto} {a b c : Ex} {i : Nat} {d : D}
theorem wp_ans {o : Option D} (h : Wo o fun z => Q z S) : Wp (ans S o) Q E := by
  cases o with
  | some d => first | exact h | exact ⟨h⟩ | exact (h).out | exact ⟨(h).out⟩
  | none => exact h.out.elim
theorem wp_c (q : Q d S) : Wp (eC d ρ S) Q E := ⟨q⟩
theorem wp_var (h : ρ[i]? = some (some d)) (q : Q d S) : Wp (eVar i ρ S) Q E := by
  unfold eVar
  rw [h]
  first | exact q | exact ⟨q⟩ | exact (q).out | exact ⟨(q).out⟩
theorem wp_op2 {g : D → D → Option D} (h : Wp (a ρ S) (fun x S1 => Wp (b ρ S1) (fun y S2 => Wo (g (view S2 x) (view S2 y)) fun z => Q z S2) E) E) : Wp (eOp2 g a b ρ S) Q E :=
  wp_bind (h.mono fun _ _ h => wp_bind (h.mono fun _ _ h => wp_ans h))
theorem wp_op1 {g : D → Option D} (h : Wp (a ρ S) (fun x S1 => Wo (g (view S1 x)) fun z => Q z S1) E) : Wp (eOp1 g a ρ S) Q E := wp_bind (h.mono fun _ _ h => wp_ans h)
theorem wp_nil {Q : List D → Sto → Prop} (q : Q [] S) : Wp (evL [] ρ S) Q E := ⟨q⟩
theorem wp_cons {f : Ex} {fs : List Ex} {Q : List D → Sto → Prop} (h : Wp (f ρ S) (fun d S1 => Wp (evL fs ρ S1) (fun ds S2 => Q (d :: ds) S2) E) E) : Wp (evL (f :: fs) ρ S) Q E :=
  wp_bind (h.mono fun _ _ h => wp_bind (h.mono fun _ _ h => ⟨h⟩))
theorem wp_fn {F : Fn} {fs : List Ex} (h : Wp (evL fs ρ S) (fun ds S1 => Wp (F ds S1) Q E) E) : Wp (eFn F fs ρ S) Q E := wp_bind h
theorem wp_call {g : List D → Option D} {fs : List Ex} (h : Wp (evL fs ρ S) (fun ds S1 => Wo (g (ds.map (view S1))) fun z => Q z S1) E) : Wp (eCall g fs ρ S) Q E := wp_bind (h.mono fun _ _ h => wp_ans h)
theorem wp_tup {fs : List Ex} (h : Wp (evL fs ρ S) (fun ds S1 => ds.length ≤ 16777216 ∧ Q (.tup ds) S1) E) : Wp (eTup fs ρ S) Q E :=
  wp_bind (h.mono fun ds S1 h => by
    have h1 : ds.length ≤ sizeLine := by rw [sizeLine_eq]; exact h.1
    show Wp (if ds.length ≤ sizeLine then _ else _) Q E
    rw [if_pos h1]
    first | exact h.2 | exact ⟨h.2⟩ | exact (h.2).out | exact ⟨(h.2).out⟩)
theorem wp_lst {fs : List Ex} (h : Wp (evL fs ρ S) (fun ds S1 => ds.length ≤ 16777216 ∧ Q (.lst ds) S1) E) : Wp (eLst fs ρ S) Q E :=
  wp_bind (h.mono fun ds S1 h => by
    have h1 : ds.length ≤ sizeLine := by rw [sizeLine_eq]; exact h.1
    show Wp (if ds.length ≤ sizeLine then _ else _) Q E
    rw [if_pos h1]
    first | exact h.2 | exact ⟨h.2⟩ | exact (h.2).out | exact ⟨(h.2).out⟩)
theorem wp_lstM {fs : List Ex} (h : Wp (evL fs ρ S) (fun ds S1 => ds.length ≤ 16777216 ∧ Q (.ref S1.length) (S1 ++ [some (.lst ds)])) E) : Wp (eLstM fs ρ S) Q E :=
  wp_bind (h.mono fun ds S1 h => by
    have h1 : ds.length ≤ sizeLine := by rw [sizeLine_eq]; exact h.1
    show Wp (if ds.length ≤ sizeLine then _ else _) Q E
    rw [if_pos h1]
    first | exact h.2 | exact ⟨h.2⟩ | exact (h.2).out | exact ⟨(h.2).out⟩)
theorem wp_listM {g : List D → Option D} {fs : List Ex} (h : Wp (evL fs ρ S) (fun ds S1 => ∃ xs, g (ds.map (view S1)) = some (.lst xs) ∧ Q (.ref S1.length) (S1 ++ [some (.lst xs)])) E) : Wp (eListM g fs ρ S) Q E :=
  wp_bind (h.mono fun ds S1 ⟨xs, h1, h⟩ => by
    rw [h1]
    first | exact h | exact ⟨h⟩ | exact (h).out | exact ⟨(h).out⟩)
theorem wp_sl0 (h : Wp (a ρ S) (fun d S1 => Wo (slD (view S1 d) none none) fun z => Q z S1) E) : Wp (eSl a none none ρ S) Q E :=
  wp_bind (h.mono fun _ _ h => wp_ans h)
theorem wp_sl1 (h : Wp (a ρ S) (fun d S1 => Wp (b ρ S1) (fun x S2 => ∃ i, x = .int i ∧ Wo (slD (view S2 d) (some i) none) fun z => Q z S2) E) E) : Wp (eSl a (some b) none ρ S) Q E :=
  wp_bind (h.mono fun _ _ h => wp_bind (r := ePart (some b) ρ _) (wp_bind (h.mono fun _ _ h => by
    obtain ⟨i, rfl, h⟩ := h
    exact ⟨(show Wp (R.bind (.ok none _) fun u S => ans S _) Q E from wp_bind ⟨wp_ans h⟩)⟩)))
theorem wp_sl2 (h : Wp (a ρ S) (fun d S1 => Wp (b ρ S1) (fun x S2 => ∃ i, x = .int i ∧ Wo (slD (view S2 d) none (some i)) fun z => Q z S2) E) E) : Wp (eSl a none (some b) ρ S) Q E :=
  wp_bind (h.mono fun d S1 h => wp_bind (r := .ok none S1) ⟨wp_bind (r := ePart (some b) ρ S1) (wp_bind (h.mono fun _ _ h => by
    obtain ⟨i, rfl, h⟩ := h
    exact ⟨wp_ans h⟩))⟩)
theorem wp_sl3 (h : Wp (a ρ S) (fun d S1 => Wp (b ρ S1) (fun x S2 => ∃ i, x = .int i ∧ Wp (c ρ S2) (fun y S3 => ∃ j, y = .int j ∧ Wo (slD (view S3 d) (some i) (some j)) fun z => Q z S3) E) E) E) : Wp (eSl a (some b) (some c) ρ S) Q E :=
  wp_bind (h.mono fun _ _ h => wp_bind (r := ePart (some b) ρ _) (wp_bind (h.mono fun _ _ h => by
    obtain ⟨i, rfl, h⟩ := h
    exact ⟨wp_bind (r := ePart (some c) ρ _) (wp_bind (h.mono fun _ _ h => by
      obtain ⟨j, rfl, h⟩ := h
      exact ⟨wp_ans h⟩))⟩)))
theorem wp_tval {Q : Bool → Sto → Prop} (h : Wp (a ρ S) (fun d S1 => ∃ b, d = .bl b ∧ Q b S1) E) : Wp (tVal a ρ S) Q E :=
  wp_bind (h.mono fun _ _ ⟨b, e, h⟩ => by subst e; first | exact h | exact ⟨h⟩ | exact (h).out | exact ⟨(h).out⟩)
theorem wp_tnot {t : Tx} {Q : Bool → Sto → Prop} (h : Wp (t ρ S) (fun b S1 => Q (!b) S1) E) : Wp (tNotX t ρ S) Q E := wp_bind (h.mono fun _ _ h => ⟨h⟩)
theorem wp_tand {t u : Tx} {Q : Bool → Sto → Prop} (h : Wp (t ρ S) (fun b S1 => (b = true → Wp (u ρ S1) Q E) ∧ (b = false → Q false S1)) E) : Wp (tAndX t u ρ S) Q E := wp_bind (h.mono fun b S1 h => by
  cases b with
  | true => rw [if_pos rfl]; exact h.1 rfl
  | false => rw [if_neg (by decide)]; first | exact h.2 rfl | exact ⟨h.2 rfl⟩ | exact (h.2 rfl).out | exact ⟨(h.2 rfl).out⟩)
theorem wp_tor {t u : Tx} {Q : Bool → Sto → Prop} (h : Wp (t ρ S) (fun b S1 => (b = true → Q true S1) ∧ (b = false → Wp (u ρ S1) Q E)) E) : Wp (tOrX t u ρ S) Q E := wp_bind (h.mono fun b S1 h => by
  cases b with
  | true => rw [if_pos rfl]; first | exact h.1 rfl | exact ⟨h.1 rfl⟩ | exact (h.1 rfl).out | exact ⟨(h.1 rfl).out⟩
  | false => rw [if_neg (by decide)]; exact h.2 rfl)
theorem wp_tyes {Q : Bool → Sto → Prop} (q : Q true S) : Wp (tYesX ρ S) Q E := ⟨q⟩
theorem wp_and (h : Wp (a ρ S) (fun x S1 => ∃ k, x = .bl k ∧ (k = true → Wp (b ρ S1) Q E) ∧ (k = false → Q (.bl false) S1)) E) : Wp (eAndX a b ρ S) Q E := wp_bind (h.mono fun x S1 ⟨k, e, h⟩ => by
  subst e
  cases k with
  | true => exact h.1 rfl
  | false => first | exact h.2 rfl | exact ⟨h.2 rfl⟩ | exact (h.2 rfl).out | exact ⟨(h.2 rfl).out⟩)
theorem wp_or (h : Wp (a ρ S) (fun x S1 => ∃ k, x = .bl k ∧ (k = true → Q (.bl true) S1) ∧ (k = false → Wp (b ρ S1) Q E)) E) : Wp (eOrX a b ρ S) Q E := wp_bind (h.mono fun x S1 ⟨k, e, h⟩ => by
  subst e
  cases k with
  | true => first | exact h.1 rfl | exact ⟨h.1 rfl⟩ | exact (h.1 rfl).out | exact ⟨(h.1 rfl).out⟩
  | false => exact h.2 rfl)
theorem wp_not (h : Wp (a ρ S) (fun x S1 => ∃ k, x = .bl k ∧ Q (.bl (!k)) S1) E) : Wp (eNotX a ρ S) Q E := wp_bind (h.mono fun x S1 ⟨k, e, h⟩ => by subst e; first | exact h | exact ⟨h⟩ | exact (h).out | exact ⟨(h).out⟩)
theorem wp_ifx {t : Tx} (h : Wp (t ρ S) (fun k S1 => (k = true → Wp (a ρ S1) Q E) ∧ (k = false → Wp (b ρ S1) Q E)) E) : Wp (eIfX t a b ρ S) Q E := wp_bind (h.mono fun k S1 h => by
  cases k with
  | true => rw [if_pos rfl]; exact h.1 rfl
  | false => rw [if_neg (by decide)]; exact h.2 rfl)
theorem wp_chain {g g' : D → D → Option D} (h : Wp (a ρ S) (fun x S1 => Wp (b ρ S1) (fun y S2 => Wo (g (view S2 x) (view S2 y)) fun z => ∃ k, z = .bl k ∧ (k = true → Wp (c ρ S2) (fun z S3 => Wo (g' (view S3 y) (view S3 z)) fun w => Q w S3) E) ∧ (k = false → Q (.bl false) S2)) E) E) : Wp (eChain g g' a b c ρ S) Q E :=
  wp_bind (h.mono fun x S1 h => wp_bind (h.mono fun y S2 h => by
    cases e : g (view S2 x) (view S2 y) with
    | none => rw [e] at h; exact h.out.elim
    | some z =>
      rw [e] at h
      obtain ⟨k, rfl, h⟩ := h
      dsimp only
      cases k with
      | true => rw [if_pos rfl]; exact wp_bind ((h.1 rfl).mono fun _ _ h => wp_ans h)
      | false => rw [if_neg (by decide)]; first | exact h.2 rfl | exact ⟨h.2 rfl⟩ | exact (h.2 rfl).out | exact ⟨(h.2 rfl).out⟩))
/-- a method that changes a live list -/
theorem wp_meth {g : List D → List D → Option (List D × D)} {fs : List Ex} (h : Wp (a ρ S) (fun d S1 => ∃ n, d = .ref n ∧ (lstOf S1 d).isSome = true ∧ Wp (evL fs ρ S1) (fun ds S2 => ∃ xs ys z, S2[n]? = some (some (.lst xs)) ∧ g xs ds = some (ys, z) ∧ Q z (S2.set n (some (.lst ys)))) E) E) : Wp (eMeth g a fs ρ S) Q E :=
  wp_bind (h.mono fun d S1 ⟨n, e, h1, h⟩ => by
    subst e
    rw [if_pos h1]
    refine wp_bind (h.mono fun ds S2 ⟨xs, ys, z, h2, h3, q⟩ => ?_)
    unfold doMut
    rw [lst_at h2]
    dsimp only
    rw [h3]
    first | exact q | exact ⟨q⟩ | exact (q).out | exact ⟨(q).out⟩)
theorem wp_meth0 {g : List D → List D → Option (List D × D)} (h : Wp (a ρ S) (fun d S1 => ∃ n xs ys z, d = .ref n ∧ S1[n]? = some (some (.lst xs)) ∧ g xs [] = some (ys, z) ∧ Q z (S1.set n (some (.lst ys)))) E) : Wp (eMeth0 g a ρ S) Q E :=
  wp_bind (h.mono fun d S1 ⟨n, xs, ys, z, e, h2, h3, q⟩ => by
    subst e
    unfold doMut
    rw [lst_at h2]
    dsimp only
    rw [h3]
    first | exact q | exact ⟨q⟩ | exact (q).out | exact ⟨(q).out⟩)
end
def fnQ (Q : D → Sto → Prop) : Fl → Sto → Prop
  | .nx _, S => Q .non S
  | .rt d, S => Q d S
  | _, _ => False
theorem wp_fnB {n : Nat} {b : Sx} {ds : List D} {ρ : Ev} {S : Sto} {Q : D → Sto → Prop} {E : Px} (he : ds.map some ++ List.replicate (n - ds.length) none = ρ) (h : Ws (b ρ S) (fnQ Q) (fun c p _ S => E c p S)) : Wp (fnB n b ds S) Q E := by
  unfold fnB
  rw [he]
  cases e : b ρ S with
  | bad => rw [e] at h; exact h.out.elim
  | exc c p ρ' S' => rw [e] at h; first | exact h | exact ⟨h⟩ | exact (h).out | exact ⟨(h).out⟩
  | fl f S' =>
    rw [e] at h
    cases f with
    | nx ρ' => first | exact h | exact ⟨h⟩ | exact (h).out | exact ⟨(h).out⟩
    | rt d => first | exact h | exact ⟨h⟩ | exact (h).out | exact ⟨(h).out⟩
    | bk ρ' => exact h.out.elim
    | ct ρ' => exact h.out.elim
/-- a def told plain data: its answer is plain, the store stays -/
theorem wp_fnP {F : Fn} {ds : List D} {S : Sto} {Q : D → Sto → Prop} {E : Px} (h0 : noRefs ds = true) (h : Wp (F ds []) (fun d _ => noRef d = true ∧ Q d S) (fun c p _ => noRef p = true ∧ E c p S)) : Wp (fnP F ds S) Q E := by
  unfold fnP
  rw [if_pos h0]
  cases e : F ds [] with
  | bad => rw [e] at h; exact h.out.elim
  | exc c p S' =>
    rw [e] at h
    dsimp only
    rw [if_pos h.out.1]
    exact ⟨h.out.2⟩
  | ok d S' =>
    rw [e] at h
    dsimp only
    rw [if_pos h.out.1]
    exact ⟨h.out.2⟩
def thenQ (b : Sx) (Q : Fl → Sto → Prop) (E : Str → D → Ev → Sto → Prop) : Fl → Sto → Prop
  | .nx ρ, S => Ws (b ρ S) Q E
  | f, S => Q f S
section
variable {Q : Fl → Sto → Prop} {E : Str → D → Ev → Sto → Prop} {ρ : Ev} {S : Sto} {a b : Sx} {e : Ex}
theorem ws_seq (h : Ws (a ρ S) (thenQ b Q E) E) : Ws (sSeq a b ρ S) Q E := by
  unfold sSeq
  cases e : a ρ S with
  | bad => rw [e] at h; exact h.out.elim
  | exc c p ρ' S' => rw [e] at h; first | exact h | exact ⟨h⟩ | exact (h).out | exact ⟨(h).out⟩
  | fl f S' =>
    rw [e] at h
    cases f <;> first | exact h | exact ⟨h⟩ | exact (h).out | exact ⟨(h).out⟩
theorem ws_then (h : Ws (b ρ S) Q E) : thenQ b Q E (.nx ρ) S := h
theorem ws_thenR {d : D} (h : Q (.rt d) S) : thenQ b Q E (.rt d) S := h
theorem ws_thenB (h : Q (.bk ρ) S) : thenQ b Q E (.bk ρ) S := h
theorem ws_thenC (h : Q (.ct ρ) S) : thenQ b Q E (.ct ρ) S := h
theorem ws_skip (q : Q (.nx ρ) S) : Ws (sSkip ρ S) Q E := ⟨q⟩
theorem ws_ret (h : Wp (e ρ S) (fun d S1 => Q (.rt d) S1) (fun c p S => E c p ρ S)) : Ws (sRet e ρ S) Q E := ws_bind (h.mono fun _ _ h => ⟨h⟩)
theorem ws_retN (q : Q (.rt .non) S) : Ws (sRetN ρ S) Q E := ⟨q⟩
theorem ws_expr (h : Wp (e ρ S) (fun d S1 => Q (.nx ρ) S1) (fun c p S => E c p ρ S)) : Ws (sExpr e ρ S) Q E := ws_bind (h.mono fun _ _ h => ⟨h⟩)
theorem ws_asg {i : Nat} (h : Wp (e ρ S) (fun d S1 => Q (.nx (ρ.set i (some d))) S1) (fun c p S => E c p ρ S)) : Ws (sAsg i e ρ S) Q E := ws_bind (h.mono fun _ _ h => ⟨h⟩)
theorem ws_brk (q : Q (.bk ρ) S) : Ws (sBrk ρ S) Q E := ⟨q⟩
theorem ws_cont (q : Q (.ct ρ) S) : Ws (sCont ρ S) Q E := ⟨q⟩
theorem ws_if {t : Tx} (h : Wp (t ρ S) (fun k S1 => (k = true → Ws (a ρ S1) Q E) ∧ (k = false → Ws (b ρ S1) Q E)) (fun c p S => E c p ρ S)) : Ws (sIf t a b ρ S) Q E := ws_bind (h.mono fun k S1 h => by
  cases k with
  | true => rw [if_pos rfl]; exact h.1 rfl
  | false => rw [if_neg (by decide)]; exact h.2 rfl)
theorem ws_asgT {t : Tg} (h : Wp (e ρ S) (fun d S1 => ∃ ρ', t.put d ρ = some ρ' ∧ Q (.nx ρ') S1) (fun c p S => E c p ρ S)) : Ws (sAsgT t e ρ S) Q E := ws_bind (h.mono fun d S1 ⟨ρ', h1, h⟩ => by
  rw [h1]
  first | exact h | exact ⟨h⟩ | exact (h).out | exact ⟨(h).out⟩)
theorem ws_aug {i : Nat} {g : D → D → Option D} {d : D} (h0 : ρ[i]? = some (some d)) (h : Wp (e ρ S) (fun y S1 => Wo (g (view S1 d) (view S1 y)) fun z => Q (.nx (ρ.set i (some z))) S1) (fun c p S => E c p ρ S)) : Ws (sAug i g e ρ S) Q E := by
  unfold sAug
  rw [h0]
  refine ws_bind (h.mono fun y S1 h => ?_)
  cases e : g (view S1 d) (view S1 y) with
  | none => rw [e] at h; exact h.out.elim
  | some z => rw [e] at h; first | exact h | exact ⟨h⟩ | exact (h).out | exact ⟨(h).out⟩
theorem ws_setIx {o i : Ex} (h : Wp (e ρ S) (fun z S1 => Wp (o ρ S1) (fun d S2 => Wp (i ρ S2) (fun k S3 => ∃ n xs j p, d = .ref n ∧ k = .int j ∧ S3[n]? = some (some (.lst xs)) ∧ ixN xs.length j = some p ∧ Q (.nx ρ) (S3.set n (some (.lst (xs.set p z))))) (fun c p S => E c p ρ S)) (fun c p S => E c p ρ S)) (fun c p S => E c p ρ S)) : Ws (sSetIx o i e ρ S) Q E :=
  ws_bind (h.mono fun z S1 h => ws_bind (h.mono fun d S2 h => ws_bind (h.mono fun k S3 ⟨n, xs, j, p, e1, e2, h1, h2, q⟩ => by
    subst e1 e2
    rw [lst_at h1]
    dsimp only
    rw [h2]
    exact ⟨q⟩)))
def putAll : List Nat → List (Option D) → Ev → Ev
  | i :: is, v :: vs, ρ => putAll is vs (ρ.set i v)
  | _, _, ρ => ρ
/-- the loop's body's ends: on to the next turn, out by a break (X), out by a return -/
def loopQ (A : List Nat) (ρ : Ev) (N X : List (Option D) → Sto → Prop) (Q : Fl → Sto → Prop) : Fl → Sto → Prop
  | .nx ρ', S => ∃ vs, vs.length = A.length ∧ ρ' = putAll A vs ρ ∧ N vs S
  | .ct ρ', S => ∃ vs, vs.length = A.length ∧ ρ' = putAll A vs ρ ∧ N vs S
  | .bk ρ', S => ∃ vs, vs.length = A.length ∧ ρ' = putAll A vs ρ ∧ X vs S
  | .rt d, S => Q (.rt d) S
theorem ws_loop {t : Tg} (A : List Nat) (I : Nat → List (Option D) → Sto → Prop) : ∀ (xs : List D) (k : Nat) (vs : List (Option D)) (S : Sto), vs.length = A.length → I k vs S →
    (∀ j d vs S, xs[j]? = some d → vs.length = A.length → I (k + j) vs S → ∃ ρ1, t.put d (putAll A vs ρ) = some ρ1 ∧ Ws (b ρ1 S) (loopQ A ρ (I (k + j + 1)) (fun vs S => Q (.nx (putAll A vs ρ)) S) Q) E) →
    (∀ vs S, vs.length = A.length → I (k + xs.length) vs S → Q (.nx (putAll A vs ρ)) S) → Ws (loopS t b xs (putAll A vs ρ) S) Q E
  | [], k, vs, S, hv, h, _, hq => ⟨hq vs S hv h⟩
  | d :: ds, k, vs, S, hv, h, st, hq => by
    obtain ⟨ρ1, e1, h1⟩ := st 0 d vs S rfl hv h
    unfold loopS
    simp only [e1]
    have next : ∀ vs S, vs.length = A.length → I (k + 1) vs S → Ws (loopS t b ds (putAll A vs ρ) S) Q E := fun vs S hv h =>
      ws_loop A I ds (k + 1) vs S hv h (fun j d vs S hj hv hI => by
        have := st (j + 1) d vs S (by simpa using hj) hv (by rw [show k + (j + 1) = k + 1 + j by omega]; exact hI)
        rw [show k + (j + 1) + 1 = k + 1 + j + 1 by omega] at this
        exact this) (fun vs S hv hI => hq vs S hv (by rw [List.length_cons, show k + (ds.length + 1) = k + 1 + ds.length by omega]; exact hI))
    cases e : b ρ1 S with
    | bad => rw [e] at h1; exact h1.out.elim
    | exc c p ρ' S' => rw [e] at h1; first | exact h1 | exact ⟨h1⟩ | exact (h1).out | exact ⟨(h1).out⟩
    | fl f S' =>
      rw [e] at h1
      cases f with
      | nx ρ' => obtain ⟨vs', hv', rfl, h2⟩ := h1; exact next vs' S' hv' h2
      | ct ρ' => obtain ⟨vs', hv', rfl, h2⟩ := h1; exact next vs' S' hv' h2
      | bk ρ' => obtain ⟨vs', hv', rfl, h2⟩ := h1; first | exact h2 | exact ⟨h2⟩ | exact (h2).out | exact ⟨(h2).out⟩
      | rt d => first | exact h1 | exact ⟨h1⟩ | exact (h1).out | exact ⟨(h1).out⟩
/-- a for: I turn values store -/
theorem ws_for {it : Ix} {t : Tg} (A : List Nat) (h : Wp (it ρ S) (fun xs S1 => ∃ (I : Nat → List (Option D) → Sto → Prop) (vs : List (Option D)), vs.length = A.length ∧ putAll A vs ρ = ρ ∧ I 0 vs S1 ∧
    (∀ j d vs S, xs[j]? = some d → vs.length = A.length → I j vs S → ∃ ρ1, t.put d (putAll A vs ρ) = some ρ1 ∧ Ws (b ρ1 S) (loopQ A ρ (I (j + 1)) (fun vs S => Q (.nx (putAll A vs ρ)) S) Q) E) ∧
    (∀ vs S, vs.length = A.length → I xs.length vs S → Q (.nx (putAll A vs ρ)) S)) (fun c p S => E c p ρ S)) : Ws (sFor it t b ρ S) Q E := by
  refine ws_bind (h.mono fun xs S1 ⟨I, vs, hv, hp, hi, st, hq⟩ => ?_)
  have := ws_loop (ρ := ρ) (b := b) (t := t) (Q := Q) (E := E) A I xs 0 vs S1 hv hi (fun j d vs S hj hv hI => by
    rw [Nat.zero_add] at hI ⊢
    exact st j d vs S hj hv hI) (fun vs S hv hI => hq vs S hv (by rw [Nat.zero_add] at hI; exact hI))
  rw [hp] at this
  exact this
end
def unQ (t : Tg) (b : Sx) (ds : List D) (Q : Fl → Sto → Prop) (E : Xs) : Fl → Sto → Prop
  | .nx ρ, S => Ws (loopS t b ds ρ S) Q E
  | .ct ρ, S => Ws (loopS t b ds ρ S) Q E
  | .bk ρ, S => Q (.nx ρ) S
  | .rt d, S => Q (.rt d) S
section
variable {t : Tg} {b : Sx} {ds : List D} {d : D} {Q : Fl → Sto → Prop} {E : Xs} {ρ ρ1 : Ev} {S : Sto} {it : Ix}
theorem ws_forU (h : Wp (it ρ S) (fun xs S1 => Ws (loopS t b xs ρ S1) Q E) (fun c p S => E c p ρ S)) : Ws (sFor it t b ρ S) Q E := ws_bind h
theorem ws_loopN (q : Q (.nx ρ) S) : Ws (loopS t b [] ρ S) Q E := ⟨q⟩
theorem ws_loopC (h : t.put d ρ = some ρ1) (h1 : Ws (b ρ1 S) (unQ t b ds Q E) E) : Ws (loopS t b (d :: ds) ρ S) Q E := by
  unfold loopS
  simp only [h]
  cases e : b ρ1 S with
  | bad => rw [e] at h1; exact h1.out.elim
  | exc c p ρ' S' => rw [e] at h1; first | exact h1 | exact ⟨h1⟩ | exact (h1).out | exact ⟨(h1).out⟩
  | fl f S' =>
    rw [e] at h1
    cases f <;> first | exact h1 | exact ⟨h1⟩ | exact (h1).out | exact ⟨(h1).out⟩
theorem un_nx (h : Ws (loopS t b ds ρ S) Q E) : unQ t b ds Q E (.nx ρ) S := h
theorem un_ct (h : Ws (loopS t b ds ρ S) Q E) : unQ t b ds Q E (.ct ρ) S := h
theorem un_bk (h : Q (.nx ρ) S) : unQ t b ds Q E (.bk ρ) S := h
theorem un_rt (h : Q (.rt d) S) : unQ t b ds Q E (.rt d) S := h
end
def dkl : D → Option (List D)
  | .lst xs => some xs
  | .dic false kvs => some (kvs.map (·.1))
  | _ => none
section
variable {Q : List D → Sto → Prop} {E : Px} {ρ : Ev} {S : Sto} {a b : Ex}
theorem wi_seq (h : Wp (a ρ S) (fun d S1 => ∃ xs, (d = .tup xs ∨ dkl d = some xs) ∧ Q xs S1) E) : Wp (iSeq a ρ S) Q E := wp_bind (h.mono fun d S1 ⟨xs, e, q⟩ => by
  rcases e with rfl | e
  · exact ⟨q⟩
  · cases d with
    | lst ys => cases e; exact ⟨q⟩
    | dic t kvs => cases t with
      | false => cases e; exact ⟨q⟩
      | true => cases e
    | _ => cases e)
theorem wi_rng1 (h : Wp (a ρ S) (fun d S1 => ∃ j, d = .int j ∧ (-1000000000000 ≤ j ∧ j ≤ 1000000000000) ∧ Q (iRng 0 j) S1) E) : Wp (iRng1X a ρ S) Q E := wp_bind (h.mono fun d S1 ⟨j, e, h1, q⟩ => by
  subst e
  dsimp only
  rw [if_pos ⟨by omega, by omega⟩]
  first | exact q | exact ⟨q⟩ | exact (q).out | exact ⟨(q).out⟩)
theorem wi_rng2 (h : Wp (a ρ S) (fun d S1 => Wp (b ρ S1) (fun d2 S2 => ∃ i j, d = .int i ∧ d2 = .int j ∧ (-1000000000000 ≤ i ∧ i ≤ 1000000000000) ∧ (-1000000000000 ≤ j ∧ j ≤ 1000000000000) ∧ Q (iRng i j) S2) E) E) : Wp (iRng2X a b ρ S) Q E :=
  wp_bind (h.mono fun d S1 h => wp_bind (h.mono fun d2 S2 ⟨i, j, e1, e2, h1, h2, q⟩ => by
    subst e1 e2
    dsimp only
    rw [if_pos ⟨by omega, by omega, by omega, by omega⟩]
    first | exact q | exact ⟨q⟩ | exact (q).out | exact ⟨(q).out⟩))
theorem wi_zip2 (h : Wp (a ρ S) (fun x S1 => Wp (b ρ S1) (fun y S2 => ∃ xs ys, ((x = .lst xs ∧ y = .lst ys) ∨ (x = .tup xs ∧ y = .tup ys)) ∧ Q (zipDs xs ys) S2) E) E) : Wp (iZip2 a b ρ S) Q E :=
  wp_bind (h.mono fun d S1 h => wp_bind (h.mono fun d2 S2 ⟨xs, ys, e, q⟩ => by rcases e with ⟨rfl, rfl⟩ | ⟨rfl, rfl⟩ <;> first | exact q | exact ⟨q⟩ | exact (q).out | exact ⟨(q).out⟩))
theorem wi_zipS (h : Wp (a ρ S) (fun x S1 => Wp (b ρ S1) (fun y S2 => ∃ xs ys, (x = .lst xs ∨ x = .tup xs) ∧ (y = .lst ys ∨ y = .tup ys) ∧ xs.length = ys.length ∧ Q (zipDs xs ys) S2) E) E) : Wp (iZipS a b ρ S) Q E :=
  wp_bind (h.mono fun d S1 h => wp_bind (h.mono fun d2 S2 ⟨xs, ys, e1, e2, hl, q⟩ => by
    rcases e1 with rfl | rfl <;> rcases e2 with rfl | rfl <;> simp only [asSq] <;> rw [if_pos hl] <;> first | exact q | exact ⟨q⟩ | exact (q).out | exact ⟨(q).out⟩))
end
section
variable {Q : D → Sto → Prop} {E : Px} {ρ : Ev} {S : Sto} {t : Tg} {tt : Tx} {e : Ex} {vs : List Nat} {it : Ix}
theorem wp_nox {α : Type} {r : R α} {Q : α → Sto → Prop} (h : Wp r Q noX) : Wp r.nox Q E := by
  obtain ⟨a, S, e, h⟩ := h.ok
  rw [e]
  first | exact h | exact ⟨h⟩ | exact (h).out | exact ⟨(h).out⟩
/-- what a comprehension gathers: I turn gathered store -/
theorem wp_compL (I : Nat → List D → Sto → Prop) : ∀ (xs : List D) (k : Nat) (acc : List D) (S : Sto) (Q : List D → Sto → Prop), I k acc S →
    (∀ j d acc S, xs[j]? = some d → I (k + j) acc S → ∃ ρ1, t.put d (wipeD ρ vs) = some ρ1 ∧ Wp (tt ρ1 S) (fun b S1 => (b = true → Wp (e ρ1 S1) (fun y S2 => acc.length < 16777216 ∧ I (k + j + 1) (acc ++ [y]) S2) noX) ∧ (b = false → I (k + j + 1) acc S1)) noX) →
    (∀ acc S, I (k + xs.length) acc S → Q acc S) → Wp (compL t tt e vs xs ρ S acc) Q E
  | [], k, acc, S, Q, h, _, hq => ⟨hq acc S h⟩
  | d :: ds, k, acc, S, Q, h, st, hq => by
    obtain ⟨ρ1, e1, h1⟩ := st 0 d acc S rfl h
    unfold compL
    rw [e1]
    dsimp only
    have next : ∀ acc S, I (k + 1) acc S → Wp (compL t tt e vs ds ρ S acc) Q E := fun acc S h =>
      wp_compL I ds (k + 1) acc S Q h (fun j d acc S hj hI => by
        have := st (j + 1) d acc S (by simpa using hj) (by rw [show k + (j + 1) = k + 1 + j by omega]; exact hI)
        rw [show k + (j + 1) + 1 = k + 1 + j + 1 by omega] at this
        exact this) (fun acc S hI => hq acc S (by rw [List.length_cons, show k + (ds.length + 1) = k + 1 + ds.length by omega]; exact hI))
    refine wp_bind (wp_nox (h1.mono fun b S1 h2 => ?_))
    cases b with
    | false => rw [if_neg (by decide)]; exact next _ _ (h2.2 rfl)
    | true =>
      rw [if_pos rfl]
      refine wp_bind (wp_nox ((h2.1 rfl).mono fun y S2 h3 => ?_))
      rw [if_pos (by rw [sizeLine_eq]; exact h3.1)]
      exact next _ _ h3.2
theorem wp_comp (h : Wp (it ρ S) (fun xs S1 => ∃ I : Nat → List D → Sto → Prop, I 0 [] S1 ∧
    (∀ j d acc S, xs[j]? = some d → I j acc S → ∃ ρ1, t.put d (wipeD ρ vs) = some ρ1 ∧ Wp (tt ρ1 S) (fun b S1 => (b = true → Wp (e ρ1 S1) (fun y S2 => acc.length < 16777216 ∧ I (j + 1) (acc ++ [y]) S2) noX) ∧ (b = false → I (j + 1) acc S1)) noX) ∧
    (∀ acc S, I xs.length acc S → Q (.lst acc) S)) E) : Wp (eComp it t tt e vs ρ S) Q E :=
  wp_bind (h.mono fun xs S1 ⟨I, h0, st, hq⟩ => wp_bind (wp_compL I xs 0 [] S1 _ h0 (fun j d acc S hj hI => by
    rw [Nat.zero_add] at hI ⊢
    exact st j d acc S hj hI) fun acc S hI => ⟨hq acc S (by rw [Nat.zero_add] at hI; exact hI)⟩))
/-- of plain things, each told its own, the store stays -/
theorem wp_comp_map {α : Type} (l : List α) (f : α → D) (p : α → Bool) (g : α → D) (hl : l.length ≤ 16777216) (h : Wp (it ρ S) (fun xs S1 => xs = l.map f ∧
    (∀ x ∈ l, ∃ ρ1, t.put (f x) (wipeD ρ vs) = some ρ1 ∧ Wp (tt ρ1 S1) (fun b S2 => b = p x ∧ S2 = S1) noX ∧ (p x = true → Wp (e ρ1 S1) (fun y S2 => y = g x ∧ S2 = S1) noX)) ∧ Q (.lst ((l.filter p).map g)) S1) E) : Wp (eComp it t tt e vs ρ S) Q E := by
  refine wp_comp (h.mono fun xs S1 ⟨h1, st, q⟩ => ?_)
  subst h1
  refine ⟨fun j acc S => S = S1 ∧ acc = ((l.take j).filter p).map g, ⟨rfl, by simp⟩, ?_, ?_⟩
  · rintro j d acc S hj ⟨rfl, rfl⟩
    rw [List.getElem?_map] at hj
    obtain ⟨x, hx, rfl⟩ := Option.map_eq_some_iff.mp hj
    obtain ⟨ρ1, e1, h2, h3⟩ := st x (List.mem_of_getElem? hx)
    have hj' := (List.getElem?_eq_some_iff.mp hx).1
    have ht : l.take (j + 1) = l.take j ++ [x] := by rw [List.take_succ, hx]; rfl
    refine ⟨ρ1, e1, h2.mono fun b S2 ⟨hb, hS⟩ => ?_⟩
    subst hS
    constructor
    · intro hbt
      rw [hb] at hbt
      refine (h3 hbt).mono fun y S3 ⟨hy, hS⟩ => ?_
      subst hS hy
      refine ⟨?_, rfl, ?_⟩
      · rw [List.length_map]
        have h4 := List.length_filter_le p (l.take j)
        rw [List.length_take] at h4
        omega
      · rw [ht, List.filter_append, List.map_append]
        simp [hbt]
    · intro hbf
      rw [hb] at hbf
      refine ⟨rfl, ?_⟩
      rw [ht, List.filter_append]
      simp [hbf]
  · rintro acc S ⟨rfl, rfl⟩
    rw [List.length_map, List.take_length]
    exact q
theorem wp_compM_map {α : Type} (l : List α) (f : α → D) (p : α → Bool) (g : α → D) (hl : l.length ≤ 16777216) (h : Wp (it ρ S) (fun xs S1 => xs = l.map f ∧
    (∀ x ∈ l, ∃ ρ1, t.put (f x) (wipeD ρ vs) = some ρ1 ∧ Wp (tt ρ1 S1) (fun b S2 => b = p x ∧ S2 = S1) noX ∧ (p x = true → Wp (e ρ1 S1) (fun y S2 => y = g x ∧ S2 = S1) noX)) ∧ Q (.ref S1.length) (S1 ++ [some (.lst ((l.filter p).map g))])) E) : Wp (eCompM it t tt e vs ρ S) Q E := by
  have := wp_comp_map (Q := fun d S => match d with | .lst xs => Q (.ref S.length) (S ++ [some (.lst xs)]) | _ => False) (E := E) (ρ := ρ) (S := S) (t := t) (tt := tt) (e := e) (vs := vs) (it := it) l f p g hl h
  unfold eComp at this
  unfold eCompM
  cases hi : it ρ S with
  | bad => rw [hi] at this; first | exact this | exact ⟨this⟩ | exact (this).out | exact ⟨(this).out⟩
  | exc c p S' => rw [hi] at this; first | exact this | exact ⟨this⟩ | exact (this).out | exact ⟨(this).out⟩
  | ok xs S1 =>
    rw [hi] at this
    simp only [R.bind] at this ⊢
    cases hc : compL t tt e vs xs ρ S1 [] with
    | bad => rw [hc] at this; first | exact this | exact ⟨this⟩ | exact (this).out | exact ⟨(this).out⟩
    | exc c p S' => rw [hc] at this; first | exact this | exact ⟨this⟩ | exact (this).out | exact ⟨(this).out⟩
    | ok acc S2 => rw [hc] at this; first | exact this | exact ⟨this⟩ | exact (this).out | exact ⟨(this).out⟩
end
theorem ite_d {p : Prop} [Decidable p] {A B : Prop} (h1 : p → A) (h2 : ¬ p → B) : (decide p = true → A) ∧ (decide p = false → B) := ⟨fun h => h1 (of_decide_eq_true h), fun h => h2 (of_decide_eq_false h)⟩
theorem ite_nd {p : Prop} [Decidable p] {A B : Prop} (h1 : ¬ p → A) (h2 : p → B) : ((!decide p) = true → A) ∧ ((!decide p) = false → B) := ⟨fun h => h1 (by simpa using h), fun h => h2 (by simpa using h)⟩
theorem neD_of {a b : D} {c : Bool} (h : eqD a b = some (.bl c)) : neD a b = some (.bl (!c)) := by
  unfold eqD at h
  unfold neD
  cases e : eqB a b with
  | none => rw [e] at h; simp at h
  | some x => rw [e] at h; simp at h; simp [h]
theorem wo_id {o : Option D} {Q : D → Prop} (h : Wo o Q) : Wo o Q := h
theorem ex_id {α : Type} {p : α → Prop} (h : ∃ x, p x) : ∃ x, p x := h
theorem and_id {a b : Prop} (h : a ∧ b) : a ∧ b := h
theorem ite_f {A B : Prop} (h : B) : (false = true → A) ∧ (false = false → B) := ⟨fun h => (by cases h), fun _ => h⟩
theorem ite_t {A B : Prop} (h : A) : (true = true → A) ∧ (true = false → B) := ⟨fun _ => h, fun h => (by cases h)⟩
theorem ite_nt {A B : Prop} (h : B) : ((!true) = true → A) ∧ ((!true) = false → B) := ite_f h
theorem ite_nf {A B : Prop} (h : A) : ((!false) = true → A) ∧ ((!false) = false → B) := ite_t h
section
variable {Q : D → Prop} {S : Sto} {i j : Int} {xs ys : List D}
theorem wo_add (q : Q (.int (i + j))) : Wo (addD (.int i) (.int j)) Q := ⟨q⟩
theorem wo_addT (h : xs.length + ys.length ≤ 16777216) (q : Q (.tup (xs ++ ys))) : Wo (addD (.tup xs) (.tup ys)) Q := .of (if_pos (by rw [sizeLine_eq]; exact h)) q
theorem wo_addL (h : xs.length + ys.length ≤ 16777216) (q : Q (.lst (xs ++ ys))) : Wo (addD (.lst xs) (.lst ys)) Q := .of (if_pos (by rw [sizeLine_eq]; exact h)) q
theorem wo_sub (q : Q (.int (i - j))) : Wo (subD (.int i) (.int j)) Q := ⟨q⟩
theorem wo_neg (q : Q (.int (-i))) : Wo (negD (.int i)) Q := ⟨q⟩
theorem wo_mulL (h : -18446744073709551616 < i ∧ i < 18446744073709551616) (q : Q (.int (i * j))) : Wo (mulD (.int i) (.int j)) Q := .of (mulD_l h.1 h.2) q
theorem wo_mulR (h : -18446744073709551616 < j ∧ j < 18446744073709551616) (q : Q (.int (i * j))) : Wo (mulD (.int i) (.int j)) Q := .of (mulD_r h.1 h.2) q
theorem wo_mulT (h : j ≤ 1000000 ∧ -1000000 ≤ j) (h2 : xs.length * j.toNat ≤ 16777216) (q : Q (.tup (List.replicate j.toNat xs).flatten)) : Wo (mulD (.tup xs) (.int j)) Q := .of (mulD_t h.1 h.2 h2) q
theorem wo_mod (h : 0 < j) (q : Q (.int (i % j))) : Wo (modD (.int i) (.int j)) Q := .of (if_pos h) q
theorem wo_div (h : 0 < j ∧ j < 1073741824) (q : Q (.int (i / j))) : Wo (divD (.int i) (.int j)) Q := .of (if_pos h) q
theorem wo_lt (q : Q (.bl (decide (i < j)))) : Wo (ltD (.int i) (.int j)) Q := ⟨q⟩
theorem wo_le (q : Q (.bl (decide (i ≤ j)))) : Wo (leD (.int i) (.int j)) Q := ⟨q⟩
theorem wo_gt (q : Q (.bl (decide (j < i)))) : Wo (gtD (.int i) (.int j)) Q := ⟨q⟩
theorem wo_ge (q : Q (.bl (decide (j ≤ i)))) : Wo (geD (.int i) (.int j)) Q := ⟨q⟩
theorem wo_eq (q : Q (.bl (decide (i = j)))) : Wo (eqD (.int i) (.int j)) Q := .of (eqD_int i j) q
theorem wo_ne (q : Q (.bl (!decide (i = j)))) : Wo (neD (.int i) (.int j)) Q := .of (neD_int i j) q
theorem wo_eqB {a b : Bool} (q : Q (.bl (a == b))) : Wo (eqD (.bl a) (.bl b)) Q := .of (eqD_bl a b) q
theorem wo_neB {a b : Bool} (q : Q (.bl (!(a == b)))) : Wo (neD (.bl a) (.bl b)) Q := .of (neD_bl a b) q
theorem wo_ixT {d : D} (h : L2.atI xs i = some d) (q : Q d) : Wo (ixD (.tup xs) (.int i)) Q := .of h q
theorem wo_ixL {d : D} (h : L2.atI xs i = some d) (q : Q d) : Wo (ixD (.lst xs) (.int i)) Q := .of h q
theorem wo_slT {a b : Option Int} (q : Q (.tup (cutD xs a b))) : Wo (slD (.tup xs) a b) Q := ⟨q⟩
theorem wo_slL {a b : Option Int} (q : Q (.lst (cutD xs a b))) : Wo (slD (.lst xs) a b) Q := ⟨q⟩
theorem wo_lenT (q : Q (.int xs.length)) : Wo (lenD [.tup xs]) Q := ⟨q⟩
theorem wo_lenL (q : Q (.int xs.length)) : Wo (lenD [.lst xs]) Q := ⟨q⟩
theorem wo_revT (q : Q (.tup xs.reverse)) : Wo (revD (.tup xs)) Q := ⟨q⟩
theorem wo_revL (q : Q (.lst xs.reverse)) : Wo (revD (.lst xs)) Q := ⟨q⟩
theorem wo_min (q : Q (.int (if j < i then j else i))) : Wo (min2D [.int i, .int j]) Q := ⟨q⟩
theorem wo_max (q : Q (.int (if j > i then j else i))) : Wo (max2D [.int i, .int j]) Q := ⟨q⟩
theorem wo_pick {zs : List Int} (hx : xs = zs.map D.int) (h : 0 ≤ i ∧ i < zs.length) (q : ∀ z ∈ zs, Q (.int z)) : Wo (ixD (.lst xs) (.int i)) Q := by
  subst hx
  refine .of (d := .int (zs[i.toNat]'(by omega))) ?_ (q _ (List.getElem_mem _))
  show L2.atI (zs.map D.int) i = _
  rw [atI_in h.1 (by rw [List.length_map]; omega), List.getElem_map]
theorem wo_tupL (q : Q (.tup xs)) : Wo (tupleD [.lst xs]) Q := ⟨q⟩
theorem wo_tupT (q : Q (.tup xs)) : Wo (tupleD [.tup xs]) Q := ⟨q⟩
theorem wo_lisL (q : Q (.lst xs)) : Wo (listD [.lst xs]) Q := ⟨q⟩
theorem wo_lisT (q : Q (.lst xs)) : Wo (listD [.tup xs]) Q := ⟨q⟩
end
end DL
set_option Elab.async false
set_option linter.all false
set_option maxRecDepth 100000
set_option maxHeartbeats 4000000
namespace DL
open PySem PySem.Spec PyProof.Rows
/-- the others stand as before -/
def Only (n : Nat) (S S' : Sto) : Prop := S'.length = S.length ∧ ∀ m, m ≠ n → S'[m]? = S[m]?
theorem Only.refl {n : Nat} {S : Sto} : Only n S S := ⟨rfl, fun _ _ => rfl⟩
theorem Only.trans {n : Nat} {S S1 S2 : Sto} (h : Only n S S1) (h2 : Only n S1 S2) : Only n S S2 := ⟨h2.1.trans h.1, fun m hm => (h2.2 m hm).trans (h.2 m hm)⟩
theorem Only.set {n : Nat} {S : Sto} {o : Option Ob} : Only n S (S.set n o) := ⟨by simp, fun m hm => List.getElem?_set_ne (fun e => hm e.symm)⟩
theorem set_at {S : Sto} {n : Nat} {o o' : Option Ob} (h : S[n]? = some o) : (S.set n o')[n]? = some o' := by
  have := (List.getElem?_eq_some_iff.mp h).1
  simp [this]
/-- a store that is changed at one place: what is needed of it -/
theorem set_gen {P : Sto → Prop} {S : Sto} {n : Nat} {o : Ob} {o' : Option Ob} (h : S[n]? = some (some o)) (k : ∀ S', S'[n]? = some o' → Only n S S' → P S') : P (S.set n o') := k _ (set_at h) .set
/-- all that stood stands -/
def Ext (S S' : Sto) : Prop := S.length ≤ S'.length ∧ ∀ m, m < S.length → S'[m]? = S[m]?
theorem Ext.refl {S : Sto} : Ext S S := ⟨Nat.le_refl _, fun _ _ => rfl⟩
theorem Ext.trans {S S1 S2 : Sto} (h : Ext S S1) (h2 : Ext S1 S2) : Ext S S2 := ⟨Nat.le_trans h.1 h2.1, fun m hm => (h2.2 m (Nat.lt_of_lt_of_le hm h.1)).trans (h.2 m hm)⟩
theorem Ext.app {S : Sto} {l : List (Option Ob)} : Ext S (S ++ l) := ⟨by simp, fun m hm => List.getElem?_append_left hm⟩
theorem Ext.at_ {S S' : Sto} {n : Nat} {o : Option Ob} (h : Ext S S') (e : S[n]? = some o) : S'[n]? = some o := (h.2 n (List.getElem?_eq_some_iff.mp e).1).trans e
theorem app_at {S : Sto} {o : Option Ob} : (S ++ [o])[S.length]? = some o := by simp
/-- a change of what is new, seen from before it was -/
theorem Ext.set {S S' : Sto} {n : Nat} {o : Option Ob} (h : Ext S S') (hn : S.length ≤ n) : Ext S (S'.set n o) := ⟨by simpa using h.1, fun m hm => by rw [List.getElem?_set_ne (by omega)]; exact h.2 m hm⟩
theorem Ext.only {S S1 S2 : Sto} {n : Nat} (h : Ext S S1) (ho : Only n S1 S2) (hn : S.length ≤ n) : Ext S S2 := ⟨by rw [ho.1]; exact h.1, fun m hm => (ho.2 m (by omega)).trans (h.2 m hm)⟩
def JarS (S : Sto) (n : Nat) (k : Int) : Prop := ∃ cells t r, Jar S n cells t r ∧ 0 ≤ t ∧ t ≤ k
theorem JarS.mono {S : Sto} {n : Nat} {k k' : Int} (h : JarS S n k) (hk : k ≤ k') : JarS S n k' := by
  obtain ⟨c, t, r, h1, h2, h3⟩ := h
  exact ⟨c, t, r, h1, h2, by omega⟩
theorem JarS.lt {S : Sto} {n : Nat} {k : Int} (h : JarS S n k) : n < S.length := by
  obtain ⟨_, _, _, h, _, _⟩ := h
  exact (List.getElem?_eq_some_iff.mp h).1
theorem JarS.ext {S S' : Sto} {n : Nat} {k : Int} (h : JarS S n k) (e : Ext S S') : JarS S' n k := by
  obtain ⟨c, t, r, h1, h2, h3⟩ := h
  exact ⟨c, t, r, e.at_ h1, h2, h3⟩
theorem JarS.only {S S' : Sto} {n m : Nat} {k : Int} (h : JarS S n k) (e : Only m S S') (hm : n ≠ m) : JarS S' n k := by
  obtain ⟨c, t, r, h1, h2, h3⟩ := h
  exact ⟨c, t, r, (e.2 n hm).trans h1, h2, h3⟩
theorem eqv_ints : ∀ xs ys : List Int, PyData.eqvAll (xs.map PyData.int) (ys.map PyData.int) = decide (xs = ys)
  | [], [] => by simp [PyData.eqvAll]
  | [], y :: ys => by simp [PyData.eqvAll]
  | x :: xs, [] => by simp [PyData.eqvAll]
  | x :: xs, y :: ys => by
    rw [List.map_cons, List.map_cons, PyData.eqvAll, eqv_ints xs ys]
    by_cases h1 : x = y <;> by_cases h2 : xs = ys <;> simp [PyData.eqv, h1, h2]
theorem toP_ints (xs : List Int) : toPs (xs.map D.int) = some (xs.map .int) := toPs_map D.int PyData.int (fun x => rfl) xs
theorem lay_ints (xs : List Int) : PyData.canLayAll0 (xs.map PyData.int) = true := lay_map _ (fun x => by simp [PyData.canLay0]) xs
theorem dep_ints (xs : List Int) : PyData.depthAll (xs.map PyData.int) ≤ 1 := dep_map PyData.int 1 (fun x => by simp [PyData.depth]) xs
theorem eqD_tupI (xs ys : List Int) : eqD (.tup (xs.map .int)) (.tup (ys.map .int)) = some (.bl (decide (xs = ys))) := by
  have e : ∀ zs : List Int, toP (.tup (zs.map .int)) = some (.tuple (zs.map .int)) := fun zs => by simp only [toP, toP_ints zs, Option.map_some]
  have h : ∀ zs : List Int, SeqAt.shaped (.tuple (zs.map .int)) = true := fun zs => by
    have h2 := dep_ints zs
    refine Bool.and_eq_true_iff.mpr ⟨by simp only [PyData.canLay0]; exact lay_ints zs, decide_eq_true ?_⟩
    simp only [PyData.depth]
    omega
  simp only [eqD, eqB, eqS, e, h, Bool.and_self, if_true, Option.map_some]
  rw [PyData.eqv, eqv_ints]
theorem eqD_lstI (xs ys : List Int) : eqD (.lst (xs.map .int)) (.lst (ys.map .int)) = some (.bl (decide (xs = ys))) := by
  have e : ∀ zs : List Int, toP (.lst (zs.map .int)) = some (.list (zs.map .int)) := fun zs => by simp only [toP, toP_ints zs, Option.map_some]
  have h : ∀ zs : List Int, SeqAt.shaped (.list (zs.map .int)) = true := fun zs => by
    have h2 := dep_ints zs
    refine Bool.and_eq_true_iff.mpr ⟨by simp only [PyData.canLay0]; exact lay_ints zs, decide_eq_true ?_⟩
    simp only [PyData.depth]
    omega
  simp only [eqD, eqB, eqS, e, h, Bool.and_self, if_true, Option.map_some]
  rw [PyData.eqv, eqv_ints]
theorem eqD_str (a b : Str) : eqD (.str a) (.str b) = some (.bl (decide (a = b))) := by simp [eqD, eqB, eqS]
theorem neD_str (a b : Str) : neD (.str a) (.str b) = some (.bl (!decide (a = b))) := by simp [neD, eqB, eqS]
mutual
def smD : D → Bool
  | .non => true
  | .bl _ => true
  | .int i => decide (i.natAbs < 10 ^ 50)
  | .str x => decide ((reprText x).length ≤ 14)
  | .tup xs => smDs xs
  | .lst xs => smDs xs
  | _ => false
def smDs : List D → Bool
  | [] => true
  | d :: ds => smD d && smDs ds
end
mutual
def wtD : D → Nat
  | .tup xs => 1 + wtDs xs
  | .lst xs => 1 + wtDs xs
  | _ => 1
def wtDs : List D → Nat
  | [] => 0
  | d :: ds => wtD d + wtDs ds
end
mutual
def dpD : D → Nat
  | .tup xs => 1 + dpDs xs
  | .lst xs => 1 + dpDs xs
  | _ => 0
def dpDs : List D → Nat
  | [] => 0
  | d :: ds => max (dpD d) (dpDs ds)
end
theorem log2_small {n : Nat} (h : n < 10 ^ 50) : n.log2 < 1920 := by
  by_cases h0 : n = 0
  · subst h0; decide
  · exact (Nat.log2_lt h0).mpr (Nat.lt_of_lt_of_le h (by exact Nat.le_trans (show 10 ^ 50 ≤ 2 ^ 200 by decide) (Nat.pow_le_pow_right (by decide) (by decide))))
theorem smDs_map {α : Type} (f : α → D) : ∀ xs : List α, (∀ x ∈ xs, smD (f x) = true) → smDs (xs.map f) = true
  | [], _ => rfl
  | x :: xs, h => by simp [smDs, h x (by simp), smDs_map f xs fun y hy => h y (by simp [hy])]
theorem wtDs_map {α : Type} (f : α → D) (w : Nat) : ∀ xs : List α, (∀ x ∈ xs, wtD (f x) ≤ w) → wtDs (xs.map f) ≤ w * xs.length
  | [], _ => by simp [wtDs]
  | x :: xs, h => by
    have h1 := h x (by simp)
    have h2 := wtDs_map f w xs fun y hy => h y (by simp [hy])
    simp only [List.map_cons, wtDs, List.length_cons, Nat.mul_succ]
    omega
theorem dpDs_map {α : Type} (f : α → D) (w : Nat) : ∀ xs : List α, (∀ x ∈ xs, dpD (f x) ≤ w) → dpDs (xs.map f) ≤ w
  | [], _ => by simp [dpDs]
  | x :: xs, h => by
    have h1 := h x (by simp)
    have h2 := dpDs_map f w xs fun y hy => h y (by simp [hy])
    simp only [List.map_cons, dpDs]
    omega
/-- signs -/
def Row (xs : List Int) : Prop := ∀ x ∈ xs, 0 ≤ x ∧ x < 31
theorem sm_int {i : Int} (h : -1000000 ≤ i ∧ i ≤ 1000000) : smD (.int i) = true := decide_eq_true (by omega)
theorem sm_row {xs : List Int} (h : Row xs) : smD (.tup (xs.map .int)) = true := smDs_map D.int xs fun x hx => sm_int (by have := h x hx; omega)
theorem wt_row (xs : List Int) : wtD (.tup (xs.map .int)) ≤ 1 + xs.length := by
  have := wtDs_map D.int 1 xs fun x _ => by simp [wtD]
  simp only [wtD]
  omega
theorem dp_row (xs : List Int) : dpD (.tup (xs.map .int)) ≤ 1 := by
  have := dpDs_map D.int 0 xs fun x _ => by simp [dpD]
  simp only [dpD]
  omega
/-- a join: M holds behind the first statement -/
theorem ws_mid {a b : Sx} {ρ : Ev} {S : Sto} {Q : Fl → Sto → Prop} {E : Xs} (M : Fl → Sto → Prop) (h1 : Ws (a ρ S) M E) (h2 : ∀ f S', M f S' → thenQ b Q E f S') : Ws (sSeq a b ρ S) Q E := ws_seq (h1.mono h2)
theorem ws_midT {a b : Sx} {ρ : Ev} {S : Sto} {Q : Fl → Sto → Prop} {E : Xs} (M : Fl → Sto → Prop) (h1 : Ws (a ρ S) M E) (h2 : ∀ f S', M f S' → thenQ b Q E f S') : Ws (a ρ S) (thenQ b Q E) E := h1.mono h2
section
variable {Q : D → Sto → Prop} {E : Px} {ρ : Ev} {S : Sto} {a b c : Ex}
theorem wp_repr (h : Wp (a ρ S) (fun d S1 => Wo (reprD (frzD S1 d)) fun z => Q z S1) E) : Wp (eRepr a ρ S) Q E := wp_bind (h.mono fun _ _ h => wp_ans h)
theorem wp_isi {t : PT} (h : Wp (a ρ S) (fun x S1 => Wo (Option.map D.bl (t.isOf (view S1 x))) fun z => Q z S1) E) : Wp (eIsi t a ρ S) Q E := wp_op1 h
theorem wp_isis {t : List PT} (h : Wp (a ρ S) (fun x S1 => Wo (Option.map D.bl (isOfs t (view S1 x))) fun z => Q z S1) E) : Wp (eIsis t a ρ S) Q E := wp_op1 h
theorem wp_maxD {i : Int} (h : Wp (a ρ S) (fun d S1 => Wo (maxDD [view S1 d, .int i]) fun z => Q z S1) E) : Wp (eMaxD i a ρ S) Q E := wp_bind (h.mono fun _ _ h => wp_ans h)
theorem wi_rng3 {Q : List D → Sto → Prop} (h : Wp (evL [a, b, c] ρ S) (fun ds S1 => ∃ i j k, ds = [.int i, .int j, .int k] ∧ (k ≠ 0 ∧ k.natAbs < 1073741824 ∧ Builtin.Range.small i j k = true) ∧ Q (iRng3 i j k) S1) E) : Wp (iRng3X a b c ρ S) Q E :=
  wp_bind (h.mono fun ds S1 ⟨i, j, k, e, h1, q⟩ => by
    subst e
    dsimp only
    rw [if_pos h1]
    exact ⟨q⟩)
end
section
variable {Q : D → Prop} {S : Sto} {n : Nat} {xs : List D} {y d : D}
theorem wo_vw1 {g : D → D → Option D} (h : S[n]? = some (some (.lst xs))) (q : Wo (g (view S (.lst xs)) y) Q) : Wo (g (view S (.ref n)) y) Q := by rw [view_at h]; exact q
theorem wo_vw2 {g : D → D → Option D} (h : S[n]? = some (some (.lst xs))) (q : Wo (g y (view S (.lst xs))) Q) : Wo (g y (view S (.ref n))) Q := by rw [view_at h]; exact q
theorem wo_eqS {a b : Str} (q : Q (.bl (decide (a = b)))) : Wo (eqD (.str a) (.str b)) Q := .of (eqD_str a b) q
theorem wo_neS {a b : Str} (q : Q (.bl (!decide (a = b)))) : Wo (neD (.str a) (.str b)) Q := .of (neD_str a b) q
end
def cutL {α : Type} (xs : List α) (lo hi : Option Int) : List α := (xs.drop (HT.sIx xs.length 0 lo)).take (HT.sIx xs.length xs.length hi - HT.sIx xs.length 0 lo)
theorem cut_map {α : Type} (f : α → D) (xs : List α) (lo hi : Option Int) : cutD (xs.map f) lo hi = (cutL xs lo hi).map f := by
  unfold cutD cutL
  rw [List.length_map, List.map_take, List.map_drop]
theorem cutL_mem {α : Type} {xs : List α} {lo hi : Option Int} {x : α} (h : x ∈ cutL xs lo hi) : x ∈ xs := List.mem_of_mem_drop (List.mem_of_mem_take h)
theorem Row.cut {xs : List Int} (h : Row xs) (lo hi : Option Int) : Row (cutL xs lo hi) := fun x hx => h x (cutL_mem hx)
theorem Row.app {xs ys : List Int} (h : Row xs) (h2 : Row ys) : Row (xs ++ ys) := fun x hx => (List.mem_append.mp hx).elim (h x) (h2 x)
def wz (xs : List Int) (x : Int) : Int := xs.reverse.foldl (fun w s => (w * x + s) % 31) 0
theorem wz_rng (xs : List Int) (x : Int) : 0 ≤ wz xs x ∧ wz xs x < 31 := by
  unfold wz
  suffices h : ∀ (ys : List Int) (a : Int), 0 ≤ a ∧ a < 31 → 0 ≤ ys.foldl (fun w s => (w * x + s) % 31) a ∧ ys.foldl (fun w s => (w * x + s) % 31) a < 31 from h _ 0 (by decide)
  intro ys
  induction ys with
  | nil => intro a h; exact h
  | cons y ys ih => intro a _; exact ih _ ⟨Int.emod_nonneg _ (by decide), Int.emod_lt_of_pos _ (by decide)⟩
section
variable {Q : D → Sto → Prop} {E : Px} {ρ : Ev} {S : Sto} {t : Tg} {e : Ex} {vs : List Nat} {it : Ix}
theorem wp_compG {α : Type} (f : α → D) (h : Wp (it ρ S) (fun xs S1 => ∃ I : Nat → List α → Sto → Prop, xs.length ≤ 16777216 ∧ I 0 [] S1 ∧
    (∀ j d as S, xs[j]? = some d → as.length = j → I j as S → ∃ ρ1, t.put d (wipeD ρ vs) = some ρ1 ∧ Wp (e ρ1 S) (fun y S2 => ∃ a, y = f a ∧ I (j + 1) (as ++ [a]) S2) noX) ∧
    (∀ as S, as.length = xs.length → I xs.length as S → Q (.lst (as.map f)) S)) E) : Wp (eComp it t tYesX e vs ρ S) Q E := by
  refine wp_comp (h.mono fun xs S1 ⟨I, hl, h0, st, hq⟩ => ⟨fun j acc S => ∃ as : List α, acc = as.map f ∧ as.length = j ∧ j ≤ xs.length ∧ I j as S, ⟨[], rfl, rfl, Nat.zero_le _, h0⟩, ?_, ?_⟩)
  · rintro j d acc S hj ⟨as, rfl, hal, hjl, hI⟩
    obtain ⟨ρ1, e1, h1⟩ := st j d as S hj hal hI
    have hj' := (List.getElem?_eq_some_iff.mp hj).1
    refine ⟨ρ1, e1, wp_tyes ⟨fun _ => h1.mono fun y S2 ⟨a, hy, hI2⟩ => ?_, fun z => by cases z⟩⟩
    subst hy
    exact ⟨by rw [List.length_map]; omega, as ++ [a], by simp, by simp [hal], by omega, hI2⟩
  · rintro acc S ⟨as, rfl, hal, _, hI⟩
    exact hq as S hal hI
/-- one for each of a list of things, the store stays -/
theorem wp_compM1 {α : Type} (l : List α) (f g : α → D) (hl : l.length ≤ 16777216) (h : Wp (it ρ S) (fun xs S1 => xs = l.map f ∧ (∀ x ∈ l, ∃ ρ1, t.put (f x) (wipeD ρ vs) = some ρ1 ∧ Wp (e ρ1 S1) (fun y S2 => y = g x ∧ S2 = S1) noX) ∧ Q (.lst (l.map g)) S1) E) : Wp (eComp it t tYesX e vs ρ S) Q E := by
  refine wp_comp_map l f (fun _ => true) g hl (h.mono fun xs S1 ⟨h1, h2, q⟩ => ⟨h1, fun x hx => ?_, ?_⟩)
  · obtain ⟨ρ1, e1, h3⟩ := h2 x hx
    exact ⟨ρ1, e1, wp_tyes ⟨rfl, rfl⟩, fun _ => h3⟩
  · rw [List.filter_eq_self.mpr fun _ _ => rfl]
    exact q
theorem wp_compM1M {α : Type} (l : List α) (f g : α → D) (hl : l.length ≤ 16777216) (h : Wp (it ρ S) (fun xs S1 => xs = l.map f ∧ (∀ x ∈ l, ∃ ρ1, t.put (f x) (wipeD ρ vs) = some ρ1 ∧ Wp (e ρ1 S1) (fun y S2 => y = g x ∧ S2 = S1) noX) ∧ Q (.ref S1.length) (S1 ++ [some (.lst (l.map g))])) E) : Wp (eCompM it t tYesX e vs ρ S) Q E := by
  refine wp_compM_map l f (fun _ => true) g hl (h.mono fun xs S1 ⟨h1, h2, q⟩ => ⟨h1, fun x hx => ?_, ?_⟩)
  · obtain ⟨ρ1, e1, h3⟩ := h2 x hx
    exact ⟨ρ1, e1, wp_tyes ⟨rfl, rfl⟩, fun _ => h3⟩
  · rw [List.filter_eq_self.mpr fun _ _ => rfl]
    exact q
end
theorem iRng0 (n : Nat) : iRng 0 (n : Int) = (List.range n).map fun k => .int (k : Nat) := iRng_nat n
theorem iRng_len (a b : Int) : (iRng a b).length = (b - a).toNat := by simp [iRng]
theorem iRng_at {a b : Int} {j : Nat} {d : D} (h : (iRng a b)[j]? = some d) : d = .int (a + j) ∧ a + j < b := by
  have hj := (List.getElem?_eq_some_iff.mp h).1
  rw [iRng_len] at hj
  simp only [iRng, List.getElem?_map, List.getElem?_range hj, Option.map_some, Option.some.injEq] at h
  exact ⟨h.symm, by omega⟩
theorem foldl_take {α β : Type} {f : α → β → α} {a : α} {l : List β} {j : Nat} {s : β} (h : l[j]? = some s) : (l.take (j + 1)).foldl f a = f ((l.take j).foldl f a) s := by
  rw [List.take_succ, h, List.foldl_append]
  rfl
theorem noRefs_int : ∀ xs : List Int, noRefs (xs.map .int) = true
  | [] => rfl
  | x :: xs => by simp [noRefs, noRef, noRefs_int xs]
theorem rep_one (m : Nat) (z : Int) : (List.replicate m [D.int z]).flatten = (List.replicate m z).map D.int := by
  induction m with
  | zero => rfl
  | succ m ih => rw [List.replicate_succ, List.flatten_cons, ih]; rfl
theorem cutL_take {α : Type} (xs : List α) (v : Int) (h : 0 ≤ v) : cutL xs none (some v) = xs.take v.toNat := by
  have e2 : HT.sIx xs.length xs.length (some v) = min v.toNat xs.length := by
    unfold HT.sIx
    exact if_neg (by omega)
  unfold cutL
  rw [e2]
  simp only [HT.sIx, Nat.sub_zero, List.drop_zero]
  rw [Nat.min_def]
  split
  · rfl
  · rw [List.take_of_length_le (by omega), List.take_of_length_le (by omega)]
theorem Row.rep0 (m : Nat) : Row (List.replicate m 0) := fun x hx => by
  have := List.eq_of_mem_replicate hx
  omega
section
variable {Q : D → Prop} {a b c d e f g : D} {l : List D}
theorem wo_ixL0 (q : Q a) : Wo (ixD (.lst (a :: l)) (.int 0)) Q := .of (d := a) (by show L2.atI _ _ = _; unfold L2.atI L2.ixN; rw [if_pos (by decide), if_pos (by simp only [List.length_cons]; omega)]; rfl) q
theorem wo_ixL1 (q : Q b) : Wo (ixD (.lst (a :: b :: l)) (.int 1)) Q := .of (d := b) (by show L2.atI _ _ = _; unfold L2.atI L2.ixN; rw [if_pos (by decide), if_pos (by simp only [List.length_cons]; omega)]; rfl) q
theorem wo_ixL2 (q : Q c) : Wo (ixD (.lst (a :: b :: c :: l)) (.int 2)) Q := .of (d := c) (by show L2.atI _ _ = _; unfold L2.atI L2.ixN; rw [if_pos (by decide), if_pos (by simp only [List.length_cons]; omega)]; rfl) q
theorem wo_ixL3 (q : Q d) : Wo (ixD (.lst (a :: b :: c :: d :: l)) (.int 3)) Q := .of (d := d) (by show L2.atI _ _ = _; unfold L2.atI L2.ixN; rw [if_pos (by decide), if_pos (by simp only [List.length_cons]; omega)]; rfl) q
theorem wo_ixL4 (q : Q e) : Wo (ixD (.lst (a :: b :: c :: d :: e :: l)) (.int 4)) Q := .of (d := e) (by show L2.atI _ _ = _; unfold L2.atI L2.ixN; rw [if_pos (by decide), if_pos (by simp only [List.length_cons]; omega)]; rfl) q
theorem wo_ixL5 (q : Q f) : Wo (ixD (.lst (a :: b :: c :: d :: e :: f :: l)) (.int 5)) Q := .of (d := f) (by show L2.atI _ _ = _; unfold L2.atI L2.ixN; rw [if_pos (by decide), if_pos (by simp only [List.length_cons]; omega)]; rfl) q
theorem wo_ixL6 (q : Q g) : Wo (ixD (.lst (a :: b :: c :: d :: e :: f :: g :: l)) (.int 6)) Q := .of (d := g) (by show L2.atI _ _ = _; unfold L2.atI L2.ixN; rw [if_pos (by decide), if_pos (by simp only [List.length_cons]; omega)]; rfl) q
theorem wo_ixT0 (q : Q a) : Wo (ixD (.tup (a :: l)) (.int 0)) Q := .of (d := a) (by show L2.atI _ _ = _; unfold L2.atI L2.ixN; rw [if_pos (by decide), if_pos (by simp only [List.length_cons]; omega)]; rfl) q
theorem wo_ixT1 (q : Q b) : Wo (ixD (.tup (a :: b :: l)) (.int 1)) Q := .of (d := b) (by show L2.atI _ _ = _; unfold L2.atI L2.ixN; rw [if_pos (by decide), if_pos (by simp only [List.length_cons]; omega)]; rfl) q
theorem wo_ixT2 (q : Q c) : Wo (ixD (.tup (a :: b :: c :: l)) (.int 2)) Q := .of (d := c) (by show L2.atI _ _ = _; unfold L2.atI L2.ixN; rw [if_pos (by decide), if_pos (by simp only [List.length_cons]; omega)]; rfl) q
theorem wo_ixT3 (q : Q d) : Wo (ixD (.tup (a :: b :: c :: d :: l)) (.int 3)) Q := .of (d := d) (by show L2.atI _ _ = _; unfold L2.atI L2.ixN; rw [if_pos (by decide), if_pos (by simp only [List.length_cons]; omega)]; rfl) q
theorem wo_ixT4 (q : Q e) : Wo (ixD (.tup (a :: b :: c :: d :: e :: l)) (.int 4)) Q := .of (d := e) (by show L2.atI _ _ = _; unfold L2.atI L2.ixN; rw [if_pos (by decide), if_pos (by simp only [List.length_cons]; omega)]; rfl) q
theorem wo_ixT5 (q : Q f) : Wo (ixD (.tup (a :: b :: c :: d :: e :: f :: l)) (.int 5)) Q := .of (d := f) (by show L2.atI _ _ = _; unfold L2.atI L2.ixN; rw [if_pos (by decide), if_pos (by simp only [List.length_cons]; omega)]; rfl) q
theorem wo_ixT6 (q : Q g) : Wo (ixD (.tup (a :: b :: c :: d :: e :: f :: g :: l)) (.int 6)) Q := .of (d := g) (by show L2.atI _ _ = _; unfold L2.atI L2.ixN; rw [if_pos (by decide), if_pos (by simp only [List.length_cons]; omega)]; rfl) q
end
section
variable {Q : D → Prop} {S : Sto} {i j : Int} {xs ys : List D} {a b : Bool} {x y : Str} {d : D}
theorem vo_add (q : Q (.int (i + j))) : Wo (addD (view S (.int i)) (view S (.int j))) Q := wo_add q
theorem vo_sub (q : Q (.int (i - j))) : Wo (subD (view S (.int i)) (view S (.int j))) Q := wo_sub q
theorem vo_mod (h : 0 < j) (q : Q (.int (i % j))) : Wo (modD (view S (.int i)) (view S (.int j))) Q := wo_mod h q
theorem vo_div (h : 0 < j ∧ j < 1073741824) (q : Q (.int (i / j))) : Wo (divD (view S (.int i)) (view S (.int j))) Q := wo_div h q
theorem vo_mulR (h : -18446744073709551616 < j ∧ j < 18446744073709551616) (q : Q (.int (i * j))) : Wo (mulD (view S (.int i)) (view S (.int j))) Q := wo_mulR h q
theorem vo_mulL (h : -18446744073709551616 < i ∧ i < 18446744073709551616) (q : Q (.int (i * j))) : Wo (mulD (view S (.int i)) (view S (.int j))) Q := wo_mulL h q
theorem vo_lt (q : Q (.bl (decide (i < j)))) : Wo (ltD (view S (.int i)) (view S (.int j))) Q := wo_lt q
theorem vo_le (q : Q (.bl (decide (i ≤ j)))) : Wo (leD (view S (.int i)) (view S (.int j))) Q := wo_le q
theorem vo_gt (q : Q (.bl (decide (j < i)))) : Wo (gtD (view S (.int i)) (view S (.int j))) Q := wo_gt q
theorem vo_ge (q : Q (.bl (decide (j ≤ i)))) : Wo (geD (view S (.int i)) (view S (.int j))) Q := wo_ge q
theorem vo_eq (q : Q (.bl (decide (i = j)))) : Wo (eqD (view S (.int i)) (view S (.int j))) Q := wo_eq q
theorem vo_ne (q : Q (.bl (!decide (i = j)))) : Wo (neD (view S (.int i)) (view S (.int j))) Q := wo_ne q
theorem vo_eqB (q : Q (.bl (a == b))) : Wo (eqD (view S (.bl a)) (view S (.bl b))) Q := wo_eqB q
theorem vo_neB (q : Q (.bl (!(a == b)))) : Wo (neD (view S (.bl a)) (view S (.bl b))) Q := wo_neB q
theorem vo_eqS (q : Q (.bl (decide (x = y)))) : Wo (eqD (view S (.str x)) (view S (.str y))) Q := wo_eqS q
theorem vo_neS (q : Q (.bl (!decide (x = y)))) : Wo (neD (view S (.str x)) (view S (.str y))) Q := wo_neS q
theorem vo_neg (q : Q (.int (-i))) : Wo (negD (view S (.int i))) Q := wo_neg q
theorem vo_addT (h : xs.length + ys.length ≤ 16777216) (q : Q (.tup (xs ++ ys))) : Wo (addD (view S (.tup xs)) (view S (.tup ys))) Q := wo_addT h q
theorem vo_addL (h : xs.length + ys.length ≤ 16777216) (q : Q (.lst (xs ++ ys))) : Wo (addD (view S (.lst xs)) (view S (.lst ys))) Q := wo_addL h q
theorem vo_slT {l h : Option Int} (q : Q (.tup (cutD xs l h))) : Wo (slD (view S (.tup xs)) l h) Q := wo_slT q
theorem vo_slL {l h : Option Int} (q : Q (.lst (cutD xs l h))) : Wo (slD (view S (.lst xs)) l h) Q := wo_slL q
theorem vo_slS {ns : List Int} {l h : Option Int} (q : Q (.lst (cutD (ns.map .int) l h))) : Wo (slD (view S (.scr ns)) l h) Q := ⟨q⟩
theorem vo_lenT (q : Q (.int xs.length)) : Wo (lenD (List.map (view S) [.tup xs])) Q := wo_lenT q
theorem vo_lenL (q : Q (.int xs.length)) : Wo (lenD (List.map (view S) [.lst xs])) Q := wo_lenL q
theorem vo_tupL (q : Q (.tup xs)) : Wo (tupleD (List.map (view S) [.lst xs])) Q := wo_tupL q
theorem vo_tupT (q : Q (.tup xs)) : Wo (tupleD (List.map (view S) [.tup xs])) Q := wo_tupT q
theorem vo_lisL (q : Q (.lst xs)) : Wo (listD (List.map (view S) [.lst xs])) Q := wo_lisL q
theorem vo_lisT (q : Q (.lst xs)) : Wo (listD (List.map (view S) [.tup xs])) Q := wo_lisT q
theorem vo_lenS {ns : List Int} (q : Q (.int ns.length)) : Wo (lenD (List.map (view S) [.scr ns])) Q := ⟨q⟩
theorem vo_revT (q : Q (.tup xs.reverse)) : Wo (revD (view S (.tup xs))) Q := wo_revT q
theorem vo_revL (q : Q (.lst xs.reverse)) : Wo (revD (view S (.lst xs))) Q := wo_revL q
theorem vo_min (q : Q (.int (if j < i then j else i))) : Wo (min2D (List.map (view S) [.int i, .int j])) Q := wo_min q
theorem vo_max (q : Q (.int (if j > i then j else i))) : Wo (max2D (List.map (view S) [.int i, .int j])) Q := wo_max q
theorem vo_vwc {g : List D → Option D} {n : Nat} (h : S[n]? = some (some (.lst xs))) (q : Wo (g (List.map (view S) [.lst xs])) Q) : Wo (g (List.map (view S) [.ref n])) Q := by
  have e : List.map (view S) [.ref n] = List.map (view S) [.lst xs] := by simp only [List.map_cons, List.map_nil, view_at h]; rfl
  rw [e]; exact q
theorem vo_isi {t : PT} {z : D} {c : Bool} (h : t.isOf (view S z) = some c) (q : Q (.bl c)) : Wo (Option.map D.bl (t.isOf (view S z))) Q := by rw [h]; exact ⟨q⟩
theorem vo_isis {t : List PT} {z : D} {c : Bool} (h : isOfs t (view S z) = some c) (q : Q (.bl c)) : Wo (Option.map D.bl (isOfs t (view S z))) Q := by rw [h]; exact ⟨q⟩
variable {a0 a1 a2 a3 a4 a5 a6 : D} {l : List D}
theorem vo_ixL0 (q : Q a0) : Wo (ixD (view S (.lst (a0 :: l))) (view S (.int 0))) Q := wo_ixL0 q
theorem vo_ixL1 (q : Q a1) : Wo (ixD (view S (.lst (a0 :: a1 :: l))) (view S (.int 1))) Q := wo_ixL1 q
theorem vo_ixL2 (q : Q a2) : Wo (ixD (view S (.lst (a0 :: a1 :: a2 :: l))) (view S (.int 2))) Q := wo_ixL2 q
theorem vo_ixL3 (q : Q a3) : Wo (ixD (view S (.lst (a0 :: a1 :: a2 :: a3 :: l))) (view S (.int 3))) Q := wo_ixL3 q
theorem vo_ixL4 (q : Q a4) : Wo (ixD (view S (.lst (a0 :: a1 :: a2 :: a3 :: a4 :: l))) (view S (.int 4))) Q := wo_ixL4 q
theorem vo_ixL5 (q : Q a5) : Wo (ixD (view S (.lst (a0 :: a1 :: a2 :: a3 :: a4 :: a5 :: l))) (view S (.int 5))) Q := wo_ixL5 q
theorem vo_ixL6 (q : Q a6) : Wo (ixD (view S (.lst (a0 :: a1 :: a2 :: a3 :: a4 :: a5 :: a6 :: l))) (view S (.int 6))) Q := wo_ixL6 q
theorem vo_ixT0 (q : Q a0) : Wo (ixD (view S (.tup (a0 :: l))) (view S (.int 0))) Q := wo_ixT0 q
theorem vo_ixT1 (q : Q a1) : Wo (ixD (view S (.tup (a0 :: a1 :: l))) (view S (.int 1))) Q := wo_ixT1 q
theorem vo_ixT2 (q : Q a2) : Wo (ixD (view S (.tup (a0 :: a1 :: a2 :: l))) (view S (.int 2))) Q := wo_ixT2 q
theorem vo_ixT3 (q : Q a3) : Wo (ixD (view S (.tup (a0 :: a1 :: a2 :: a3 :: l))) (view S (.int 3))) Q := wo_ixT3 q
theorem vo_ixT4 (q : Q a4) : Wo (ixD (view S (.tup (a0 :: a1 :: a2 :: a3 :: a4 :: l))) (view S (.int 4))) Q := wo_ixT4 q
theorem vo_ixT5 (q : Q a5) : Wo (ixD (view S (.tup (a0 :: a1 :: a2 :: a3 :: a4 :: a5 :: l))) (view S (.int 5))) Q := wo_ixT5 q
theorem vo_ixT6 (q : Q a6) : Wo (ixD (view S (.tup (a0 :: a1 :: a2 :: a3 :: a4 :: a5 :: a6 :: l))) (view S (.int 6))) Q := wo_ixT6 q
end
theorem gApp {xs : List D} {d : D} (h : xs.length < 16777216) : gAppend xs [d] = some (xs ++ [d], .non) := if_pos (by rw [sizeLine_eq]; exact h)
theorem set_last {S : Sto} {x y : Option Ob} : (S ++ [x]).set S.length y = S ++ [y] := by simp [List.set_append]
theorem lst_some {S : Sto} {n : Nat} {xs : List D} (h : S[n]? = some (some (.lst xs))) : (lstOf S (.ref n)).isSome = true := by rw [lst_at h]; rfl
theorem len1 {α : Type} {l : List α} (h : l.length = 1) : ∃ a0, l = [a0] := match l, h with | [a0], _ => ⟨a0, rfl⟩
theorem len3 {α : Type} {l : List α} (h : l.length = 3) : ∃ a0 a1 a2, l = [a0, a1, a2] := match l, h with | [a0, a1, a2], _ => ⟨a0, a1, a2, rfl⟩
theorem len4 {α : Type} {l : List α} (h : l.length = 4) : ∃ a0 a1 a2 a3, l = [a0, a1, a2, a3] := match l, h with | [a0, a1, a2, a3], _ => ⟨a0, a1, a2, a3, rfl⟩
theorem len6 {α : Type} {l : List α} (h : l.length = 6) : ∃ a0 a1 a2 a3 a4 a5, l = [a0, a1, a2, a3, a4, a5] := match l, h with | [a0, a1, a2, a3, a4, a5], _ => ⟨a0, a1, a2, a3, a4, a5, rfl⟩
section
variable {Q : D → Prop} {S : Sto} {i j : Int}
theorem vo_igAdd (q : Q (.int (i + j))) : Wo (igAdd (view S (.int i)) (view S (.int j))) Q := ⟨q⟩
theorem vo_igMulR (h : -18446744073709551616 < j ∧ j < 18446744073709551616) (q : Q (.int (i * j))) : Wo (igMul (view S (.int i)) (view S (.int j))) Q := .of (if_pos (.inr h)) q
theorem vo_igMulL (h : -18446744073709551616 < i ∧ i < 18446744073709551616) (q : Q (.int (i * j))) : Wo (igMul (view S (.int i)) (view S (.int j))) Q := .of (if_pos (.inl h)) q
end
theorem fq_rt {Q : D → Sto → Prop} {d : D} {S : Sto} (h : Q d S) : fnQ Q (.rt d) S := h
theorem fq_nx {Q : D → Sto → Prop} {ρ : Ev} {S : Sto} (h : Q .non S) : fnQ Q (.nx ρ) S := h
end DL
set_option Elab.async false
set_option linter.all false
set_option maxRecDepth 100000
set_option maxHeartbeats 4000000
namespace DL
open PySem PySem.Spec PyProof.Rows L2
end DL
set_option Elab.async false
set_option linter.all false
set_option maxRecDepth 100000
set_option maxHeartbeats 4000000
namespace DL
open PySem PySem.Spec PyProof.Rows L2
def frzO (S : Sto) (o : Option D) : Option D := match o with
  | some d => if noRef (frzD S d) = true then some (frzD S d) else none
  | none => none
def frzE (S : Sto) (ρ : Ev) : Ev := ρ.map (frzO S)
section
variable {K : PySem.W.Frag} {mg : Str → Option Value} {H : Hp} {m : List Addr} {B : Addr → Prop} {S : Sto} {σ : L2.St} {ρ : Ev}
theorem RepE.frz (r : Rl K mg B m H S) (h : RepE K H (Fo B m S) m σ ρ) : RepE K H (Fo (fun _ => False) [] []) [] σ (frzE S ρ) := by
  refine ⟨by simp [frzE, h.1], fun i d e => ?_⟩
  unfold frzE at e
  rw [List.getElem?_map] at e
  obtain ⟨o, e1, e2⟩ := Option.map_eq_some_iff.mp e
  cases o with
  | none => simp [frzO] at e2
  | some d0 =>
    unfold frzO at e2
    dsimp only at e2
    split at e2
    · rename_i hn
      cases e2
      obtain ⟨v, ev, rv⟩ := h.2 i d0 e1
      have e0 : ∀ a, Fo (fun _ => False) [] [] a → False := fun a z => z.elim id fun ⟨n, o, e1, e2⟩ => by simp at e1
      exact ⟨v, ev, (Rep.frzD r rv hn).noRef (fun a z => e0 a z) hn⟩
    · cases e2
end
end DL
set_option Elab.async false
set_option linter.all false
set_option maxRecDepth 100000
set_option maxHeartbeats 4000000
namespace DL
open PySem PySem.Spec PyProof.Rows L2
end DL
set_option Elab.async false
set_option linter.all false
set_option maxRecDepth 100000
set_option maxHeartbeats 4000000
namespace DL
open PySem PySem.Spec PyProof.Rows L2
def isBD (a b : D) : Option D := match a, b with
  | .bl x, .bl y => some (.bl (x == y))
  | _, _ => none
def isntBD (a b : D) : Option D := match a, b with
  | .bl x, .bl y => some (.bl (!(x == y)))
  | _, _ => none
section
variable {X : Cx}
theorem og_isB : OpR X (compareOp .Is) (rG2 X.K isBD) := by
  intro pins s σ H x y v u Q I rx ry ⟨Fb, m, dx, dy, d, fr, vx, vy, e, k⟩
  unfold isBD at e
  split at e
  · cases e
    cases vx.asB
    cases vy.asB
    exact op_isBl pins s σ H _ _ v u Q I rx ry ⟨_, _, rfl, rfl, k H _ (Same.refl H) (.bl _)⟩
  · cases e
theorem og_isntB : OpR X (compareOp .IsNot) (rG2 X.K isntBD) := by
  intro pins s σ H x y v u Q I rx ry ⟨Fb, m, dx, dy, d, fr, vx, vy, e, k⟩
  unfold isntBD at e
  split at e
  · cases e
    cases vx.asB
    cases vy.asB
    exact op_notBl pins s σ H _ _ v u Q I rx ry ⟨_, _, rfl, rfl, k H _ (Same.refl H) (.bl _)⟩
  · cases e
end
end DL
set_option Elab.async false
set_option linter.all false
set_option maxRecDepth 100000
set_option maxHeartbeats 4000000
namespace DL
open PySem PySem.Spec PyProof.Rows L2
def eDNew : Ex := fun _ S => .ok (.ref S.length) (S ++ [some (.dic false [])])
def isDc : D → Bool
  | .dic false _ => true
  | _ => false
def getD2 (d k z : D) : Option D := match d with
  | .dic false kvs => (unK k).map fun kk => (valD kvs kk).getD z
  | _ => none
def eGet2 (o k x : Ex) : Ex := fun ρ S => (o ρ S).bind fun d S => if isDc (view S d) = true then (k ρ S).bind fun y S => (x ρ S).bind fun z S => ans S (getD2 (view S d) y z) else .bad
section
variable {X : Cx} {W : WX} {o e f : Expr} {fo fe ff : Ex} {pos apos cpos tpos : Pos}
theorem ev_dnew : EV X W (.Dict [] [] pos) eDNew := by
  refine pe_imp pe_dnewK fun σ H Q ⟨B, m, ρ, S, r, re, f⟩ p hp => ?_
  exact f (m ++ [p]) _ _ (Post.new r hp (.dK (kv := []) upd_same (Nat.zero_le _) rfl .nil)) (rep_new r)
def sAugIx (g : D → D → Option D) (o i e : Ex) : Sx := fun ρ S => (o ρ S).bindS ρ fun d S => (i ρ S).bindS ρ fun k S => match dgetD (view S d) k with
  | some x => (e ρ S).bindS ρ fun y S => match g (view S x) (view S y) with
    | some z => match putAtD S d k z with
      | some S' => .fl (.nx ρ) S'
      | none => .bad
    | none => .bad
  | none => .bad
def iVals (e : Ex) : Ix := fun ρ S => (e ρ S).bind fun d S => match d with
  | .dic false kvs => .ok (kvs.map (·.2)) S
  | _ => .bad
def iItems (e : Ex) : Ix := fun ρ S => (e ρ S).bind fun d S => match d with
  | .dic false kvs => .ok (kvs.map fun p => .tup [p.1, p.2]) S
  | _ => .bad
end
end DL
set_option Elab.async false
set_option linter.all false
set_option maxRecDepth 100000
set_option maxHeartbeats 4000000
namespace DL
open PySem PySem.Spec PyProof.Rows L2
def isI (ns : List Int) : List Int := ns.mergeSort fun a b => decide (a ≤ b)
theorem isI_perm (ns : List Int) : (isI ns).Perm ns := List.mergeSort_perm _ _
theorem isI_pw (ns : List Int) : (isI ns).Pairwise (· ≤ ·) := by
  have := List.pairwise_mergeSort (le := fun a b : Int => decide (a ≤ b)) (fun a b c h1 h2 => by simp at *; omega) (fun a b => by simp; omega) ns
  exact this.imp fun h => of_decide_eq_true h
theorem isI_uniq {ns ms : List Int} (h : ms.Perm ns) (hs : ms.Pairwise (· ≤ ·)) : ms = isI ns :=
  List.Perm.eq_of_pairwise (fun a b _ _ h1 h2 => Int.le_antisymm h1 h2) hs (isI_pw ns) (h.trans (isI_perm ns).symm)
theorem isI_len (ns : List Int) : (isI ns).length = ns.length := (isI_perm ns).length_eq
def sortD : List D → Option D
  | [.lst xs] => (asIs xs).map fun ns => .lst ((isI ns).map .int)
  | [.dic false kvs] => if kvs.length < 64 then (asIs (kvs.map (·.1))).map fun ns => .lst ((isI ns).map .int) else none
  | _ => none
section
variable {X : Cx}
theorem cg_sorted (hc : X.calm = true) : CallR X (.builtin "sorted") (rGn X.K sortD) := by
  intro pins s σ H xs us Q I r ⟨Fb, m, ds, d, fr, vx, e, k⟩
  unfold sortD at e
  split at e
  · rename_i ys
    obtain ⟨ns, e1, rfl⟩ := Option.map_eq_some_iff.mp e
    obtain ⟨v, rfl, h⟩ := vx.one
    obtain ⟨a, vs, rfl, h1, z1, q1⟩ := h.asL
    have hv : vs = ns.map V.int := asIs_vals e1 q1
    subst hv
    refine cr_sortedI pins s σ H _ us Q I r ⟨a, ns, rfl, SqL.of h1, fun ns' p h2 h3 hp => ?_⟩
    have := isI_uniq h2 h3
    subst this
    refine k _ _ (same_upd hp) (.lst upd_same (fr p hp) ?_ (repA_ints _))
    have := q1.length
    have := isI_len ns
    simp only [List.length_map] at *
    omega
  · rename_i kvs
    split at e
    · rename_i h64
      obtain ⟨ns, e1, rfl⟩ := Option.map_eq_some_iff.mp e
      obtain ⟨v, rfl, h⟩ := vx.one
      obtain ⟨a, kv, rfl, h1, z1, q1⟩ := h.asD
      have hk := asIs_eq e1
      rw [q1.keys] at hk
      have hk2 : kv.map (·.1) = ns.map Sum.inl := by
        have : (kv.map (·.1)).map keyD = (ns.map Sum.inl).map keyD := by
          rw [List.map_map, List.map_map]
          exact hk
        exact (List.map_inj_right fun a b h => by cases a <;> cases b <;> simp [keyD] at h <;> simp [h]).mp this
      have hl : ns.length = kvs.length := by
        have := congrArg List.length hk
        simp only [List.length_map] at this
        rw [← this, q1.length]
      refine call_sortedDI hc pins s σ H _ us Q I r ⟨a, kv, ns, rfl, h1, hk2, by omega, fun ys p h2 h3 hp => ?_⟩
      have := isI_uniq h2 h3
      subst this
      refine k _ _ (same_upd hp) (.lst upd_same (fr p hp) ?_ (repA_ints _))
      have := isI_len ns
      simp only [List.length_map]
      rw [sizeLine_eq]
      omega
    · cases e
  · cases e
end
def notNon : PyData → Bool
  | .none => false
  | _ => true
def cmpP (x y : D) : Option (PyData × PyData) := (toP x).bind fun p => (toP y).bind fun q => if PySem.W.alike p q = true ∧ notNon p = true ∧ p.depth ≤ 40 then some (p, q) else none
def ltXD : D → D → Option D
  | .int i, .int j => some (.bl (decide (i < j)))
  | x, y => (cmpP x y).map fun z => .bl (PySem.W.dataLt z.1 z.2)
theorem lt_tup0 : PySem.W.dataLt (.tuple []) (.tuple []) = false := by rw [PySem.W.dataLt_tuple]; exact PyProof.Rows.lex_irrefl _
theorem lt_tupI (a b : Int) (xs ys : List PyData) : PySem.W.dataLt (.tuple (.int a :: xs)) (.tuple (.int b :: ys)) = (decide (a < b) || (decide (a = b) && PySem.W.dataLt (.tuple xs) (.tuple ys))) := by
  have ha : PySem.W.alike (.int a) (.int b) = true := by simp [PySem.W.alike]
  rw [PySem.W.dataLt_tuple, PySem.W.dataLt_tuple]
  by_cases h : a = b
  · subst h
    rw [PySem.W.dataLt_all_yes ha (by simp [PyData.eqv])]
    simp
  · rw [PySem.W.dataLt_all_no ha (by simp [PyData.eqv, h]), PySem.W.dataLt_int]
    simp [h]
end DL
set_option Elab.async false
set_option linter.all false
set_option maxRecDepth 100000
set_option maxHeartbeats 4000000
namespace DL
open PySem PySem.Spec PyProof.Rows L2
mutual
inductive Dq (K : PySem.W.Frag) (H : Hp) : V → PyData → Prop
  | non : Dq K H .non .none
  | bl (b : Bool) : Dq K H (.bl b) (.bool b)
  | int (i : Int) : Dq K H (.int i) (.int i)
  | str (x : Str) : Dq K H (.str x) (.str x)
  | lst {a : Addr} {xs : List V} {ds : List PyData} : SqL K H a xs → DqAll K H xs ds → Dq K H (.ref a) (.list ds)
  | tup {a : Addr} {xs : List V} {ds : List PyData} : SqT K H a xs → DqAll K H xs ds → Dq K H (.ref a) (.tuple ds)
  | dic {a : Addr} {kv : List (Key × V)} {kvs : List (PyData × PyData)} : Rd H a (.dK kv) → DqAll K H (kv.map fun p => kV p.1) (kvs.map (·.1)) → DqAll K H (kv.map (·.2)) (kvs.map (·.2)) → Dq K H (.ref a) (.dict kvs)
inductive DqAll (K : PySem.W.Frag) (H : Hp) : List V → List PyData → Prop
  | nil : DqAll K H [] []
  | cons {v : V} {vs : List V} {d : PyData} {ds : List PyData} : Dq K H v d → DqAll K H vs ds → DqAll K H (v :: vs) (d :: ds)
end
/-- sys.modules stands in the written part -/
def sysB (K : PySem.W.Frag) : Bool := match K.lookup sysModules with
  | some ⟨.type c, _, _, _⟩ => decide (c = "dict")
  | _ => false
section
variable {X : Cx} {pins : List (Addr × Obj)} {σ : L2.St} {H : Hp} {s : Shared}
theorem sys_none (I : Inv X pins σ H s) (h : sysB X.K = true) : H sysModules = none ∧ ∃ o, s.heap.get? sysModules = some o ∧ o.cls = .type "dict" := by
  unfold sysB at h
  split at h
  · rename_i c d dt sl e
    have h1 := I.mod.kin _ _ e
    exact ⟨(I.bs _ _ h1).2, _, (I.bs _ _ h1).1, by rw [of_decide_eq_true h]⟩
  · cases h
theorem sys_list (I : Inv X pins σ H s) (h : sysB X.K = true) {a : Addr} {xs : List V} (q : SqL X.K H a xs) : sysModules ≠ a := by
  rintro rfl
  obtain ⟨h1, o, h2, h3⟩ := sys_none I h
  obtain ⟨its, rv, hl, hz⟩ := I.list q
  obtain ⟨o', n, e1, e2, _⟩ := hl
  rw [h2] at e1
  cases e1
  rw [h3] at e2
  injection e2 with e2
  exact absurd e2 (by decide)
mutual
theorem Dq.reads (I : Inv X pins σ H s) (hs : sysB X.K = true) : ∀ {v : V} {d : PyData} {u : Value}, Dq X.K H v d → RelV v u → ∃ as, Reads s.heap u d as ∧ sysModules ∉ as
  | _, _, _, .non, r => by cases r; exact ⟨_, .none, by simp⟩
  | _, _, _, .bl b, r => by cases r; exact ⟨_, .bool b, by simp⟩
  | _, _, _, .int i, r => by obtain ⟨t, rfl⟩ := r; exact ⟨_, .int i t, by simp⟩
  | _, _, _, .str x, r => by obtain ⟨t, rfl⟩ := r; exact ⟨_, .str x t, by simp⟩
  | _, _, _, .lst hq ha, r => by
    cases r
    obtain ⟨its, rv, ⟨o, n, ho, hc, _, hd⟩, _⟩ := I.list hq
    obtain ⟨as, hr, hn⟩ := DqAll.reads I hs ha rv
    refine ⟨_, Reads.list ho hc hd hr, ?_⟩
    simp only [List.mem_cons, not_or]
    exact ⟨sys_list I hs hq, hn⟩
  | _, _, _, .tup hq ha, r => by
    cases r
    obtain ⟨its, rv, ⟨o, ho, hc, n, hd⟩, _⟩ := I.tuple hq
    obtain ⟨as, hr, hn⟩ := DqAll.reads I hs ha rv
    exact ⟨_, Reads.tuple ho hc hd hr, hn⟩
  | _, _, _, .dic (a := a) (kv := kv) hq hk hv, r => by
    obtain rfl : _ = Value.ref a := r
    obtain ⟨z, hne, vs, rel, o, es, ep, h1, h2, h3, h4, h5, h6⟩ := dk_rd I.hok hq
    have r1 : Vals (kv.map fun p => kV p.1) (es.toList.map (·.key)) := by
      have : ∀ {kv : List (Key × V)} {vs : List (Key × Value)} {es : List DictEntry}, KV kv vs → Pairs (mixKind X.prog X.w) es vs → Vals (kv.map fun p => kV p.1) (es.map (·.key)) := by
        intro kv vs es a b
        induction a generalizing es with
        | nil => cases b; exact .nil
        | cons hp _ ih =>
          cases b with
          | cons b1 b2 b3 =>
            refine .cons ?_ (ih b3)
            show L2.RelV (kV _) _
            rw [hp.1]
            exact relV_key b1
      exact this rel h5
    have r2 : Vals (kv.map (·.2)) (es.toList.map (·.val)) := by
      have : ∀ {kv : List (Key × V)} {vs : List (Key × Value)} {es : List DictEntry}, KV kv vs → Pairs (mixKind X.prog X.w) es vs → Vals (kv.map (·.2)) (es.map (·.val)) := by
        intro kv vs es a b
        induction a generalizing es with
        | nil => cases b; exact .nil
        | cons hp _ ih =>
          cases b with
          | cons b1 b2 b3 =>
            refine .cons ?_ (ih b3)
            exact (congrArg (fun z => L2.RelV _ z) b2).mpr hp.2
      exact this rel h5
    obtain ⟨as, q1, n1⟩ := DqAll.reads I hs hk r1
    obtain ⟨bs, q2, n2⟩ := DqAll.reads I hs hv r2
    refine ⟨_, Reads.dict h1 h2.1 h3 q1 q2, ?_⟩
    simp only [List.cons_append, List.mem_cons, List.mem_append, not_or]
    exact ⟨fun e => by rw [← e] at hne; simp at hne, n1, n2⟩
theorem DqAll.reads (I : Inv X pins σ H s) (hs : sysB X.K = true) : ∀ {vs : List V} {ds : List PyData} {us : List Value}, DqAll X.K H vs ds → Vals vs us → ∃ as, ReadsAll s.heap us ds as ∧ sysModules ∉ as
  | _, _, _, .nil, r => by cases r; exact ⟨_, .nil, by simp⟩
  | _, _, _, .cons h1 h2, r => by
    cases r with
    | cons r1 r2 =>
      obtain ⟨as, q1, n1⟩ := Dq.reads I hs h1 r1
      obtain ⟨bs, q2, n2⟩ := DqAll.reads I hs h2 r2
      exact ⟨_, .cons q1 q2, by simp only [List.mem_append, not_or]; exact ⟨n1, n2⟩⟩
end
end
def keyP : D → Option PyData
  | .int i => some (.int i)
  | .str x => some (.str x)
  | _ => none
mutual
/-- as data, the places read by r -/
def toQr (r : Nat → Option PyData) : D → Option PyData
  | .non => some .none
  | .bl b => some (.bool b)
  | .int i => some (.int i)
  | .str x => some (.str x)
  | .tup xs => (toQrs r xs).map .tuple
  | .lst xs => (toQrs r xs).map .list
  | .dic false kvs => (toQrk r kvs).map .dict
  | .ref n => r n
  | _ => none
def toQrs (r : Nat → Option PyData) : List D → Option (List PyData)
  | [] => some []
  | d :: ds => match toQr r d, toQrs r ds with
    | some p, some ps => some (p :: ps)
    | _, _ => none
def toQrk (r : Nat → Option PyData) : List (D × D) → Option (List (PyData × PyData))
  | [] => some []
  | (k, d) :: ds => match keyP k, toQr r d, toQrk r ds with
    | some q, some p, some ps => some ((q, p) :: ps)
    | _, _, _ => none
end
def rdQ (S : Sto) (n : Nat) : Option PyData := match S[n]? with
  | some (some (.lst xs)) => (toQrs (fun _ => none) xs).map .list
  | some (some (.dic false kvs)) => (toQrk (fun _ => none) kvs).map .dict
  | _ => none
def toQ (S : Sto) : D → Option PyData := toQr (rdQ S)
def reprQ (S : Sto) (d : D) : Option D := (toQ S d).bind fun p => if showsD p = true then some (.str p.shown) else none
def eReprQ (f : Ex) : Ex := fun ρ S => (f ρ S).bind fun d S => ans S (reprQ S d)
section
variable {K : PySem.W.Frag} {H : Hp} {Fb : Addr → Prop} {m : List Addr}
theorem key_dq {v : V} {d : D} {k : Key} {p : PyData} (e1 : d = keyD k) (e2 : keyP d = some p) : Dq K H (kV k) p := by
  subst e1
  cases k <;> cases e2
  · exact .int _
  · exact .str _
theorem keys_dq {r : Nat → Option PyData} : ∀ {kv : List (Key × V)} {kvs : List (D × D)} {ps : List (PyData × PyData)}, kvs.map (·.1) = kv.map (fun p => keyD p.1) → toQrk r kvs = some ps → DqAll K H (kv.map fun p => kV p.1) (ps.map (·.1))
  | [], [], ps, _, e => by simp [toQrk] at e; subst e; exact .nil
  | [], _ :: _, _, h, _ => by simp at h
  | _ :: _, [], _, h, _ => by simp at h
  | (k, v) :: kv, (x, d) :: kvs, ps, h, e => by
    simp only [List.map_cons, List.cons.injEq] at h
    cases e0 : keyP x with
    | none => simp [toQrk, e0] at e
    | some kp =>
      cases e1 : toQr r d with
      | none => simp [toQrk, e0, e1] at e
      | some p =>
        cases e2 : toQrk r kvs with
        | none => simp [toQrk, e0, e1, e2] at e
        | some ps' =>
          simp [toQrk, e0, e1, e2] at e
          subst e
          exact .cons (key_dq (v := v) h.1 e0) (keys_dq h.2 e2)
mutual
theorem Rep.dq {r : Nat → Option PyData} (hr : ∀ n v p, Rep K H Fb m v (.ref n) → r n = some p → Dq K H v p) : ∀ {v : V} {d : D} {p : PyData}, Rep K H Fb m v d → toQr r d = some p → Dq K H v p
  | _, _, _, .non, e => by simp [toQr] at e; subst e; exact .non
  | _, _, _, .bl b, e => by simp [toQr] at e; subst e; exact .bl b
  | _, _, _, .int i, e => by simp [toQr] at e; subst e; exact .int i
  | _, _, _, .str x, e => by simp [toQr] at e; subst e; exact .str x
  | _, _, _, .tup (ds := ds) h z q, e => by
    cases e1 : toQrs r ds with
    | none => simp [toQr, e1] at e
    | some ps => simp [toQr, e1] at e; subst e; exact .tup h (RepA.dq hr q e1)
  | _, _, _, .lst (ds := ds) h f z q, e => by
    cases e1 : toQrs r ds with
    | none => simp [toQr, e1] at e
    | some ps => simp [toQr, e1] at e; subst e; exact .lst (SqL.of h) (RepA.dq hr q e1)
  | _, _, _, .dK (kv := kv) (kvs := kvs) h z e0 q, e => by
    cases e1 : toQrk r kvs with
    | none => simp [toQr, e1] at e
    | some ps =>
      simp [toQr, e1] at e
      subst e
      have := RepA.dqk hr q kvs rfl e1
      exact .dic (.inr h) (keys_dq e0 e1) this
  | _, _, _, .dT h z q r', e => by simp [toQr] at e
  | _, _, _, .ref h, e => by simp only [toQr] at e; exact hr _ _ _ (.ref h) e
  | _, _, _, .raw v, e => by simp [toQr] at e
  | _, _, _, .scr h z, e => by simp [toQr] at e
  | _, _, _, .exn h f, e => by simp [toQr] at e
  | _, _, _, .exp h f h2 f2 n r, e => by simp [toQr] at e
theorem RepA.dq {r : Nat → Option PyData} (hr : ∀ n v p, Rep K H Fb m v (.ref n) → r n = some p → Dq K H v p) : ∀ {vs : List V} {ds : List D} {ps : List PyData}, RepA K H Fb m vs ds → toQrs r ds = some ps → DqAll K H vs ps
  | _, _, _, .nil, e => by simp [toQrs] at e; subst e; exact .nil
  | _, _, _, .cons (d := d) (ds := ds) h q, e => by
    cases e1 : toQr r d with
    | none => simp [toQrs, e1] at e
    | some p =>
      cases e2 : toQrs r ds with
      | none => simp [toQrs, e1, e2] at e
      | some ps => simp [toQrs, e1, e2] at e; subst e; exact .cons (Rep.dq hr h e1) (RepA.dq hr q e2)
theorem RepA.dqk {r : Nat → Option PyData} (hr : ∀ n v p, Rep K H Fb m v (.ref n) → r n = some p → Dq K H v p) : ∀ {vs : List V} {ds : List D}, RepA K H Fb m vs ds → ∀ (kvs : List (D × D)) {ps : List (PyData × PyData)}, ds = kvs.map (·.2) → toQrk r kvs = some ps → DqAll K H vs (ps.map (·.2))
  | _, _, .nil, kvs, ps, ed, e => by
    cases kvs with
    | nil => simp [toQrk] at e; subst e; exact .nil
    | cons _ _ => simp at ed
  | _, _, .cons (d := d) (ds := ds) h q, kvs, ps, ed, e => by
    cases kvs with
    | nil => simp at ed
    | cons kd kvs =>
      obtain ⟨k, d'⟩ := kd
      simp only [List.map_cons, List.cons.injEq] at ed
      obtain ⟨ed1, ed2⟩ := ed
      rw [toQrk, ← ed1] at e
      cases e0 : keyP k with
      | none => simp [e0] at e
      | some kp =>
        cases e1 : toQr r d with
        | none => simp [e0, e1] at e
        | some p =>
          cases e2 : toQrk r kvs with
          | none => simp [e0, e1, e2] at e
          | some ps' => simp [e0, e1, e2] at e; subst e; exact .cons (Rep.dq hr h e1) (RepA.dqk hr q kvs ed2 e2)
end
theorem rdQ_ok {mg : Str → Option Value} {B : Addr → Prop} {S : Sto} (rl : Rl K mg B m H S) : ∀ n v p, Rep K H (Fo B m S) m v (.ref n) → rdQ S n = some p → Dq K H v p := by
  intro n v p h e
  have h0 : ∀ n v p, Rep K H (Fo B m S) m v (.ref n) → (fun _ => none : Nat → Option PyData) n = some p → Dq K H v p := fun _ _ _ _ z => by cases z
  unfold rdQ at e
  cases h with
  | ref hn =>
    split at e
    · rename_i xs ex
      cases e1 : toQrs (fun _ => none) xs with
      | none => rw [e1] at e; cases e
      | some ps =>
        rw [e1] at e
        cases e
        cases rl.obj _ _ _ hn ex with
        | lst h z q => exact .lst (SqL.of h) (q.dq h0 e1)
    · rename_i kvs ex
      cases e1 : toQrk (fun _ => none) kvs with
      | none => rw [e1] at e; cases e
      | some ps =>
        rw [e1] at e
        cases e
        cases rl.obj _ _ _ hn ex with
        | dK h z e0 q => exact .dic (.inl h) (keys_dq e0 e1) (q.dqk h0 kvs rfl e1)
    · cases e
end
def rReprQ (K : PySem.W.Frag) : List V → Hp → VK → Prop := fun xs H Q => ∃ v p, xs = [v] ∧ Dq K H v p ∧ showsD p = true ∧ Q (.str p.shown) H
section
variable {X : Cx} {W : WX} {k : Nat}
theorem call_reprQ (hsy : sysB X.K = true) (hr : DL.Room k X.A) : CallR X (.builtin "repr") (rReprQ X.K) := by
  intro pins s σ H xs us Q I r ⟨v, p, e, hp, hs, q⟩
  subst e
  obtain ⟨u, rfl, rv⟩ := vals1 r
  have h1 := Bool.and_eq_true_iff.mp hs
  have h2 := Bool.and_eq_true_iff.mp h1.1
  have hd := of_decide_eq_true h2.2
  have hz := of_decide_eq_true h1.2
  have hz' : p.shown.length ≤ sizeLine := by rw [sizeLine_eq]; omega
  have hun := hr.r.un
  obtain ⟨as0, rd0, ns0⟩ := Dq.reads I hsy hp rv
  have big : ∀ a, u = .ref a → wpAny (model X.prog X.w) X.A (call (.builtin "repr") [u]) (EP X pins σ Q) X.xe s := by
    rintro a rfl
    exact repr_of_reads' rd0 h2.1 (fun _ => ns0) hr.g (by omega) (fun _ _ z => z) (fun h' t tk kp => ⟨.str p.shown, H, I.kept kp, ⟨_, rfl⟩, q⟩) hz'
  cases hp with
  | non =>
    cases rv
    exact PySem.P.repr_of_none ⟨.str "None", H, I.tok _, ⟨_, rfl⟩, q⟩
  | bl b =>
    cases rv
    exact PySem.P.repr_of_bool ⟨.str _, H, I.tok _, ⟨_, rfl⟩, q⟩
  | int i =>
    obtain ⟨t, rfl⟩ := rv
    exact PySem.P.repr_of_int (by simpa [PyData.showable] using h2.1) ⟨.str _, H, I.tok _, ⟨_, rfl⟩, q⟩
  | str x =>
    obtain ⟨t, rfl⟩ := rv
    exact PySem.P.repr_of_str (hsz := hz') ⟨.str _, H, I.tok _, ⟨_, rfl⟩, q⟩
  | lst _ _ => exact big _ rv
  | tup _ _ => exact big _ rv
  | dic _ _ _ => exact big _ rv
theorem ev_reprQ {e : Expr} {fe : Ex} {p pos : Pos} (hsy : sysB X.K = true) (hr : DL.Room k X.A) (hg : Gl X "repr") (hm : X.mg "repr" = none) (he : EV X W e fe) (hv : bootBuiltins "repr" = some (.builtin "repr") := by decide +kernel)
    (hs : starEach [e] X.env = (false, eval e X.env) :: starEach [] X.env := by rfl) (hpl : (backTo pos (starEach [] X.env)).any (·.1) = false := by rfl) : EV X W (.Call (.Name "repr" p) [e] [] pos) (eReprQ fe) := by
  refine pe_imp (pe_callB (call_reprQ hsy hr) hg hm hv (pa_cons he pa_nil hs) (by decide) (by decide) hs hpl) fun σ H Q h => ?_
  obtain ⟨B, m, ρ, S, r, re, f⟩ := up_one (g := fun x ρ S => ans S (reprQ S x)) h
  refine ⟨B, m, ρ, S, r, re, f.mono fun v H1 => ?_⟩
  rintro ⟨B, m, ρ, S, dx, r, re, rx, f⟩
  cases e1 : toQ S dx with
  | none => simp [reprQ, e1] at f; exact f.elim
  | some p =>
    by_cases hs : showsD p = true
    · simp only [reprQ, e1, Option.bind, hs, if_true] at f
      exact ⟨v, p, rfl, Rep.dq (rdQ_ok r) rx e1, hs, f m H1 _ (Post.refl r) (.str _)⟩
    · simp only [reprQ, e1, Option.bind, if_neg hs] at f
      exact f.elim
end
mutual
def smP : PyData → Bool
  | .none => true
  | .bool _ => true
  | .int i => decide (i.natAbs < 10 ^ 50)
  | .str _ => true
  | .tuple xs => smPs xs
  | .list xs => smPs xs
  | .dict kvs => smPk kvs
def smPs : List PyData → Bool
  | [] => true
  | d :: ds => smP d && smPs ds
def smPk : List (PyData × PyData) → Bool
  | [] => true
  | (k, d) :: ds => smP k && smP d && smPk ds
end
mutual
def wtP : PyData → Nat
  | .tuple xs => 1 + wtPs xs
  | .list xs => 1 + wtPs xs
  | .dict kvs => 1 + wtPk kvs
  | .str x => 1 + (reprText x).length / 15
  | _ => 1
def wtPs : List PyData → Nat
  | [] => 0
  | d :: ds => wtP d + wtPs ds
def wtPk : List (PyData × PyData) → Nat
  | [] => 0
  | (k, d) :: ds => wtP k + wtP d + wtPk ds
end
mutual
theorem small_P : ∀ p : PyData, smP p = true → p.showable = true ∧ p.depth ≤ wtP p ∧ p.shown.length + 2 ≤ 64 * wtP p
  | .none, _ => ⟨by simp [PyData.showable], by simp [PyData.depth, wtP], by simp only [PyData.shown, wtP]; decide⟩
  | .bool b, _ => ⟨by simp [PyData.showable], by simp [PyData.depth, wtP], by cases b <;> simp only [PyData.shown, wtP] <;> decide⟩
  | .int i, h => by
    have hi : i.natAbs < 10 ^ 50 := of_decide_eq_true h
    refine ⟨?_, by simp [PyData.depth, wtP], ?_⟩
    · simp only [PyData.showable]
      exact decide_eq_true (log2_small hi)
    · have h3 := int_text_length_le10 (k := 50) (by decide) hi
      have h4 : (PyData.shown (.int i)).length = (toString i).length := by
        show (Str.ofString (toString i)).length = _
        rw [PySem.ofString_length]
      simp only [wtP]
      omega
  | .str x, h => by
    refine ⟨by simp [PyData.showable], by simp [PyData.depth, wtP], ?_⟩
    simp only [PyData.shown, wtP]
    omega
  | .tuple ps, h => by
    obtain ⟨h1, h2, h3⟩ := small_Ps ps h
    have := tupleText_len_le (PyData.shownAll ps)
    have hl := PyData.shownAll_length ps
    refine ⟨by simpa [PyData.showable] using h1, by simp only [PyData.depth, wtP]; omega, ?_⟩
    simp only [PyData.shown, wtP]
    omega
  | .list ps, h => by
    obtain ⟨h1, h2, h3⟩ := small_Ps ps h
    have := listText_len_le (PyData.shownAll ps)
    have hl := PyData.shownAll_length ps
    refine ⟨by simpa [PyData.showable] using h1, by simp only [PyData.depth, wtP]; omega, ?_⟩
    simp only [PyData.shown, wtP]
    omega
  | .dict ps, h => by
    obtain ⟨h1, h2, h3⟩ := small_Pk ps h
    have := dictText_len_le (PyData.shownKv ps)
    refine ⟨by simpa [PyData.showable] using h1, by simp only [PyData.depth, wtP]; omega, ?_⟩
    simp only [PyData.shown, wtP]
    omega
theorem small_Ps : ∀ ps : List PyData, smPs ps = true → PyData.showableAll ps = true ∧ PyData.depthAll ps ≤ wtPs ps ∧ ((PyData.shownAll ps).map (·.length)).sum + 2 * ps.length ≤ 64 * wtPs ps
  | [], _ => ⟨by simp [PyData.showableAll], by simp [PyData.depthAll, wtPs], by simp [PyData.shownAll, wtPs]⟩
  | p :: ps, h => by
    simp only [smPs, Bool.and_eq_true] at h
    obtain ⟨a1, a2, a3⟩ := small_P p h.1
    obtain ⟨b1, b2, b3⟩ := small_Ps ps h.2
    refine ⟨by simp [PyData.showableAll, a1, b1], by simp only [PyData.depthAll, wtPs]; omega, ?_⟩
    simp only [PyData.shownAll, List.map_cons, List.sum_cons, List.length_cons, wtPs]
    omega
theorem small_Pk : ∀ ps : List (PyData × PyData), smPk ps = true → PyData.showableKv ps = true ∧ PyData.depthKv ps ≤ wtPk ps ∧ ((PyData.shownKv ps).map (·.length)).sum + 2 * (PyData.shownKv ps).length ≤ 64 * wtPk ps
  | [], _ => ⟨by simp [PyData.showableKv], by simp [PyData.depthKv, wtPk], by simp [PyData.shownKv, wtPk]⟩
  | (k, p) :: ps, h => by
    simp only [smPk, Bool.and_eq_true] at h
    obtain ⟨a1, a2, a3⟩ := small_P k h.1.1
    obtain ⟨c1, c2, c3⟩ := small_P p h.1.2
    obtain ⟨b1, b2, b3⟩ := small_Pk ps h.2
    refine ⟨by simp [PyData.showableKv, a1, c1, b1], by simp only [PyData.depthKv, wtPk]; omega, ?_⟩
    simp only [PyData.shownKv, List.map_cons, List.sum_cons, List.length_cons, wtPk]
    have e : (PyData.shown k ++ ": " ++ PyData.shown p).length = (PyData.shown k).length + 2 + (PyData.shown p).length := by
      rw [strLen_append, strLen_append]; rfl
    omega
end
theorem rep_smallQ {S : Sto} {d : D} {p : PyData} (e : toQ S d = some p) (h : smP p = true) (hw : wtP p ≤ 200000) (hd : p.depth ≤ 40) : reprQ S d = some (.str p.shown) := by
  obtain ⟨h1, h2, h3⟩ := small_P p h
  have hs : showsD p = true := by
    unfold showsD
    rw [h1, decide_eq_true (show p.depth ≤ 40 by omega), decide_eq_true (show p.shown.length ≤ 16000000 by omega)]
    rfl
  simp only [reprQ, e, Option.bind, hs, if_true]
end DL
set_option Elab.async false
set_option linter.all false
set_option maxRecDepth 100000
set_option maxHeartbeats 4000000
namespace DL
open PySem PySem.Spec PyProof.Rows L2
def compD (t : Tg) (tt : Tx) (k e : Ex) (vs : List Nat) : List D → Ev → Sto → List (D × D) → R (List (D × D))
  | [], _, S, acc => .ok acc S
  | d :: ds, ρ, S, acc => match t.put d (wipeD ρ vs) with
    | none => .bad
    | some ρ1 => (tt ρ1 S).nox.bind fun b S => if b = true then (k ρ1 S).nox.bind fun x S => (e ρ1 S).nox.bind fun y S => match unK x with
      | some kk => if acc.length < sizeLine then compD t tt k e vs ds ρ S (putD acc kk y) else .bad
      | none => .bad
      else compD t tt k e vs ds ρ S acc
def eDcM (it : Ix) (t : Tg) (tt : Tx) (k e : Ex) (vs : List Nat) : Ex := fun ρ S => (it ρ S).bind fun xs S => (compD t tt k e vs xs ρ S []).bind fun acc S => .ok (.ref S.length) (S ++ [some (.dic false acc)])
section
variable {K : PySem.W.Frag} {mg : Str → Option Value} {B : Addr → Prop} {m m' m1 m2 : List Addr} {S S' S1 S2 : Sto} {H H' H1 H2 : Hp}
theorem kp_writeD {Fb : Addr → Prop} {D : Addr} {u o : HO} (hD : H D = some u) (hn : ¬ Fixd u) (hF : Fb D) : Kp H (upd H D o) Fb Fb m m := by
  have ne : ∀ a, ¬ Fb a → a ≠ D := fun a f e => f (e ▸ hF)
  refine ⟨fun a xs h f => by rw [upd_ne (ne a f)]; exact h, fun a u h f => ?_, fun a o f h => ?_, fun _ _ _ f => f, fun _ _ h => h⟩
  · unfold Rd; rw [upd_ne (ne a f)]; exact h
  · have : a ≠ D := by
      rintro rfl
      rw [hD] at h
      cases h
      exact hn f
    rw [upd_ne this]; exact h
theorem Rl.writeD {D : Addr} {u o : HO} (r : Rl K mg (BD B D) m H S) (hD : H D = some u) (hn : ¬ Fixd u) : Rl K mg (BD B D) m (upd H D o) S := by
  have kp : Kp H (upd H D o) (Fo (BD B D) m S) (Fo (BD B D) m S) m m := kp_writeD hD hn (.inl (.inr rfl))
  have nD : ∀ a, Liv m S a → a ≠ D := fun a h e => r.nb a h (.inr e)
  have sm : ∀ a, H a ≠ none → upd H D o a ≠ none := fun a h => by
    by_cases e : a = D
    · subst e; rw [upd_same]; simp
    · rw [upd_ne e]; exact h
  refine ⟨r.len, r.nod, r.nb, fun a h => sm a (r.bt a h), fun a h => sm a (r.mt a h), fun n a u e1 e2 => ?_⟩
  have na : a ≠ D := nD a ⟨n, u, e1, e2⟩
  cases r.obj n a u e1 e2 with
  | lst h z q => exact .lst (by rw [upd_ne na]; exact h) z (q.kp kp)
  | dK h z e q => exact .dK (by rw [upd_ne na]; exact h) z e (q.kp kp)
  | dT h z e q => exact .dT (by rw [upd_ne na]; exact h) z e (q.kp kp)
  | ins g h e q => exact .ins g (by rw [upd_ne na]; exact h) e (q.kp kp)
theorem Rl.adoptD {D : Addr} {kv : List (Key × V)} {kvs : List (DL.D × DL.D)} (r : Rl K mg (BD B D) m H S) (nB : ¬ B D) (nD : D ∉ m) (hD : H D = some (.dK kv)) (q : KR K H (Fo (BD B D) m S) m kv kvs) (hz : kv.length ≤ sizeLine) :
    Rl K mg B (m ++ [D]) H (S ++ [some (.dic false kvs)]) := by
  have kp := kp_adopt (B := B) (D := D) (H := H) (o := .dic false kvs) r.len
  refine ⟨by simp [r.len], ?_, fun a h z => ?_, fun a h => r.bt a (.inl h), fun a h => ?_, fun n a u e1 e2 => ?_⟩
  · refine List.nodup_append.mpr ⟨r.nod, by simp, fun a h1 b h2 e => ?_⟩
    simp at h2
    subst h2
    subst e
    exact nD h1
  · rcases liv_app r.len h with h | ⟨h, _⟩
    · exact r.nb a h (.inl z)
    · exact nB (h ▸ z)
  · rcases List.mem_append.mp h with h | h
    · exact r.mt a h
    · simp at h
      subst h
      rw [hD]; simp
  · by_cases hn : n < m.length
    · rw [List.getElem?_append_left hn] at e1
      rw [List.getElem?_append_left (by rw [← r.len]; exact hn)] at e2
      cases r.obj n a u e1 e2 with
      | lst h z q => exact .lst h z (q.kp kp)
      | dK h z e q => exact .dK h z e (q.kp kp)
      | dT h z e q => exact .dT h z e (q.kp kp)
      | ins g h e q => exact .ins g h e (q.kp kp)
    · rw [List.getElem?_append_right (by omega)] at e1
      have hl := r.len
      rw [List.getElem?_append_right (by omega)] at e2
      have hz' : n - m.length = 0 := by
        have := (List.getElem?_eq_some_iff.mp e1).1
        simp at this
        omega
      rw [hz'] at e1
      rw [show n - S.length = 0 by omega] at e2
      simp at e1 e2
      subst e1 e2
      exact .dK hD hz q.keys (q.vals.kp kp)
end
section
variable {X : Cx} {W : WX} {tg iter ke elt : Expr} {ifs : List Expr} {fi : Ix} {t : Tg} {tt : Tx} {fk fe : Ex} {scope : Scope} {own : List (Str × Nat)} {pos : Pos}
theorem dc_of {K : PySem.W.Frag} {mg : Str → Option Value} {σ : L2.St} {H : Hp} {Q : VK} {vs : List Nat} {Fin : List (D × D) → Sto → R D} (hv : ∀ i ∈ t.sl, i ∈ vs) (h : up K mg W (fun ρ S => (fi ρ S).bind fun xs S => (compD t tt fk fe vs xs ρ S []).bind Fin) σ H Q)
    (hf : ∀ B m1 S1 H1 m2 S2 H2 D acc ds, Rl K mg B m1 H1 S1 → H1 D = none → Pc m1 S1 H1 m2 S2 H2 → Rl K mg (BD B D) m2 H2 S2 → H2 D = some (.dK acc) → KR K H2 (Fo (BD B D) m2 S2) m2 acc ds → acc.length ≤ sizeLine → D ∉ m2 → fin K mg W B m1 S1 σ H1 (Fin ds S2) Q → Q (.ref D) H2) :
    tDc (upI K mg W fi) (Tg.rd K t) (upT K mg W0 tt) (up K mg W0 fk) (up K mg W0 fe) vs σ H Q := by
  obtain ⟨B, m, ρ, S, r, re, f⟩ := h
  refine ⟨B, m, ρ, S, r, re, finI.mono (finI.bind f) fun J H1 => ?_⟩
  rintro ⟨m1, S1, xs, p1, itr, f1⟩ D hD
  have re1 := re.kp (p1.kp r)
  have k0 := kp_aside (B := B) (m := m1) (S := S1) (o := .dK []) hD
  refine ⟨fun i n H => n = xs.length - i ∧ i ≤ xs.length ∧ ∃ m2 S2 acc ds, Pc m1 S1 H1 m2 S2 H ∧ Kp H1 H (Fo B m1 S1) (Fo (BD B D) m2 S2) m1 m2 ∧ Rl K mg (BD B D) m2 H S2 ∧ H D = some (.dK acc) ∧ KR K H (Fo (BD B D) m2 S2) m2 acc ds ∧ acc.length ≤ sizeLine ∧ D ∉ m2 ∧
      fin K mg W B m1 S1 σ H1 ((compD t tt fk fe vs (xs.drop i) ρ S2 ds).bind Fin) Q,
    ⟨xs.length, by simp, Nat.zero_le _, m1, S1, [], [], (Post.refl p1.rl).pc.over hD, k0, p1.rl.aside hD, upd_same, .nil, by simp, fun z => p1.rl.mt D z hD, by simpa using f1⟩, ?_⟩
  rintro i n H2 ⟨rfl, hi, m2, S2, acc, ds, pc, kp, rl, hacc, qa, za, nD, f2⟩
  obtain ⟨go, stop⟩ := itr H2 _ m2 kp
  by_cases hlt : i < xs.length
  · right
    refine ⟨(go i hlt).1, fun H' => ∃ m3 S3 acc ds, Pc m1 S1 H1 m3 S3 H' ∧ Kp H1 H' (Fo B m1 S1) (Fo (BD B D) m3 S3) m1 m3 ∧ Rl K mg (BD B D) m3 H' S3 ∧ H' D = some (.dK acc) ∧ KR K H' (Fo (BD B D) m3 S3) m3 acc ds ∧ acc.length ≤ sizeLine ∧ D ∉ m3 ∧
      fin K mg W B m1 S1 σ H1 ((compD t tt fk fe vs (xs.drop (i + 1)) ρ S3 ds).bind Fin) Q, ?_, ?_⟩
    · rintro H' ⟨m3, S3, acc3, ds3, h3⟩
      exact ⟨_, by omega, rfl, hlt, m3, S3, acc3, ds3, h3⟩
    · intro x H3 y
      obtain ⟨d, ed, sm, rx⟩ := (go i hlt).2 x H3 y
      have p3 : Post K mg (BD B D) m2 S2 H2 m2 S2 H3 := Post.grow rl sm
      have kp3 := kp.trans (p3.kp rl)
      have ed' : xs[i] = d := by
        have := List.getElem?_eq_getElem hlt
        rw [this] at ed
        exact Option.some.inj ed
      rw [List.drop_eq_getElem_cons hlt, ed'] at f2
      unfold compD at f2
      cases e1 : t.put d (wipeD ρ vs) with
      | none => rw [e1] at f2; exact f2.elim
      | some ρ4 =>
        rw [e1] at f2
        dsimp only at f2
        refine Tg.rd_okP (A := fun σ' => L2.wipe σ' vs = L2.wipe σ vs) t (fun σ i v h1 h2 => by rw [wipe_set (hv i h1)]; exact h2) e1 rx ((re1.kp kp3).wipe vs) ?_ fun σ4 re4 a4 => ⟨a4, BD B D, m2, ρ4, S2, p3.rl, re4, ?_⟩
        · apply List.ext_getElem?
          intro j
          rw [wipe_get, wipe_get, wipe_length]
          by_cases h1 : j ∈ vs ∧ j < σ.length
          · simp [h1]
          · simp [h1]
        · -- the test
          rcases R.nox_ok (r := tt ρ4 S2) (g := fun b S => if b = true then (fk ρ4 S).nox.bind fun x S => (fe ρ4 S).nox.bind fun y S => match unK x with
            | some kk => if ds.length < sizeLine then compD t tt fk fe vs (xs.drop (i + 1)) ρ S (putD ds kk y) else .bad
            | none => .bad
            else compD t tt fk fe vs (xs.drop (i + 1)) ρ S ds) with ⟨b, S5, e5, e6⟩ | e6
          · rw [e6] at f2
            rw [e5]
            intro m5 H5 p5
            have kp5 := kp3.trans (p5.kp p3.rl)
            have pc5 : Pc m1 S1 H1 m5 S5 H5 := (pc.trans p3.pc).trans p5.pc
            have hacc3 := p3.keep _ _ hacc fun z => rl.nb _ z (.inr rfl)
            have hacc5 : H5 D = some (.dK acc) := p5.keep _ _ hacc3 fun z => p3.rl.nb _ z (.inr rfl)
            have qa5 := (qa.kp (p3.kp rl)).kp (p5.kp p3.rl)
            have nD5 : D ∉ m5 := notin_ext nD p5.ext hacc3
            cases b with
            | false =>
              rw [if_neg Bool.false_ne_true] at f2 ⊢
              exact ⟨m5, S5, acc, ds, pc5, kp5, p5.rl, hacc5, qa5, za, nD5, f2⟩
            | true =>
              rw [if_pos rfl] at f2 ⊢
              have re5 := re4.kp (p5.kp p3.rl)
              rcases R.nox_ok (r := fk ρ4 S5) (g := fun x S => (fe ρ4 S).nox.bind fun y S => match unK x with
                | some kk => if ds.length < sizeLine then compD t tt fk fe vs (xs.drop (i + 1)) ρ S (putD ds kk y) else .bad
                | none => .bad) with ⟨xk, S6, e7, e8⟩ | e8
              · rw [e8] at f2
                refine ⟨BD B D, m5, ρ4, S5, p5.rl, re5, ?_⟩
                rw [e7]
                intro m6 H6 v6 p6 rv6
                have hacc6 : H6 D = some (.dK acc) := p6.keep _ _ hacc5 fun z => p5.rl.nb _ z (.inr rfl)
                rcases R.nox_ok (r := fe ρ4 S6) (g := fun y S => match unK xk with
                  | some kk => if ds.length < sizeLine then compD t tt fk fe vs (xs.drop (i + 1)) ρ S (putD ds kk y) else .bad
                  | none => .bad) with ⟨y, S7, e9, e10⟩ | e10
                · rw [e10] at f2
                  refine ⟨BD B D, m6, ρ4, S6, p6.rl, re5.kp (p6.kp p5.rl), ?_⟩
                  rw [e9]
                  intro m7 H7 v7 p7 rv7
                  have hacc7 : H7 D = some (.dK acc) := p7.keep _ _ hacc6 fun z => p6.rl.nb _ z (.inr rfl)
                  cases ek : unK xk with
                  | none => rw [ek] at f2; exact f2.elim
                  | some kk =>
                    rw [ek] at f2
                    dsimp only at f2
                    split at f2
                    · rename_i hz
                      have hl : acc.length = ds.length := qa.length
                      have qa7 := (qa5.kp (p6.kp p5.rl)).kp (p7.kp p6.rl)
                      have nw : ¬ Fixd (.dK acc) := fun z => z
                      have hF : Fo (BD B D) m7 S7 D := .inl (.inr rfl)
                      refine ⟨acc, kk, rv6.key ek, hacc7, by rw [hl]; exact hz, m7, S7, putK acc kk v7, putD ds kk y, ((pc5.trans p6.pc).trans p7.pc).over hD, ((kp5.trans (p6.kp p5.rl)).trans (p7.kp p6.rl)).trans (kp_writeD hacc7 nw hF), p7.rl.writeD hacc7 nw, upd_same, ?_, ?_, notin_ext (notin_ext nD5 p6.ext hacc5) p7.ext hacc6, f2⟩
                      · exact (qa7.put kk rv7).kp (kp_writeD hacc7 nw hF)
                      · have := length_putK acc kk v7; omega
                    · exact f2.elim
                · rw [e10] at f2; exact f2.elim
              · rw [e8] at f2; exact f2.elim
          · rw [e6] at f2; exact f2.elim
  · left
    have hd : xs.drop i = [] := List.drop_eq_nil_of_le (by omega)
    rw [hd] at f2
    exact ⟨stop i (by omega), hf B m1 S1 H1 m2 S2 H2 D acc ds p1.rl hD pc rl hacc qa za nD f2⟩
theorem dcM_fin {K : PySem.W.Frag} {mg : Str → Option Value} {σ : L2.St} {Q : VK} (B : Addr → Prop) (m1 : List Addr) (S1 : Sto) (H1 : Hp) (m2 : List Addr) (S2 : Sto) (H2 : Hp) (D : Addr) (acc : List (Key × V)) (ds : List (DL.D × DL.D)) (r1 : Rl K mg B m1 H1 S1) (hD : H1 D = none) (pc : Pc m1 S1 H1 m2 S2 H2) (rl : Rl K mg (BD B D) m2 H2 S2) (hacc : H2 D = some (.dK acc))
    (qa : KR K H2 (Fo (BD B D) m2 S2) m2 acc ds) (za : acc.length ≤ sizeLine) (nD : D ∉ m2) (f : fin K mg W B m1 S1 σ H1 (.ok (.ref S2.length) (S2 ++ [some (.dic false ds)])) Q) : Q (.ref D) H2 := by
  have nB : ¬ B D := fun z => r1.bt D z hD
  have rl2 := rl.adoptD nB nD hacc qa za
  refine f (m2 ++ [D]) H2 _ (post_of_pc ⟨?_, pc.keep, pc.smm, fun a h => ?_⟩ rl2) (.ref (by rw [List.getElem?_append_right (by rw [rl.len]; exact Nat.le_refl _), rl.len]; simp))
  · obtain ⟨l, e, fr⟩ := pc.ext
    refine ⟨l ++ [D], by rw [e, List.append_assoc], fun a h => ?_⟩
    rcases List.mem_append.mp h with h | h
    · exact fr a h
    · simp at h
      rw [h]; exact hD
  · rcases liv_app rl.len h with h | ⟨h, _⟩
    · exact pc.liv a h
    · right; rw [h]; exact hD
end
end DL
set_option Elab.async false
set_option linter.all false
set_option maxRecDepth 100000
set_option maxHeartbeats 4000000
namespace DL
open PySem PySem.Spec PyProof.Rows L2
def frY (n : Nat) (g : Addr → Option Obj) : PySem.W.Frag := He.frT g (sysModules :: He.asD g n)
abbrev AlY : Type := He.AlD × Bool
def obsY (n : Nat) (fa : List He.Fa) (fn : List He.DefD) (ex : PySem.W.Frag → Bool) (g : Addr → Option Obj) : AlY := (He.obsD fa fn (frY n g), ex (frY n g))
def hookY (n : Nat) (fa : List He.Fa) (fn : List He.DefD) (ex : PySem.W.Frag → Bool) : PySem.W.Hook where
  α := AlY
  obs := fun s => obsY n fa fn ex s.heap.get?
  val := fun _ => (He.valD fn, true)
  says := fun _ h => ∃ K : PySem.W.Frag, K.In h ∧ He.SaysD fa fn K ∧ ex K = true
  of := fun _ _ e => ⟨_, He.frT_in, congrArg (fun z : AlY => z.1) e, congrArg (fun z : AlY => z.2) e⟩
  keeps := fun _ _ _ ⟨K, hK, c⟩ k => ⟨K, PySem.W.Frag.In.keeps hK k, c⟩
theorem obsY_eq {n : Nat} {fa : List He.Fa} {fn : List He.DefD} {ex : PySem.W.Frag → Bool} {g : Addr → Option Obj} {s : Shared} (h : ∀ a, g a = s.heap.get? a) : obsY n fa fn ex g = (hookY n fa fn ex).obs s := by
  have e : g = s.heap.get? := funext h
  rw [e] <;> rfl
/-- the things at these places -/
def pick {α : Type} (is : List Nat) (xs : List α) : List α := is.filterMap fun i => xs[i]?
def eFnK (F : Fn) (is : List Nat) (dd : List D) (fs gs : List Ex) : Ex := fun ρ S => (evL fs ρ S).bind fun us S => (evL gs ρ S).bind fun zs S => F (pick is (us ++ (zs ++ dd))) S
end DL
set_option Elab.async false
set_option linter.all false
set_option maxRecDepth 100000
set_option maxHeartbeats 4000000
namespace DL
open PySem PySem.Spec PyProof PyProof.Rows L2 HT
def igAddA : D → D → Option D
  | .int i, .int j => some (.int (i + j))
  | .tup xs, .tup ys => if xs.length + ys.length ≤ sizeLine then some (.tup (xs ++ ys)) else none
  | _, _ => none
end DL
set_option Elab.async false
set_option linter.all false
set_option maxRecDepth 100000
set_option maxHeartbeats 4000000
namespace L2
open PySem PySem.Spec PyProof.Rows
section
variable {X : Cx}
/-- name = {..} on one line, the name a local -/
theorem ps_setDc {i : Nat} {y : Str} {py : Pos} {kx elt tg iter : Expr} {ifs : List Expr} {scope : Scope} {own : List (Str × Nat)} {pos spos : Pos} {wi : TI} {g : TG} {tt : TT} {tk te : TE} (hc : X.calm = true) (hN : X.N.Nodup) (hy : X.N[i]? = some y) (hyl : X.env.scope.names.lookup y = some .local)
    (hsw : swapsWith (.DictComp kx elt [⟨tg, iter, ifs, 0⟩] scope pos) (some (.Name y py)) spos.line X.env = pure true) (hi : PI X tg iter wi) (ok : BlkOk X.N X.env.scope scope own)
    (hg : ∀ (s : Shared) (H : Hp) (C : Addr) (cl : List (Str × Addr)) (fp : List Addr), PG (X.blk s H scope (compEnvC scope cl C X.env) fp) tg g) (ht : ∀ (s : Shared) (H : Hp) (C : Addr) (cl : List (Str × Addr)) (fp : List Addr), PTs (X.blk s H scope (compEnvC scope cl C X.env) fp) ifs tt)
    (hk : ∀ (s : Shared) (H : Hp) (C : Addr) (cl : List (Str × Addr)) (fp : List Addr), PE (X.blk s H scope (compEnvC scope cl C X.env) fp) kx tk)
    (he : ∀ (s : Shared) (H : Hp) (C : Addr) (cl : List (Str × Addr)) (fp : List Addr), PE (X.blk s H scope (compEnvC scope cl C X.env) fp) elt te) (hs : ∀ x, foldedSetIterable iter X.env x = pure x := by intro _; rfl) :
    PS X (.Assign [.Name y py] (.DictComp kx elt [⟨tg, iter, ifs, 0⟩] scope pos) spos) (tAsg (tDc wi g tt tk te (own.map (·.2))) (gName i)) := by
  refine ⟨fun pins s σ H D I h => ?_⟩
  rw [exec_Assign_Name_used _ _ _ _ hsw]
  refine wpAny_bind (wpAny_standAt (wpAny_bind ?_))
  show wpAny _ X.A (do let _ ← comprehension (.DictComp kx elt [⟨tg, iter, ifs, 0⟩] scope pos) scope X.env (firstIterPos [⟨tg, iter, ifs, 0⟩] pos) newDict false (eval iter X.env) (some (assign (.Name y py) X.env))) _ _ s
  have h : tDc wi g tt tk te (own.map (·.2)) σ H (fun x H1 => gName i x σ H1 D.nx) := h
  refine wpAny_bind (thn (dc_core (Qf := fun _ s' => SP X pins D .next s') hc hN I hi ok hg ht hk he hs h fun L C s' m H' I' q hn f => ?_) fun _ s' hq => wpAny_pure (wpAny_pure hq))
  show wpAny _ _ (assign (.Name y py) X.env (.ref L)) _ _ _
  refine wpAny_assign_Name (store_ok2 (v := V.ref L) I' hN hy (.inl hyl) rfl (fun s2 I2 ⟨a, sb, ha⟩ => ?_) (.inr hyl))
  obtain ⟨f0, f1, f2, f3, f4, f5⟩ := f
  have haC : C ≠ a := by
    rcases ha with z | z
    · rw [z]; exact f1
    · exact fun e => f4 y a z e.symm
  refine ⟨m, hn.sameBut sb haC, fun h3 sb3 => ?_⟩
  exact ⟨_, H', I2.turned (t' := s2.toks) (fun b o hb e => (sb3.2 b hb).trans e) f0 f1 f3 f4 f5, q⟩
theorem sw_trueD {kx elt : Expr} {gs : List Comprehension} {scope : Scope} {pos py : Pos} {y : Str} {l : Nat} {env : Env} (hk : env.scope.kind = .function) (hy : env.scope.names.lookup y = some .local) (hl : (py.line == pos.line) = true)
    (ha : (scope.names.any fun (n, k) => n == y && (k == .local || k == .cell)) = false) : swapsWith (.DictComp kx elt gs scope pos) (some (.Name y py)) l env = pure true := by
  have ky : env.kindOf y = some .local := hy
  have hb : env.blockKind = .function := by unfold Env.blockKind; rw [hk]; rfl
  unfold swapsWith
  simp only [hb, ky, ha, Expr.pos, hl]
  rfl
end
end L2
namespace DL
open PySem PySem.Spec PyProof.Rows L2
section
variable {X : Cx} {W : WX} {tg iter ke elt : Expr} {ifs : List Expr} {fi : Ix} {t : Tg} {tt : Tx} {fk fe : Ex} {scope : Scope} {own : List (Str × Nat)} {pos : Pos}
theorem sv_setDcM {i : Nat} {y : Str} {py spos : Pos} (hc : X.calm = true) (hN : X.N.Nodup) (hy : X.N[i]? = some y) (hyl : X.env.scope.names.lookup y = some .local) (hsw : swapsWith (.DictComp ke elt [⟨tg, iter, ifs, 0⟩] scope pos) (some (.Name y py)) spos.line X.env = pure true) (hi : IV X W tg iter fi) (ok : BlkOk X.N X.env.scope scope own)
    (hg : ∀ (s : Shared) (H : Hp) (C : Addr) (cl : List (Str × Addr)) (fp : List Addr), GV (X.blk s H scope (compEnvC scope cl C X.env) fp) tg t) (ht : ∀ (s : Shared) (H : Hp) (C : Addr) (cl : List (Str × Addr)) (fp : List Addr), TVs (X.blk s H scope (compEnvC scope cl C X.env) fp) W0 ifs tt)
    (hk : ∀ (s : Shared) (H : Hp) (C : Addr) (cl : List (Str × Addr)) (fp : List Addr), EV (X.blk s H scope (compEnvC scope cl C X.env) fp) W0 ke fk)
    (he : ∀ (s : Shared) (H : Hp) (C : Addr) (cl : List (Str × Addr)) (fp : List Addr), EV (X.blk s H scope (compEnvC scope cl C X.env) fp) W0 elt fe) (hv : ∀ i ∈ t.sl, i ∈ own.map (·.2) := by decide) (hs : ∀ x, foldedSetIterable iter X.env x = pure x := by intro _; rfl) :
    SV X W (.Assign [.Name y py] (.DictComp ke elt [⟨tg, iter, ifs, 0⟩] scope pos) spos) (sAsg i (eDcM fi t tt fk fe (own.map (·.2)))) := by
  refine ps_imp (ps_setDc (g := Tg.rd X.K t) (tt := upT X.K X.mg W0 tt) (tk := up X.K X.mg W0 fk) (te := up X.K X.mg W0 fe) hc hN hy hyl hsw hi ok hg ht hk he hs) fun E σ H h => ?_
  obtain ⟨B, m, ρ, S, r, re, f⟩ := h
  refine dc_of (W := W) (Fin := fun acc S => .ok (.ref S.length) (S ++ [some (.dic false acc)])) hv (Q := fun x H1 => gName i x σ H1 E.nx) ⟨B, m, ρ, S, r, re, ?_⟩ dcM_fin
  have f' : finS X.K X.mg W B m S H ((eDcM fi t tt fk fe (own.map (·.2)) ρ S).bindS ρ fun d S => .fl (.nx (ρ.set i (some d))) S) E := f
  show fin X.K X.mg W B m S σ H (eDcM fi t tt fk fe (own.map (·.2)) ρ S) _
  refine fin.mono (fin.bindS re r f') fun v H1 => ?_
  rintro ⟨m1, S1, d, p, q, f1⟩
  exact f1 m1 H1 _ (Post.refl p.rl) ((re.kp (p.kp r)).set q)
end
end DL
set_option Elab.async false
set_option linter.all false
set_option maxRecDepth 100000
set_option maxHeartbeats 4000000
namespace DL
open PySem PySem.Spec PyProof.Rows L2
abbrev TB := List (Int × Int)
def kI (l : TB) : List (D × D) := l.map fun p => (.int p.1, .int p.2)
def dI (l : TB) : D := .dic false (kI l)
def getI : TB → Int → Option Int
  | [], _ => none
  | p :: l, k => if p.1 = k then some p.2 else getI l k
def putI (l : TB) (k v : Int) : TB := if (l.any fun p => decide (p.1 = k)) = true then l.map (fun p => if p.1 = k then (p.1, v) else p) else l ++ [(k, v)]
theorem unK_int (a k : Int) : (unK (.int a) = some (.inl k)) = (a = k) := by simp [unK]
theorem valD_I : ∀ (l : TB) (k : Int), valD (kI l) (.inl k) = (getI l k).map D.int
  | [], _ => rfl
  | p :: l, k => by
    have ih := valD_I l k
    unfold valD kI at ih ⊢
    simp only [List.map_cons, List.find?_cons, unK_int, getI]
    by_cases h : p.1 = k
    · simp [h]
    · simp only [h, decide_false, if_false]
      exact ih
theorem any_I (l : TB) (k : Int) : ((kI l).any fun p => decide (unK p.1 = some (.inl k))) = (l.any fun p => decide (p.1 = k)) := by
  unfold kI
  rw [List.any_map]
  congr 1
  funext p
  simp [unK]
theorem putD_I (l : TB) (k v : Int) : putD (kI l) (.inl k) (.int v) = kI (putI l k v) := by
  unfold putD putI
  rw [any_I]
  split
  · unfold kI
    rw [List.map_map, List.map_map]
    refine List.map_congr_left fun p _ => ?_
    simp only [Function.comp, unK_int]
    split <;> rfl
  · simp [kI, keyD]
theorem kI_len (l : TB) : (kI l).length = l.length := by simp [kI]
theorem getI_mem : ∀ {l : TB} {k v : Int}, getI l k = some v → (k, v) ∈ l
  | [], _, _, h => by cases h
  | p :: l, k, v, h => by
    unfold getI at h
    split at h
    · rename_i e
      cases h
      subst e
      simp
    · exact List.mem_cons_of_mem _ (getI_mem h)
theorem getI_none : ∀ {l : TB} {k : Int}, getI l k = none ↔ k ∉ l.map (·.1)
  | [], k => by simp [getI]
  | p :: l, k => by
    unfold getI
    have := @getI_none l k
    by_cases e : p.1 = k
    · simp [e]
    · rw [if_neg e, this, List.map_cons, List.mem_cons]
      have e' : ¬ k = p.1 := fun z => e z.symm
      simp only [e', false_or]
theorem asIs_I : ∀ xs : List Int, asIs (xs.map D.int) = some xs
  | [] => rfl
  | x :: xs => by simp only [List.map_cons, asIs, asIs_I xs]; rfl
theorem keys_I (l : TB) : (kI l).map (·.1) = (l.map (·.1)).map D.int := by simp [kI]
theorem vals_I (l : TB) : (kI l).map (·.2) = (l.map (·.2)).map D.int := by simp [kI]
theorem fVs_I : ∀ xs : List Int, fVs (xs.map .int) = some (xs.map .int)
  | [] => rfl
  | x :: xs => by simp only [List.map_cons, fVs, fV, fVs_I xs]
theorem inV_I (x : Int) (xs : List Int) : inV (.int x) (xs.map .int) = decide (x ∈ xs) := by
  unfold inV
  induction xs with
  | nil => simp
  | cons y ys ih =>
    rw [List.map_cons, List.any_cons, ih]
    have e : eqV (.int y) (.int x) = decide (x = y) := by
      show (y == x) = _
      rw [Bool.eq_iff_iff, beq_iff_eq, decide_eq_true_iff]
      exact ⟨Eq.symm, Eq.symm⟩
    rw [e]
    simp
abbrev I3 := Int × Int × Int
def d3 (t : I3) : D := .tup [.int t.1, .int t.2.1, .int t.2.2]
def p3 (t : I3) : PyData := .tuple [.int t.1, .int t.2.1, .int t.2.2]
def lt3 (a b : I3) : Bool := decide (a.1 < b.1) || (decide (a.1 = b.1) && (decide (a.2.1 < b.2.1) || (decide (a.2.1 = b.2.1) && (decide (a.2.2 < b.2.2) || (decide (a.2.2 = b.2.2) && false)))))
theorem toP_3 (t : I3) : toP (d3 t) = some (p3 t) := by simp [d3, p3, toP, toPs]
theorem lt_p3 (a b : I3) : PySem.W.dataLt (p3 a) (p3 b) = lt3 a b := by
  unfold p3 lt3
  rw [lt_tupI, lt_tupI, lt_tupI, lt_tup0]
theorem alike_3 (a b : I3) : PySem.W.alike (p3 a) (p3 b) = true := by simp [p3, PySem.W.alike, PySem.W.alikeAll]
theorem ltX_3 (a b : I3) : ltXD (d3 a) (d3 b) = some (.bl (lt3 a b)) := by
  have : cmpP (d3 a) (d3 b) = some (p3 a, p3 b) := by
    unfold cmpP
    rw [toP_3, toP_3]
    simp only [Option.bind]
    rw [if_pos ⟨alike_3 a b, rfl, by simp [p3, PyData.depth, PyData.depthAll]⟩]
  show (cmpP (d3 a) (d3 b)).map (fun z => D.bl (PySem.W.dataLt z.1 z.2)) = _
  rw [this]
  simp only [Option.map_some, lt_p3]
theorem lt3_iff (a b : I3) : lt3 a b = true ↔ a.1 < b.1 ∨ (a.1 = b.1 ∧ (a.2.1 < b.2.1 ∨ (a.2.1 = b.2.1 ∧ a.2.2 < b.2.2))) := by simp [lt3]
theorem lt3_tri {a b : I3} (h : lt3 a b = false) (h2 : lt3 b a = false) : a = b := by
  have h' : ¬ (lt3 a b = true) := by simp [h]
  have h2' : ¬ (lt3 b a = true) := by simp [h2]
  rw [lt3_iff] at h' h2'
  obtain ⟨a1, a2, a3⟩ := a
  obtain ⟨b1, b2, b3⟩ := b
  simp only [Prod.mk.injEq] at *
  omega
/-- the least of some -/
def Least (ts : List I3) (t : I3) : Prop := t ∈ ts ∧ ∀ u ∈ ts, lt3 u t = false
theorem Least.uniq {ts us : List I3} {t u : I3} (h : Least ts t) (h2 : Least us u) (e : ∀ x, x ∈ ts ↔ x ∈ us) : t = u := lt3_tri (h2.2 t ((e t).mp h.1)) (h.2 u ((e u).mpr h2.1))
section
variable {Q : D → Prop} {S : Sto} {n : Nat} {l : TB} {k v : Int} {xs ys : List Int} {y : D}
theorem vo_vwD1 {g : D → D → Option D} (h : S[n]? = some (some (.dic false (kI l)))) (q : Wo (g (view S (dI l)) y) Q) : Wo (g (view S (.ref n)) y) Q := by
  have : view S (.ref n) = view S (dI l) := by simp only [view, h]; rfl
  rw [this]; exact q
theorem vo_vwDc {g : List D → Option D} (h : S[n]? = some (some (.dic false (kI l)))) (q : Wo (g (List.map (view S) [dI l])) Q) : Wo (g (List.map (view S) [.ref n])) Q := by
  have : view S (.ref n) = view S (dI l) := by simp only [view, h]; rfl
  have e : List.map (view S) [.ref n] = List.map (view S) [dI l] := by simp only [List.map_cons, List.map_nil, this]
  rw [e]; exact q
theorem vo_ixI (h : getI l k = some v) (q : Q (.int v)) : Wo (ixD (view S (dI l)) (view S (.int k))) Q := by
  refine .of (d := .int v) ?_ q
  show (unK (.int k)).bind (valD (kI l)) = _
  show valD (kI l) (.inl k) = _
  rw [valD_I, h]; rfl
theorem vo_inT (q : Q (.bl (decide (k ∈ xs)))) : Wo (inD (view S (.int k)) (view S (.tup (xs.map .int)))) Q := by
  refine .of ?_ q
  show (inB (.int k) (.tup (xs.map .int))).map D.bl = _
  simp only [inB, fV, sqOf, fVs_I, Option.bind, Option.map_some, inV_I]
theorem vo_ninT (q : Q (.bl (!decide (k ∈ xs)))) : Wo (ninD (view S (.int k)) (view S (.tup (xs.map .int)))) Q := by
  refine .of ?_ q
  show (inB (.int k) (.tup (xs.map .int))).map _ = _
  simp only [inB, fV, sqOf, fVs_I, Option.bind, Option.map_some, inV_I]
theorem vo_inL (q : Q (.bl (decide (k ∈ xs)))) : Wo (inD (view S (.int k)) (view S (.lst (xs.map .int)))) Q := by
  refine .of ?_ q
  show (inB (.int k) (.lst (xs.map .int))).map D.bl = _
  simp only [inB, fV, sqOf, fVs_I, Option.bind, Option.map_some, inV_I]
theorem vo_ninL (q : Q (.bl (!decide (k ∈ xs)))) : Wo (ninD (view S (.int k)) (view S (.lst (xs.map .int)))) Q := by
  refine .of ?_ q
  show (inB (.int k) (.lst (xs.map .int))).map _ = _
  simp only [inB, fV, sqOf, fVs_I, Option.bind, Option.map_some, inV_I]
theorem has_dec (l : TB) (k : Int) : (getI l k).isSome = decide (k ∈ l.map (·.1)) := by
  cases e : getI l k with
  | none => have := getI_none.mp e; simp [this]
  | some v => have := List.mem_map_of_mem (f := (·.1)) (getI_mem e); simp only [Option.isSome_some]; exact (decide_eq_true this).symm
theorem vo_inI (q : Q (.bl (decide (k ∈ l.map (·.1))))) : Wo (inD (view S (.int k)) (view S (dI l))) Q := by
  refine .of ?_ q
  show ((unK (.int k)).map fun kk => (valD (kI l) kk).isSome).map D.bl = _
  show some (D.bl (valD (kI l) (.inl k)).isSome) = _
  rw [valD_I, Option.isSome_map, has_dec]
theorem vo_ninI (q : Q (.bl (!decide (k ∈ l.map (·.1))))) : Wo (ninD (view S (.int k)) (view S (dI l))) Q := by
  refine .of ?_ q
  show ((unK (.int k)).map fun kk => (valD (kI l) kk).isSome).map _ = _
  show some (D.bl (!(valD (kI l) (.inl k)).isSome)) = _
  rw [valD_I, Option.isSome_map, has_dec]
theorem vo_sortI (h : l.length < 64) (q : Q (.lst ((isI (l.map (·.1))).map .int))) : Wo (sortD (List.map (view S) [dI l])) Q := by
  refine .of ?_ q
  show (if (kI l).length < 64 then (asIs ((kI l).map (·.1))).map (fun ns => D.lst ((isI ns).map .int)) else none) = _
  rw [if_pos (by rw [kI_len]; exact h), keys_I, asIs_I]; rfl
theorem vo_sortL (q : Q (.lst ((isI xs).map .int))) : Wo (sortD (List.map (view S) [.lst (xs.map .int)])) Q := by
  refine .of ?_ q
  show (asIs (xs.map D.int)).map _ = _
  rw [asIs_I]; rfl
theorem vo_lenI (q : Q (.int l.length)) : Wo (lenD (List.map (view S) [dI l])) Q := by
  refine .of ?_ q
  show some (D.int (kI l).length) = _
  rw [kI_len]
theorem vo_lt3 {a b : I3} (q : Q (.bl (lt3 a b))) : Wo (ltXD (view S (d3 a)) (view S (d3 b))) Q := .of (ltX_3 a b) q
theorem vo_isNN (q : Q (.bl true)) : Wo (isD (view S .non) (view S .non)) Q := ⟨q⟩
theorem vo_is3N {a : I3} (q : Q (.bl false)) : Wo (isD (view S (d3 a)) (view S .non)) Q := ⟨q⟩
theorem vo_isTN {zs : List D} (q : Q (.bl false)) : Wo (isD (view S (.tup zs)) (view S .non)) Q := ⟨q⟩
theorem vo_isIN (q : Q (.bl false)) : Wo (isD (view S (.int k)) (view S .non)) Q := ⟨q⟩
theorem vo_igAddI {j : Int} (q : Q (.int (k + j))) : Wo (igAddA (view S (.int k)) (view S (.int j))) Q := ⟨q⟩
end
section
variable {Q : D → Sto → Prop} {E : Px} {ρ : Ev} {S : Sto} {o f x : Ex}
theorem wp_dnew (q : Q (.ref S.length) (S ++ [some (.dic false (kI []))])) : Wp (eDNew ρ S) Q E := ⟨q⟩
theorem wp_get2 (h : Wp (o ρ S) (fun d S1 => isDc (view S1 d) = true ∧ Wp (f ρ S1) (fun y S2 => Wp (x ρ S2) (fun z S3 => ∃ (l : TB) (k v : Int), view S3 d = dI l ∧ y = .int k ∧ z = .int v ∧ Q (.int ((getI l k).getD v)) S3) E) E) E) : Wp (eGet2 o f x ρ S) Q E := by
  refine wp_bind (h.mono fun d S1 h => ?_)
  rw [if_pos h.1]
  refine wp_bind (h.2.mono fun y S2 h => wp_bind (h.mono fun z S3 ⟨l, k, v, e2, e3, e4, q⟩ => ?_))
  subst e3 e4
  refine wp_ans (.of (d := .int ((getI l k).getD v)) ?_ q)
  rw [e2]
  show some ((valD (kI l) (.inl k)).getD (.int v)) = _
  rw [valD_I]
  cases getI l k <;> rfl
theorem ws_augI {Q : Fl → Sto → Prop} {E : Str → D → Ev → Sto → Prop} {e o i : Ex} (h : Wp (o ρ S) (fun d S1 => Wp (i ρ S1) (fun k S2 => ∃ (n : Nat) (l : TB) (j v : Int), d = .ref n ∧ k = .int j ∧ S2[n]? = some (some (.dic false (kI l))) ∧ getI l j = some v ∧ Wp (e ρ S2) (fun y S3 => ∃ w : Int, y = .int w ∧ S3[n]? = some (some (.dic false (kI l))) ∧ l.length < 16777216 ∧ Q (.nx ρ) (S3.set n (some (.dic false (kI (putI l j (v + w))))))) (fun c p S => E c p ρ S)) (fun c p S => E c p ρ S)) (fun c p S => E c p ρ S)) : Ws (sAugIx igAdd o i e ρ S) Q E :=
  ws_bind (h.mono fun d S1 h => ws_bind (h.mono fun k S2 ⟨n, l, j, v, e1, e2, h1, hg, hh⟩ => by
    subst e1 e2
    have ev : view S2 (.ref n) = .dic false (kI l) := by simp only [view, h1]
    rw [ev]
    have eg : dgetD (.dic false (kI l)) (.int j) = some (.int v) := by
      show (unK (.int j)).bind (valD (kI l)) = _
      show valD (kI l) (.inl j) = _
      rw [valD_I, hg]; rfl
    rw [eg]
    refine ws_bind (hh.mono fun y S3 ⟨w, ey, h3, h2, q⟩ => ?_)
    subst ey
    have e1 : dicOf S3 (.ref n) = some (n, kI l) := by simp only [dicOf, h3]
    have e4 : putAtD S3 (.ref n) (.int j) (.int (v + w)) = some (S3.set n (some (.dic false (kI (putI l j (v + w)))))) := by
      unfold putAtD
      rw [e1]
      show (if (kI l).length < sizeLine then some (S3.set n (some (.dic false (putD (kI l) (.inl j) (.int (v + w)))))) else none) = _
      rw [if_pos (by rw [kI_len, sizeLine_eq]; exact h2), putD_I]
    have e5 : igAdd (view S3 (.int v)) (view S3 (.int w)) = some (.int (v + w)) := rfl
    rw [e5]
    dsimp only
    rw [e4]
    exact ⟨q⟩))
theorem wi_valsI {Q : List D → Sto → Prop} {e : Ex} (h : Wp (e ρ S) (fun d S1 => ∃ l : TB, d = dI l ∧ Q ((l.map (·.2)).map D.int) S1) E) : Wp (iVals e ρ S) Q E := wp_bind (h.mono fun d S1 ⟨l, e, q⟩ => by
  subst e
  rw [← vals_I] at q
  exact ⟨q⟩)
theorem wi_itemsI {Q : List D → Sto → Prop} {e : Ex} (h : Wp (e ρ S) (fun d S1 => ∃ l : TB, d = dI l ∧ Q (l.map fun p => .tup [.int p.1, .int p.2]) S1) E) : Wp (iItems e ρ S) Q E := wp_bind (h.mono fun d S1 ⟨l, e, q⟩ => by
  subst e
  have : (kI l).map (fun p => D.tup [p.1, p.2]) = l.map fun p => .tup [.int p.1, .int p.2] := by simp [kI]
  rw [← this] at q
  exact ⟨q⟩)
theorem wp_reprQ {f : Ex} (h : Wp (f ρ S) (fun d S1 => ∃ p : PyData, toQ S1 d = some p ∧ smP p = true ∧ wtP p ≤ 200000 ∧ p.depth ≤ 40 ∧ Q (.str p.shown) S1) E) : Wp (eReprQ f ρ S) Q E :=
  wp_bind (h.mono fun d S1 ⟨p, h1, h2, h3, h4, q⟩ => wp_ans (.of (rep_smallQ h1 h2 h3 h4) q))
theorem wp_fnK {F : Fn} {is : List Nat} {dd : List D} {fs gs : List Ex} (h : Wp (evL fs ρ S) (fun us S1 => Wp (evL gs ρ S1) (fun zs S2 => Wp (F (pick is (us ++ (zs ++ dd))) S2) Q E) E) E) : Wp (eFnK F is dd fs gs ρ S) Q E :=
  wp_bind (h.mono fun us S1 h => wp_bind h)
end
theorem wp_rgM {ρ : Ev} {S : Sto} {Q : D → Sto → Prop} {E : Px} {e : Ex} (h : Wp (e ρ S) (fun d S1 => ∃ n : Nat, d = .int n ∧ n ≤ 1000000 ∧ Q (.ref S1.length) (S1 ++ [some (.lst (((List.range n).map fun (k : Nat) => (k : Int)).map .int))])) E) : Wp (eLstRgM (eC (.int 0)) e ρ S) Q E := by
  refine wp_bind (wp_c (wp_bind (h.mono fun d S1 ⟨n, e, hn, q⟩ => ?_)))
  subst e
  have h : iRng 0 (n : Int) = ((List.range n).map fun (k : Nat) => (k : Int)).map .int := by rw [List.map_map]; exact iRng0 n
  show Wp (if -16777216 ≤ (0 : Int) ∧ (0 : Int) ≤ 16777216 ∧ -16777216 ≤ (n : Int) ∧ (n : Int) ≤ 16777216 ∧ ((n : Int) - 0).toNat ≤ 16777216 then _ else _) Q E
  rw [if_pos ⟨by omega, by omega, by omega, by omega, by omega⟩, h]
  exact ⟨q⟩
theorem gPopI {L : List Int} {v : Int} (h : 0 ≤ v ∧ v < L.length) (hl : L.length ≤ 1000000) : ∃ x ∈ L, gPopAt (L.map .int) [.int v] = some ((L.eraseIdx v.toNat).map .int, .int x) := by
  have hv : v.toNat < L.length := by omega
  refine ⟨L[v.toNat], List.getElem_mem _, ?_⟩
  have e1 : PySem.seqIndex? v (L.map D.int).length = some v.toNat := by
    unfold PySem.seqIndex?
    rw [List.length_map]
    simp [show ¬ v < 0 by omega, h.1, h.2]
  have e2 : (L.map D.int)[v.toNat]? = some (.int L[v.toNat]) := by rw [List.getElem?_map, List.getElem?_eq_getElem hv]; rfl
  have e3 : (L.map D.int).eraseIdx v.toNat = (L.eraseIdx v.toNat).map .int := by
    rw [List.eraseIdx_eq_take_drop_succ, List.eraseIdx_eq_take_drop_succ, List.map_append, List.map_take, List.map_drop]
  unfold gPopAt
  dsimp only
  rw [if_pos (by omega), e1]
  dsimp only
  rw [e2]
  dsimp only
  rw [e3]
end DL
set_option Elab.async false
set_option linter.all false
set_option maxRecDepth 100000
set_option maxHeartbeats 4000000
namespace DL
open PySem PySem.Spec PyProof.Rows L2
def sPar (i j : Nat) (fs : List Ex) : Sx := fun ρ S => (evL fs ρ S).bindS ρ fun ds S => match ds with
  | [a, b] => .fl (.nx ((ρ.set i (some a)).set j (some b))) S
  | _ => .bad
theorem finA.bindS {K : PySem.W.Frag} {mg : Str → Option Value} {W : WX} {B : Addr → Prop} {m : List Addr} {S : Sto} {σ : L2.St} {H : Hp} {ρ : Ev} {E : Ends} {r : R (List D)} {g : List D → Sto → RS} (re : RepE K H (Fo B m S) m σ ρ) (rl : Rl K mg B m H S) (h : finS K mg W B m S H (r.bindS ρ g) E) :
    finA K mg W B m S σ H r (fun v H1 => ∃ m1 S1 d, Post K mg B m S H m1 S1 H1 ∧ RepA K H1 (Fo B m1 S1) m1 v d ∧ finS K mg W B m1 S1 H1 (g d S1) E) := by
  cases r with
  | ok d S' => exact fun m' H' v p r => ⟨m', S', d, p, r, finS.later p h⟩
  | exc c p' S' => exact fun m' H' cls dd p x => h m' H' σ cls dd p (re.kp (p.kp rl)) x
  | bad => exact h
theorem ws_par {Q : Fl → Sto → Prop} {E : Str → D → Ev → Sto → Prop} {ρ : Ev} {S : Sto} {i j : Nat} {fs : List Ex} (h : Wp (evL fs ρ S) (fun ds S1 => ∃ a b, ds = [a, b] ∧ Q (.nx ((ρ.set i (some a)).set j (some b))) S1) (fun c p S => E c p ρ S)) : Ws (sPar i j fs ρ S) Q E :=
  ws_bind (h.mono fun ds S1 ⟨a, b, e, q⟩ => by subst e; exact ⟨q⟩)
def kA {α : Type} (f : α → D) (l : List (Int × α)) : List (D × D) := l.map fun p => (.int p.1, f p.2)
def dA {α : Type} (f : α → D) (l : List (Int × α)) : D := .dic false (kA f l)
def getA {α : Type} : List (Int × α) → Int → Option α
  | [], _ => none
  | p :: l, k => if p.1 = k then some p.2 else getA l k
def putA {α : Type} (l : List (Int × α)) (k : Int) (v : α) : List (Int × α) := if (l.any fun p => decide (p.1 = k)) = true then l.map (fun p => if p.1 = k then (p.1, v) else p) else l ++ [(k, v)]
section
variable {α : Type} {f : α → D}
theorem valD_A : ∀ (l : List (Int × α)) (k : Int), valD (kA f l) (.inl k) = (getA l k).map f
  | [], _ => rfl
  | p :: l, k => by
    have ih := valD_A l k
    unfold valD kA at ih ⊢
    simp only [List.map_cons, List.find?_cons, unK_int, getA]
    by_cases h : p.1 = k
    · simp [h]
    · simp only [h, decide_false, if_false]
      exact ih
theorem any_A (l : List (Int × α)) (k : Int) : ((kA f l).any fun p => decide (unK p.1 = some (.inl k))) = (l.any fun p => decide (p.1 = k)) := by
  unfold kA
  rw [List.any_map]
  congr 1
  funext p
  simp [unK]
theorem putD_A (l : List (Int × α)) (k : Int) (v : α) : putD (kA f l) (.inl k) (f v) = kA f (putA l k v) := by
  unfold putD putA
  rw [any_A]
  split
  · unfold kA
    rw [List.map_map, List.map_map]
    refine List.map_congr_left fun p _ => ?_
    simp only [Function.comp, unK_int]
    split <;> rfl
  · simp [kA, keyD]
theorem kA_len (l : List (Int × α)) : (kA f l).length = l.length := by simp [kA]
theorem keys_A (l : List (Int × α)) : (kA f l).map (·.1) = (l.map (·.1)).map D.int := by simp [kA]
theorem getA_mem : ∀ {l : List (Int × α)} {k : Int} {v : α}, getA l k = some v → (k, v) ∈ l
  | [], _, _, h => by cases h
  | p :: l, k, v, h => by
    unfold getA at h
    split at h
    · rename_i e
      cases h
      subst e
      simp
    · exact List.mem_cons_of_mem _ (getA_mem h)
theorem getA_none : ∀ {l : List (Int × α)} {k : Int}, getA l k = none ↔ k ∉ l.map (·.1)
  | [], k => by simp [getA]
  | p :: l, k => by
    unfold getA
    have := @getA_none l k
    by_cases e : p.1 = k
    · simp [e]
    · rw [if_neg e, this, List.map_cons, List.mem_cons]
      have e' : ¬ k = p.1 := fun z => e z.symm
      simp only [e', false_or]
theorem getA_has {l : List (Int × α)} {k : Int} (h : k ∈ l.map (·.1)) : ∃ v, getA l k = some v := by
  cases e : getA l k with
  | none => exact absurd h (getA_none.mp e)
  | some v => exact ⟨v, rfl⟩
theorem putA_mem {l : List (Int × α)} {k : Int} {v : α} {p : Int × α} (h : p ∈ putA l k v) : p ∈ l ∨ p = (k, v) := by
  unfold putA at h
  split at h
  · obtain ⟨q, h1, rfl⟩ := List.mem_map.mp h
    split
    · rename_i e
      right
      rw [e]
    · exact .inl h1
  · simpa using h
theorem putA_len (l : List (Int × α)) (k : Int) (v : α) : (putA l k v).length ≤ l.length + 1 := by
  unfold putA
  split <;> simp
theorem putA_keys {l : List (Int × α)} {k : Int} {v : α} (h : k ∈ l.map (·.1)) : (putA l k v).map (·.1) = l.map (·.1) := by
  unfold putA
  have : (l.any fun p => decide (p.1 = k)) = true := by
    obtain ⟨p, h1, h2⟩ := List.mem_map.mp h
    exact List.any_eq_true.mpr ⟨p, h1, decide_eq_true h2⟩
  rw [if_pos this, List.map_map]
  refine List.map_congr_left fun p _ => ?_
  simp only [Function.comp]
  split <;> rfl
theorem putA_new {l : List (Int × α)} {k : Int} {v : α} (h : k ∉ l.map (·.1)) : putA l k v = l ++ [(k, v)] := by
  unfold putA
  have : ¬ (l.any fun p => decide (p.1 = k)) = true := fun z => h (by
    obtain ⟨p, h1, h2⟩ := List.any_eq_true.mp z
    exact List.mem_map.mpr ⟨p, h1, of_decide_eq_true h2⟩)
  rw [if_neg this]
end
section
variable {α : Type} {f : α → D} {Q : D → Prop} {S : Sto} {n : Nat} {l : List (Int × α)} {k : Int} {v : α} {y : D}
theorem vo_vwA1 {g : D → D → Option D} (h : S[n]? = some (some (.dic false (kA f l)))) (q : Wo (g (view S (dA f l)) y) Q) : Wo (g (view S (.ref n)) y) Q := by
  have : view S (.ref n) = view S (dA f l) := by simp only [view, h]; rfl
  rw [this]; exact q
theorem vo_ixA (h : getA l k = some v) (q : Q (f v)) : Wo (ixD (view S (dA f l)) (view S (.int k))) Q := by
  refine .of (d := f v) ?_ q
  show valD (kA f l) (.inl k) = _
  rw [valD_A, h]; rfl
theorem vo_sortA (h : l.length < 64) (q : Q (.lst ((isI (l.map (·.1))).map .int))) : Wo (sortD (List.map (view S) [dA f l])) Q := by
  refine .of ?_ q
  show (if (kA f l).length < 64 then (asIs ((kA f l).map (·.1))).map (fun ns => D.lst ((isI ns).map .int)) else none) = _
  rw [if_pos (by rw [kA_len]; exact h), keys_A, asIs_I]; rfl
theorem vo_lenA (q : Q (.int l.length)) : Wo (lenD (List.map (view S) [dA f l])) Q := by
  refine .of ?_ q
  show some (D.int (kA f l).length) = _
  rw [kA_len]
end
section
variable {α : Type} {f : α → D} {Q : D → Sto → Prop} {E : Px} {ρ : Ev} {S : Sto} {o g x : Ex}
theorem ws_setA (f : α → D) {Q : Fl → Sto → Prop} {E : Str → D → Ev → Sto → Prop} {e o i : Ex} (h : Wp (e ρ S) (fun z S1 => Wp (o ρ S1) (fun d S2 => Wp (i ρ S2) (fun k S3 => ∃ (n : Nat) (l : List (Int × α)) (j : Int) (v : α), d = .ref n ∧ k = .int j ∧ z = f v ∧ S3[n]? = some (some (.dic false (kA f l))) ∧ l.length < 16777216 ∧ Q (.nx ρ) (S3.set n (some (.dic false (kA f (putA l j v)))))) (fun c p S => E c p ρ S)) (fun c p S => E c p ρ S)) (fun c p S => E c p ρ S)) : Ws (sSetIx o i e ρ S) Q E :=
  ws_bind (h.mono fun z S1 h => ws_bind (h.mono fun d S2 h => ws_bind (h.mono fun k S3 ⟨n, l, j, v, e1, e2, e3, h1, h2, q⟩ => by
    subst e1 e2 e3
    have e0 : lstOf S3 (.ref n) = none := by simp only [lstOf, h1]
    have e1 : dicOf S3 (.ref n) = some (n, kA f l) := by simp only [dicOf, h1]
    have e4 : putAtD S3 (.ref n) (.int j) (f v) = some (S3.set n (some (.dic false (kA f (putA l j v))))) := by
      unfold putAtD
      rw [e1]
      show (if (kA f l).length < sizeLine then some (S3.set n (some (.dic false (putD (kA f l) (.inl j) (f v))))) else none) = _
      rw [if_pos (by rw [kA_len, sizeLine_eq]; exact h2), putD_A]
    rw [e0]
    dsimp only
    rw [e4]
    exact ⟨q⟩)))
theorem ws_frzA {Q : Fl → Sto → Prop} {E : Str → D → Ev → Sto → Prop} {i n : Nat} {s : Sx} {kvs : List (D × D)} (h0 : ρ[i]? = some (some (.ref n))) (h1 : S[n]? = some (some (.dic false kvs))) (h : Ws (s (ρ.set i (some (.dic false kvs))) (S.set n none)) Q E) : Ws (sFrz i s ρ S) Q E := by
  unfold sFrz
  simp only [h0, h1]
  exact h
end
end DL
set_option Elab.async false
set_option linter.all false
set_option maxRecDepth 100000
set_option maxHeartbeats 4000000
namespace LS
open PySem PySem.Spec PyProof.Rows L2 DL
def tab_TURNED : List Int := [0, 1, 16, 21, 8, 25, 26, 9, 4, 7, 28, 17, 13, 12, 20, 29, 2, 11, 19, 18, 14, 3, 24, 27, 22, 5, 6, 23, 10, 15, 30]
def lb_worth_at_1 : Sx := (sSeq (sAug 2 igMul (eVar 1))
    (sSeq (sAug 2 igAdd (eVar 3))
    (sAug 2 modD (eC (.int 31)))))
def l_worth_at_1 : Sx := sFor (iSeq (eOp1 revD (eVar 0))) (.nm 3) lb_worth_at_1
/-- worth_at: 0:row 1:x 2:worth 3:sign -/
def b_worth_at : Sx :=
  (sSeq (sAsg 2 (eC (.int 0)))
    (sSeq l_worth_at_1
    (sRet (eVar 2))))
def d_worth_at : Fn := fnP (fnB 4 b_worth_at)
def ce_added_1 : Ex := (eOp2 modD (eOp2 addD (eVar 4) (eVar 5)) (eC (.int 31)))
def c_added_1 : Ex := eComp (iZipS (eVar 3) (eOp2 addD (eVar 1) (eOp2 mulD (eTup [(eC (.int 0))]) (eOp2 subD (eVar 2) (eCall lenD [(eVar 1)]))))) (.tp [(.nm 4), (.nm 5)]) tYesX ce_added_1 [4, 5]
/-- added: 0:one 1:other 2:size 3:longer 4:a 5:b -/
def b_added : Sx :=
  (sSeq (sAsg 2 (eCall max2D [(eCall lenD [(eVar 0)]), (eCall lenD [(eVar 1)])]))
    (sSeq (sAsg 3 (eOp2 addD (eVar 0) (eOp2 mulD (eTup [(eC (.int 0))]) (eOp2 subD (eVar 2) (eCall lenD [(eVar 0)])))))
    (sRet (eCall tupleD [c_added_1]))))
def d_added : Fn := fnP (fnB 6 b_added)
def ce_times_1 : Ex := (eOp2 modD (eOp2 mulD (eVar 2) (eVar 1)) (eC (.int 31)))
def c_times_1 : Ex := eComp (iSeq (eVar 0)) (.nm 2) tYesX ce_times_1 [2]
/-- times: 0:row 1:number 2:sign -/
def b_times : Sx :=
  (sRet (eCall tupleD [c_times_1]))
def d_times : Fn := fnP (fnB 3 b_times)
/-- lifted: 0:row 1:x -/
def b_lifted : Sx :=
  (sRet (eFn d_added [(eOp2 addD (eTup [(eC (.int 0))]) (eVar 0)), (eFn d_times [(eVar 0), (eOp2 modD (eOp1 negD (eVar 1)) (eC (.int 31)))])]))
def d_lifted : Fn := fnP (fnB 2 b_lifted)
/-- turned_about: 0:number -/
def b_turned_about : Sx :=
  (sRet (eOp2 ixD (eC (.tup (tab_TURNED.map .int))) (eVar 0)))
def d_turned_about : Fn := fnP (fnB 1 b_turned_about)
def i_through_1 : Sx := sIf (tVal (eOp2 neD (eVar 6) (eVar 2))) (sSeq (sAsg 4 (eFn d_lifted [(eVar 4), (eVar 6)]))
    (sSeq (sAug 5 igMul (eOp2 subD (eVar 2) (eVar 6)))
    (sAug 5 modD (eC (.int 31))))) sSkip
def lb_through_1 : Sx := i_through_1
def l_through_1 : Sx := sFor (iSeq (eVar 0)) (.tp [(.nm 6), (.nm 7)]) lb_through_1
def lb_through_2 : Sx := (sSeq (sAsg 4 (eTup [(eC (.int 1))]))
    (sSeq (sAsg 5 (eC (.int 1)))
    (sSeq l_through_1
    (sAsg 1 (eFn d_added [(eVar 1), (eFn d_times [(eVar 4), (eOp2 modD (eOp2 mulD (eVar 3) (eFn d_turned_about [(eVar 5)])) (eC (.int 31)))])])))))
def l_through_2 : Sx := sFor (iSeq (eVar 0)) (.tp [(.nm 2), (.nm 3)]) lb_through_2
/-- through: 0:pairs 1:found 2:x 3:y 4:base 5:below 6:other 7:worth -/
def b_through : Sx :=
  (sSeq (sAsg 1 (eOp2 mulD (eTup [(eC (.int 0))]) (eCall lenD [(eVar 0)])))
    (sSeq l_through_2
    (sRet (eVar 1))))
def d_through : Fn := fnP (fnB 8 b_through)
/-- is_whole: 0:thing -/
def b_is_whole : Sx :=
  (sRet (eAndX (eIsi .int (eVar 0)) (eNotX (eIsi .bool (eVar 0)))))
def d_is_whole : Fn := fnB 1 b_is_whole
/-- is_sign: 0:thing -/
def b_is_sign : Sx :=
  (sRet (eAndX (eFn d_is_whole [(eVar 0)]) (eChain leD ltD (eC (.int 0)) (eVar 0) (eC (.int 31)))))
def d_is_sign : Fn := fnB 1 b_is_sign
def ce_is_row_1 : Ex := (eFn d_is_sign [(eVar 2)])
def c_is_row_1 : Ex := eComp (iSeq (eVar 0)) (.nm 2) tYesX ce_is_row_1 [2]
/-- is_row: 0:thing 1:most 2:one -/
def b_is_row : Sx :=
  (sRet (eAndX (eIsi .tuple (eVar 0)) (eAndX (eOp2 leD (eCall lenD [(eVar 0)]) (eVar 1)) (eCall allD [c_is_row_1]))))
def d_is_row : Fn := fnB 3 b_is_row
end LS
set_option Elab.async false
set_option linter.all false
set_option maxRecDepth 100000
set_option maxHeartbeats 4000000
namespace LS
open DL
local macro_rules | `(tactic| walk_at "w1") => `(tactic| with_reducible first
  | (refine ws_then ?_; try with_reducible dsimp only [List.set_cons_zero, List.set_cons_succ]) | refine ws_seq ?_ | refine ws_asg ?_ | refine ws_expr ?_ | refine ws_ret ?_ | refine ws_if ?_ | refine ws_asgT ?_ | refine ws_setIx ?_ | refine ws_skip ?_ | refine ws_retN ?_ | refine ws_brk ?_ | refine ws_cont ?_ | refine ws_thenR ?_ | refine ws_thenB ?_ | refine ws_thenC ?_ | refine fq_rt ?_ | refine fq_nx ?_ | refine un_nx ?_ | refine un_ct ?_ | refine un_bk ?_ | refine un_rt ?_ | refine ws_loopN ?_
  | (refine ws_loopC (ρ1 := ?r) ?h ?q; (case h => with_unfolding_all rfl); try with_reducible dsimp only [List.set_cons_zero, List.set_cons_succ])
  | refine wp_c ?_ | refine wp_op2 ?_ | refine wp_fn ?_ | refine wp_cons ?_ | refine wp_nil ?_ | refine wp_call ?_ | refine wp_op1 ?_
  | (refine wp_var (d := ?d) ?h ?q; (case h => with_unfolding_all rfl))
  | (refine ws_aug (d := ?d) ?h ?q; (case h => with_unfolding_all rfl))
  | refine wp_tup ?_ | refine wp_lst ?_ | refine wp_lstM ?_ | refine wp_listM ?_
  | refine wp_sl0 ?_ | refine wp_sl1 ?_ | refine wp_sl2 ?_ | refine wp_sl3 ?_
  | refine wp_tval ?_ | refine wp_tnot ?_ | refine wp_tand ?_ | refine wp_tor ?_ | refine wp_tyes ?_ | refine wp_and ?_ | refine wp_or ?_ | refine wp_not ?_ | refine wp_ifx ?_ | refine wp_chain ?_ | refine wp_meth ?_ | refine wp_meth0 ?_
  | refine wp_isi ?_ | refine wp_isis ?_ | refine wp_repr ?_ | refine wp_maxD ?_ | refine wi_rng3 ?_
  | refine wi_seq ?_ | refine wi_rng1 ?_ | refine wi_rng2 ?_ | refine wi_zip2 ?_ | refine wi_zipS ?_
  | (refine wp_fnB (ρ := ?ρ) ?he ?_; (case he => (simp only [List.map_cons, List.map_nil, List.length_cons, List.length_nil, List.replicate, List.cons_append, List.nil_append, Nat.reduceAdd, Nat.reduceSub]; rfl))))
local macro_rules | `(tactic| walk_at "w2") => `(tactic| ((with_reducible refine wo_id ?_); with_reducible first
  | refine vo_sub ?_ | refine vo_add ?_ | refine vo_lt ?_ | refine vo_le ?_ | refine vo_gt ?_ | refine vo_ge ?_ | refine vo_eq ?_ | refine vo_ne ?_ | refine vo_eqS ?_ | refine vo_neS ?_ | refine vo_eqB ?_ | refine vo_neB ?_ | refine vo_neg ?_ | refine vo_slT ?_ | refine vo_slL ?_ | refine vo_slS ?_ | refine vo_lenT ?_ | refine vo_lenL ?_ | refine vo_lenS ?_ | refine vo_revT ?_ | refine vo_revL ?_ | refine vo_min ?_ | refine vo_max ?_ | refine vo_tupL ?_ | refine vo_tupT ?_ | refine vo_lisL ?_ | refine vo_lisT ?_
  | refine vo_igAdd ?_ | refine vo_igMulR (by omega) ?_ | refine vo_igMulL (by omega) ?_ | refine vo_mod (by omega) ?_ | refine vo_div (by omega) ?_ | refine vo_mulR (by omega) ?_ | refine vo_mulL (by omega) ?_
  | refine vo_ixL0 ?_ | refine vo_ixL1 ?_ | refine vo_ixL2 ?_ | refine vo_ixL3 ?_ | refine vo_ixL4 ?_ | refine vo_ixL5 ?_ | refine vo_ixL6 ?_ | refine vo_ixT0 ?_ | refine vo_ixT1 ?_ | refine vo_ixT2 ?_ | refine vo_ixT3 ?_ | refine vo_ixT4 ?_ | refine vo_ixT5 ?_ | refine vo_ixT6 ?_
  | refine wo_vw1 (by assumption) ?_ | refine wo_vw2 (by assumption) ?_ | refine vo_vwc (by assumption) ?_
  | (refine vo_isi (c := ?c) ?h ?q; (case h => with_unfolding_all rfl)) | (refine vo_isis (c := ?c) ?h ?q; (case h => with_unfolding_all rfl))))
local macro_rules | `(tactic| walk_at "w3") => `(tactic| first
  | with_reducible refine ite_f ?_ | with_reducible refine ite_nt ?_ | with_reducible refine ite_nf ?_ | with_reducible refine ite_t ?_
  | ((with_reducible refine ex_id ?_); refine ⟨_, rfl, ?_⟩) | ((with_reducible refine and_id ?_); refine ⟨Nat.le_of_ble_eq_true rfl, ?_⟩))
local macro_rules | `(tactic| walk_at "w") => `(tactic| repeat (first | walk_at "w1" | walk_at "w2" | walk_at "w3"))
/-- a loop over a fixed list of ints that carries one value -/
theorem wp_worth {S : Sto} {xs : List Int} {x : Int} (hx : -1000 ≤ x ∧ x ≤ 1000) {Q : D → Sto → Prop} {E : Px} (q : Q (.int (wz xs x)) S) : Wp (d_worth_at [.tup (xs.map .int), .int x] S) Q E := by
  refine wp_fnP (by simp [noRefs, noRef, noRefs_int]) ?_
  unfold b_worth_at
  walk_at "w"
  unfold l_worth_at_1
  refine ws_for [2, 3] ?_
  walk_at "w"
  refine ⟨_, Or.inl rfl, ?_⟩
  refine ⟨fun j vs S => S = [] ∧ ∃ w d, vs = [some (.int w), d] ∧ w = (xs.reverse.take j).foldl (fun w s => (w * x + s) % 31) 0, [some (.int 0), none], rfl, rfl, ⟨rfl, 0, none, rfl, by simp⟩, ?_, ?_⟩
  · rintro j d vs S hj hv ⟨rfl, w, d3, rfl, hw⟩
    rw [← List.map_reverse, List.getElem?_map] at hj
    obtain ⟨s, hs, rfl⟩ := Option.map_eq_some_iff.mp hj
    refine ⟨_, rfl, ?_⟩
    unfold lb_worth_at_1
    walk_at "w"
    exact ⟨[some (.int ((w * x + s) % 31)), some (.int s)], rfl, rfl, rfl, _, _, rfl, by rw [foldl_take hs, ← hw]⟩
  · rintro vs S1 hv ⟨rfl, w, d, rfl, hw⟩
    rw [List.length_reverse, List.length_map, List.take_of_length_le (by simp)] at hw
    walk_at "w"
    refine ⟨rfl, ?_⟩
    show Q (.int w) S
    rw [hw]
    exact q
end LS
set_option Elab.async false
set_option linter.all false
set_option maxRecDepth 100000
set_option maxHeartbeats 4000000
namespace DL
def fil (xs : List Int) (m : Nat) : List Int := xs ++ List.replicate (m - xs.length) 0
theorem fil_len {xs : List Int} {m : Nat} (h : xs.length ≤ m) : (fil xs m).length = m := by simp [fil]; omega
theorem fil_get {xs : List Int} {m : Nat} (i : Nat) (h : i < m) : (fil xs m)[i]?.getD 0 = xs[i]?.getD 0 := by
  unfold fil
  by_cases h2 : i < xs.length
  · rw [List.getElem?_append_left h2]
  · rw [List.getElem?_append_right (by omega), List.getElem?_replicate, List.getElem?_eq_none (by omega : xs.length ≤ i)]
    split <;> rfl
def sums (xs ys : List Int) : List Int := (List.range (max xs.length ys.length)).map fun i => (xs[i]?.getD 0 + ys[i]?.getD 0) % 31
theorem sums_comm (xs ys : List Int) : sums xs ys = sums ys xs := by
  unfold sums
  rw [Nat.max_comm]
  apply List.map_congr_left
  intro i _
  rw [Int.add_comm]
theorem zip_sums (xs ys : List Int) : ((fil xs (max xs.length ys.length)).zip (fil ys (max xs.length ys.length))).map (fun p => (p.1 + p.2) % 31) = sums xs ys := by
  have l1 := fil_len (xs := xs) (m := max xs.length ys.length) (by omega)
  have l2 := fil_len (xs := ys) (m := max xs.length ys.length) (by omega)
  apply List.ext_getElem
  · simp [sums, l1, l2]
  · intro i h1 h2
    have hi : i < max xs.length ys.length := by simpa [sums] using h2
    rw [List.getElem_map, List.getElem_zip]
    simp only [sums, List.getElem_map, List.getElem_range]
    rw [← fil_get i hi, ← fil_get (xs := ys) i hi, List.getElem?_eq_getElem (by omega), List.getElem?_eq_getElem (by omega)]
    rfl
theorem zipDs_ints (xs ys : List Int) : zipDs (xs.map .int) (ys.map .int) = (xs.zip ys).map fun p => .tup [.int p.1, .int p.2] := by
  unfold zipDs
  rw [List.zip_map, List.map_map]
  rfl
theorem wz_nil (x : Int) : wz [] x = 0 := rfl
theorem wz_cons (a : Int) (xs : List Int) (x : Int) : wz (a :: xs) x = (wz xs x * x + a) % 31 := by simp [wz, List.foldl_append]
theorem wz_mod31 (x : Int) (xs : List Int) : wz xs x % 31 = wz xs x := by
  cases xs with
  | nil => rfl
  | cons a xs => rw [wz_cons]; simp
theorem sums_cons (a b : Int) (xs ys : List Int) : sums (a :: xs) (b :: ys) = (a + b) % 31 :: sums xs ys := by
  unfold sums
  rw [List.length_cons, List.length_cons, show max (xs.length + 1) (ys.length + 1) = max xs.length ys.length + 1 by omega, List.range_succ_eq_map]
  simp [List.map_map, Function.comp_def]
theorem sums_nil (ys : List Int) : sums [] ys = ys.map (· % 31) := by
  unfold sums
  apply List.ext_getElem
  · simp
  · intro i h1 h2
    simp at h1
    simp [h1]
theorem wz_maps (x : Int) : ∀ ys : List Int, wz (ys.map (· % 31)) x = wz ys x
  | [] => rfl
  | y :: ys => by
    rw [List.map_cons, wz_cons, wz_cons, wz_maps x ys, Int.add_emod, Int.emod_emod, ← Int.add_emod]
theorem wz_sums (x : Int) : ∀ xs ys : List Int, wz (sums xs ys) x = (wz xs x + wz ys x) % 31
  | [], ys => by rw [sums_nil, wz_maps, wz_nil, Int.zero_add, wz_mod31]
  | xs, [] => by rw [sums_comm, sums_nil, wz_maps, wz_nil, Int.add_zero, wz_mod31]
  | a :: xs, b :: ys => by
    rw [sums_cons, wz_cons, wz_cons, wz_cons, wz_sums x xs ys, ← Int.add_emod]
    rw [Int.add_emod, Int.mul_emod, Int.emod_emod, ← Int.mul_emod, Int.emod_emod, ← Int.add_emod]
    congr 1
    rw [Int.add_mul]
    omega
theorem wz_times (x m : Int) : ∀ xs : List Int, wz (xs.map fun s => s * m % 31) x = wz xs x * m % 31
  | [] => by simp [wz_nil]
  | a :: xs => by
    rw [List.map_cons, wz_cons, wz_cons, wz_times x m xs]
    rw [Int.add_emod, Int.mul_emod, Int.emod_emod, ← Int.mul_emod, Int.emod_emod, ← Int.add_emod, Int.mul_emod ((wz xs x * x + a) % 31), Int.emod_emod, ← Int.mul_emod]
    congr 1
    rw [Int.add_mul, Int.mul_assoc, Int.mul_comm m x, ← Int.mul_assoc]
theorem sums_len (xs ys : List Int) : (sums xs ys).length = max xs.length ys.length := by simp [sums]
theorem row_sums (xs ys : List Int) : Row (sums xs ys) := fun x hx => by
  unfold sums at hx
  obtain ⟨i, _, rfl⟩ := List.mem_map.mp hx
  omega
/-- rows summed, each by its weight -/
def ans0 (ps : List (List Int × Int)) : List Int := ps.foldl (fun f p => sums f (p.1.map fun s => s * p.2 % 31)) []
theorem ans0_row : ∀ (ps : List (List Int × Int)) (f : List Int), Row f → Row (ps.foldl (fun f p => sums f (p.1.map fun s => s * p.2 % 31)) f)
  | [], f, h => h
  | p :: ps, f, h => ans0_row ps _ (row_sums _ _)
theorem ans0_wz (x : Int) : ∀ (ps : List (List Int × Int)) (f : List Int), wz (ps.foldl (fun f p => sums f (p.1.map fun s => s * p.2 % 31)) f) x = (wz f x + (ps.map fun p => wz p.1 x * p.2).sum) % 31
  | [], f => by simp [wz_mod31]
  | p :: ps, f => by
    rw [List.foldl_cons, ans0_wz x ps, wz_sums, wz_times, List.map_cons, List.sum_cons]
    omega
def lng (n : Nat) (ps : List (List Int × Int)) : Nat := ps.foldl (fun n p => max n p.1.length) n
theorem ans0_len : ∀ (ps : List (List Int × Int)) (f : List Int), (ps.foldl (fun f p => sums f (p.1.map fun s => s * p.2 % 31)) f).length = lng f.length ps
  | [], f => rfl
  | p :: ps, f => by
    rw [List.foldl_cons, ans0_len ps, sums_len, List.length_map]
    rfl
theorem sums_get (xs ys : List Int) (i : Nat) : (sums xs ys)[i]?.getD 0 = (xs[i]?.getD 0 + ys[i]?.getD 0) % 31 := by
  by_cases h : i < max xs.length ys.length
  · rw [List.getElem?_eq_getElem (by rw [sums_len]; exact h)]
    simp [sums]
  · rw [List.getElem?_eq_none (by rw [sums_len]; omega), List.getElem?_eq_none (by omega : xs.length ≤ i), List.getElem?_eq_none (by omega : ys.length ≤ i)]
    rfl
theorem ans0_get (i : Nat) : ∀ (ps : List (List Int × Int)) (f : List Int), (ps.foldl (fun f p => sums f (p.1.map fun s => s * p.2 % 31)) f)[i]?.getD 0 % 31 = (f[i]?.getD 0 + (ps.map fun p => p.1[i]?.getD 0 * p.2).sum) % 31
  | [], f => by simp
  | p :: ps, f => by
    rw [List.foldl_cons, ans0_get i ps, sums_get, List.map_cons, List.sum_cons]
    have e : (p.1.map fun s => s * p.2 % 31)[i]?.getD 0 = p.1[i]?.getD 0 * p.2 % 31 := by
      rw [List.getElem?_map]
      cases p.1[i]? <;> simp
    rw [e]
    omega
/-- by columns -/
theorem ans0_cols (ps : List (List Int × Int)) : ans0 ps = (List.range (lng 0 ps)).map fun i => (ps.map fun p => p.1[i]?.getD 0 * p.2).sum % 31 := by
  have hl : (ans0 ps).length = lng 0 ps := ans0_len ps []
  apply List.ext_getElem
  · simp [hl]
  · intro i h1 h2
    have h3 := ans0_get i ps []
    have h4 : Row (ans0 ps) := ans0_row ps [] (fun x hx => by simp at hx)
    have h5 := h4 _ (List.getElem_mem h1)
    change (ans0 ps)[i]?.getD 0 % 31 = _ at h3
    rw [List.getElem?_eq_getElem h1] at h3
    simp only [Option.getD_some, List.getElem?_nil, Option.getD_none, Int.zero_add] at h3
    rw [List.getElem_map, List.getElem_range, ← h3]
    omega
theorem lng_le {m : Nat} : ∀ (ps : List (List Int × Int)) (n : Nat), n ≤ m → (∀ p ∈ ps, p.1.length ≤ m) → lng n ps ≤ m
  | [], n, h, _ => h
  | p :: ps, n, h, hp => lng_le ps (max n p.1.length) (by have := hp p (by simp); omega) fun q hq => hp q (by simp [hq])
theorem asIs_map : ∀ xs : List Int, asIs (xs.map .int) = some xs
  | [] => rfl
  | x :: xs => by simp [asIs, asIs_map xs]
theorem wo_sumL {xs : List Int} {S : Sto} {Q : D → Prop} (q : Q (.int xs.sum)) : Wo (sumD (List.map (view S) [.lst (xs.map .int)])) Q := .of (by show sumD [.lst (xs.map .int)] = _; simp only [sumD, asIs_map, Option.map_some]) q
end DL
namespace LS
open DL
local macro_rules | `(tactic| walk_at "w1") => `(tactic| with_reducible first
  | (refine ws_then ?_; try with_reducible dsimp only [List.set_cons_zero, List.set_cons_succ]) | refine ws_seq ?_ | refine ws_asg ?_ | refine ws_expr ?_ | refine ws_ret ?_ | refine ws_if ?_ | refine ws_asgT ?_ | refine ws_setIx ?_ | refine ws_skip ?_ | refine ws_retN ?_ | refine ws_brk ?_ | refine ws_cont ?_ | refine ws_thenR ?_ | refine ws_thenB ?_ | refine ws_thenC ?_ | refine fq_rt ?_ | refine fq_nx ?_ | refine un_nx ?_ | refine un_ct ?_ | refine un_bk ?_ | refine un_rt ?_ | refine ws_loopN ?_
  | (refine ws_loopC (ρ1 := ?r) ?h ?q; (case h => with_unfolding_all rfl); try with_reducible dsimp only [List.set_cons_zero, List.set_cons_succ])
  | refine wp_c ?_ | refine wp_op2 ?_ | refine wp_fn ?_ | refine wp_cons ?_ | refine wp_nil ?_ | refine wp_call ?_ | refine wp_op1 ?_
  | (refine wp_var (d := ?d) ?h ?q; (case h => with_unfolding_all rfl))
  | (refine ws_aug (d := ?d) ?h ?q; (case h => with_unfolding_all rfl))
  | refine wp_tup ?_ | refine wp_lst ?_ | refine wp_lstM ?_ | refine wp_listM ?_
  | refine wp_sl0 ?_ | refine wp_sl1 ?_ | refine wp_sl2 ?_ | refine wp_sl3 ?_
  | refine wp_tval ?_ | refine wp_tnot ?_ | refine wp_tand ?_ | refine wp_tor ?_ | refine wp_tyes ?_ | refine wp_and ?_ | refine wp_or ?_ | refine wp_not ?_ | refine wp_ifx ?_ | refine wp_chain ?_ | refine wp_meth ?_ | refine wp_meth0 ?_
  | refine wp_isi ?_ | refine wp_isis ?_ | refine wp_repr ?_ | refine wp_maxD ?_ | refine wi_rng3 ?_
  | refine wi_seq ?_ | refine wi_rng1 ?_ | refine wi_rng2 ?_ | refine wi_zip2 ?_ | refine wi_zipS ?_
  | (refine wp_fnB (ρ := ?ρ) ?he ?_; (case he => (simp only [List.map_cons, List.map_nil, List.length_cons, List.length_nil, List.replicate, List.cons_append, List.nil_append, Nat.reduceAdd, Nat.reduceSub]; rfl))))
local macro_rules | `(tactic| walk_at "w2") => `(tactic| ((with_reducible refine wo_id ?_); with_reducible first
  | refine vo_sub ?_ | refine vo_add ?_ | refine vo_lt ?_ | refine vo_le ?_ | refine vo_gt ?_ | refine vo_ge ?_ | refine vo_eq ?_ | refine vo_ne ?_ | refine vo_eqS ?_ | refine vo_neS ?_ | refine vo_eqB ?_ | refine vo_neB ?_ | refine vo_neg ?_ | refine vo_slT ?_ | refine vo_slL ?_ | refine vo_slS ?_ | refine vo_lenT ?_ | refine vo_lenL ?_ | refine vo_lenS ?_ | refine vo_revT ?_ | refine vo_revL ?_ | refine vo_min ?_ | refine vo_max ?_ | refine vo_tupL ?_ | refine vo_tupT ?_ | refine vo_lisL ?_ | refine vo_lisT ?_
  | refine vo_igAdd ?_ | refine vo_igMulR (by omega) ?_ | refine vo_igMulL (by omega) ?_ | refine vo_mod (by omega) ?_ | refine vo_div (by omega) ?_ | refine vo_mulR (by omega) ?_ | refine vo_mulL (by omega) ?_
  | refine vo_ixL0 ?_ | refine vo_ixL1 ?_ | refine vo_ixL2 ?_ | refine vo_ixL3 ?_ | refine vo_ixL4 ?_ | refine vo_ixL5 ?_ | refine vo_ixL6 ?_ | refine vo_ixT0 ?_ | refine vo_ixT1 ?_ | refine vo_ixT2 ?_ | refine vo_ixT3 ?_ | refine vo_ixT4 ?_ | refine vo_ixT5 ?_ | refine vo_ixT6 ?_
  | refine wo_vw1 (by assumption) ?_ | refine wo_vw2 (by assumption) ?_ | refine vo_vwc (by assumption) ?_
  | (refine vo_isi (c := ?c) ?h ?q; (case h => with_unfolding_all rfl)) | (refine vo_isis (c := ?c) ?h ?q; (case h => with_unfolding_all rfl))))
local macro_rules | `(tactic| walk_at "w3") => `(tactic| first
  | with_reducible refine ite_f ?_ | with_reducible refine ite_nt ?_ | with_reducible refine ite_nf ?_ | with_reducible refine ite_t ?_
  | ((with_reducible refine ex_id ?_); refine ⟨_, rfl, ?_⟩) | ((with_reducible refine and_id ?_); refine ⟨Nat.le_of_ble_eq_true rfl, ?_⟩))
local macro_rules | `(tactic| walk_at "w") => `(tactic| repeat (first | walk_at "w1" | walk_at "w2" | walk_at "w3"))
theorem wp_times {S : Sto} {xs : List Int} {m : Int} (hm : -1000 ≤ m ∧ m ≤ 1000) (hx : xs.length ≤ 1000000) {Q : D → Sto → Prop} {E : Px} (q : Q (.tup ((xs.map fun s => s * m % 31).map .int)) S) : Wp (d_times [.tup (xs.map .int), .int m] S) Q E := by
  refine wp_fnP (by simp [noRefs, noRef, noRefs_int]) ?_
  unfold b_times
  walk_at "w"
  unfold c_times_1
  refine wp_compM1 xs D.int (fun s => .int (s * m % 31)) (by omega) ?_
  walk_at "w"
  refine ⟨_, Or.inl rfl, rfl, fun x _ => ⟨_, rfl, ?_⟩, ?_⟩
  · unfold ce_times_1
    walk_at "w"
    exact ⟨rfl, rfl⟩
  walk_at "w"
  have e : (xs.map fun s => D.int (s * m % 31)) = (xs.map fun s => s * m % 31).map D.int := by rw [List.map_map]; rfl
  rw [e]
  exact ⟨by simp only [noRef]; exact noRefs_int _, q⟩
theorem wp_added {S : Sto} {xs ys : List Int} (hx : xs.length ≤ 100000) (hy : ys.length ≤ 100000) {Q : D → Sto → Prop} {E : Px} (q : Q (.tup ((sums xs ys).map .int)) S) : Wp (d_added [.tup (xs.map .int), .tup (ys.map .int)] S) Q E := by
  refine wp_fnP (by simp [noRefs, noRef, noRefs_int]) ?_
  unfold b_added
  walk_at "w"
  rw [List.length_map, List.length_map]
  obtain ⟨m, hm⟩ : ∃ m : Nat, m = max xs.length ys.length := ⟨_, rfl⟩
  have hmx : (if (ys.length : Int) > xs.length then (ys.length : Int) else xs.length) = (m : Int) := by
    split <;> omega
  rw [hmx]
  walk_at "w"
  refine wo_mulT (by omega) (by simp; omega) ?_
  rw [rep_one]
  refine vo_addT (by simp; omega) ?_
  rw [← List.map_append, show ((m : Int) - xs.length).toNat = m - xs.length by omega]
  walk_at "w"
  unfold c_added_1
  have l1 := fil_len (xs := xs) (m := m) (by omega)
  have l2 := fil_len (xs := ys) (m := m) (by omega)
  refine wp_compM1 ((fil xs m).zip (fil ys m)) (fun p => .tup [.int p.1, .int p.2]) (fun p => .int ((p.1 + p.2) % 31)) (by simp [l1, l2]; omega) ?_
  walk_at "w"
  rw [List.length_map]
  refine wo_mulT (by omega) (by simp; omega) ?_
  rw [rep_one]
  refine vo_addT (by simp; omega) ?_
  rw [← List.map_append, show ((m : Int) - ys.length).toNat = m - ys.length by omega]
  refine ⟨_, _, Or.inr rfl, Or.inr rfl, ?_, zipDs_ints _ _, fun p _ => ⟨_, rfl, ?_⟩, ?_⟩
  · rw [List.length_map, List.length_map]
    exact l1.trans l2.symm
  · unfold ce_added_1
    walk_at "w"
    exact ⟨rfl, rfl⟩
  walk_at "w"
  have e : (((fil xs m).zip (fil ys m)).map fun p => D.int ((p.1 + p.2) % 31)) = (sums xs ys).map D.int := by
    rw [← zip_sums xs ys, ← hm, List.map_map]
    rfl
  rw [e]
  exact ⟨by simp only [noRef]; exact noRefs_int _, q⟩
end LS
namespace DL
mutual
theorem nor_s : ∀ d : D, smD d = true → noRef d = true
  | .non, _ => by simp only [noRef]
  | .bl _, _ => by simp only [noRef]
  | .int _, _ => by simp only [noRef]
  | .str _, _ => by simp only [noRef]
  | .tup xs, h => by simp only [noRef, nor_ss xs h]
  | .lst xs, h => by simp only [noRef, nor_ss xs h]
  | .dic _ _, h => by simp [smD] at h
  | .ref _, h => by simp [smD] at h
  | .raw _, h => by simp [smD] at h
  | .scr _, h => by simp [smD] at h
  | .exn _ _, h => by simp [smD] at h
theorem nor_ss : ∀ ds : List D, smDs ds = true → noRefs ds = true
  | [], _ => by simp only [noRefs]
  | d :: ds, h => by
    simp only [smDs, Bool.and_eq_true] at h
    simp only [noRefs, nor_s d h.1, nor_ss ds h.2, Bool.and_self]
end
end DL
set_option Elab.async false
set_option linter.all false
set_option maxRecDepth 100000
set_option maxHeartbeats 4000000
namespace DL
theorem no_div : ∀ b : Fin 31, ∀ d : Fin 31, b.val ≠ 0 → d.val ≠ 0 → (b.val * d.val) % 31 ≠ 0 := by decide +kernel
theorem no_divI {b d : Int} (h1 : 0 < b ∧ b < 31) (h2 : d % 31 ≠ 0) : 0 < b * d % 31 ∧ b * d % 31 < 31 := by
  obtain ⟨b', hb⟩ : ∃ b' : Nat, (b' : Int) = b := ⟨b.toNat, by omega⟩
  obtain ⟨d', hd⟩ : ∃ d' : Nat, (d' : Int) = d % 31 := ⟨(d % 31).toNat, by omega⟩
  have h := no_div ⟨b', by omega⟩ ⟨d', by omega⟩ (by simp; omega) (by simp; omega)
  simp only at h
  have e : b * d % 31 = ((b' * d' % 31 : Nat) : Int) := by
    rw [Int.mul_emod, ← hb, ← hd, Int.emod_eq_of_lt (by omega) (by omega : (b' : Int) < 31)]
    simp
  rw [e]
  omega
def quo : List Int → Int → List Int
  | [], _ => []
  | a :: xs, r => match xs with
    | [] => []
    | b :: ys => wz (b :: ys) r :: quo (b :: ys) r
theorem quo_len (r : Int) : ∀ (a : Int) (xs : List Int), (quo (a :: xs) r).length = xs.length
  | a, [] => rfl
  | a, b :: ys => by
    show (wz (b :: ys) r :: quo (b :: ys) r).length = _
    rw [List.length_cons, quo_len r b ys]
    rfl
theorem quo_row (r : Int) : ∀ xs : List Int, Row (quo xs r)
  | [] => fun x hx => by simp [quo] at hx
  | [a] => fun x hx => by simp [quo] at hx
  | a :: b :: ys => fun x hx => by
    rcases List.mem_cons.mp (show x ∈ wz (b :: ys) r :: quo (b :: ys) r from hx) with h | h
    · rw [h]; exact wz_rng _ _
    · exact quo_row r (b :: ys) x h
theorem me_mul {a a' b : Int} (h : a % 31 = a' % 31) : a * b % 31 = a' * b % 31 := by rw [Int.mul_emod, h, ← Int.mul_emod]
theorem wz_quo (r x : Int) : ∀ xs : List Int, wz xs x = (wz (quo xs r) x * (x - r) + wz xs r) % 31
  | [] => by simp [quo, wz_nil]
  | [a] => by
    show _ = (wz [] x * (x - r) + wz [a] r) % 31
    rw [wz_nil, wz_cons, wz_cons, wz_nil, wz_nil]
    simp
  | a :: b :: ys => by
    have ih := wz_quo r x (b :: ys)
    show _ = (wz (wz (b :: ys) r :: quo (b :: ys) r) x * (x - r) + wz (a :: b :: ys) r) % 31
    rw [wz_cons a, wz_cons a, wz_cons (wz (b :: ys) r)]
    generalize wz (b :: ys) r = X at *
    generalize wz (quo (b :: ys) r) x = q at *
    rw [ih]
    have e1 : (q * (x - r) + X) % 31 * x % 31 = (q * (x - r) + X) * x % 31 := me_mul (Int.emod_emod ..)
    have e2 : (q * x + X) % 31 * (x - r) % 31 = (q * x + X) * (x - r) % 31 := me_mul (Int.emod_emod ..)
    have e3 : (q * x + X) * (x - r) + (X * r + a) = (q * (x - r) + X) * x + a := by grind
    omega
theorem zero_back (r : Int) : ∀ xs : List Int, Row xs → (∀ c ∈ quo xs r, c = 0) → wz xs r = 0 → ∀ c ∈ xs, c = 0
  | [], _, _, _ => by simp
  | [a], h, _, hw => by
    rw [wz_cons, wz_nil] at hw
    have := h a (by simp)
    intro c hc
    simp at hc
    omega
  | a :: b :: ys, h, hq, hw => by
    have hq' : ∀ c ∈ wz (b :: ys) r :: quo (b :: ys) r, c = 0 := hq
    have h0 := hq' _ List.mem_cons_self
    have ih := zero_back r (b :: ys) (fun x hx => h x (List.mem_cons_of_mem _ hx)) (fun c hc => hq' c (List.mem_cons_of_mem _ hc)) h0
    rw [wz_cons, h0] at hw
    have := h a (by simp)
    intro c hc
    rcases List.mem_cons.mp hc with rfl | hc
    · omega
    · exact ih c hc
theorem roots : ∀ (n : Nat) (xs : List Int) (R : List Int), xs.length = n → Row xs → R.Nodup → (∀ x ∈ R, 0 ≤ x ∧ x < 31) → (∀ x ∈ R, wz xs x = 0) → n ≤ R.length → ∀ c ∈ xs, c = 0
  | 0, xs, R, hn, _, _, _, _, _ => by
    rw [List.length_eq_zero_iff.mp hn]
    simp
  | n + 1, xs, R, hn, hr, hd, hR, hw, hl => by
    cases R with
    | nil => simp at hl
    | cons r R =>
      cases xs with
      | nil => simp at hn
      | cons a xs =>
        have hd' := List.nodup_cons.mp hd
        refine zero_back r _ hr (roots n _ R (by rw [quo_len]; simpa using hn) (quo_row r _) hd'.2 (fun x hx => hR x (by simp [hx])) (fun x hx => ?_) (by simpa using hl)) (hw r (by simp))
        have h1 := wz_quo r x (a :: xs)
        rw [hw x (by simp [hx]), hw r (by simp), Int.add_zero] at h1
        have h2 := wz_rng (quo (a :: xs) r) x
        rcases Int.lt_or_eq_of_le h2.1 with h3 | h3
        · have hx1 := hR x (by simp [hx])
          have hr1 := hR r (by simp)
          have ne : x ≠ r := fun e => hd'.1 (e ▸ hx)
          have := no_divI (b := wz (quo (a :: xs) r) x) (d := x - r) ⟨h3, h2.2⟩ (by omega)
          omega
        · exact h3.symm
theorem uniq {xs ys : List Int} (hx : Row xs) (hy : Row ys) (hl : xs.length = ys.length) {R : List Int} (hd : R.Nodup) (hR : ∀ x ∈ R, 0 ≤ x ∧ x < 31) (hw : ∀ x ∈ R, wz xs x = wz ys x) (hn : xs.length ≤ R.length) : xs = ys := by
  have h1 := roots xs.length (sums xs (ys.map fun s => s * 30 % 31)) R (by simp [sums]; omega) (row_sums _ _) hd hR (fun x h => by
    rw [wz_sums, wz_times, hw x h]
    omega) hn
  apply List.ext_getElem hl
  intro i h2 h3
  have h4 := h1 ((xs[i]?.getD 0 + (ys.map fun s => s * 30 % 31)[i]?.getD 0) % 31) (List.mem_map.mpr ⟨i, by simp; omega, rfl⟩)
  rw [List.getElem?_map, List.getElem?_eq_getElem h2, List.getElem?_eq_getElem h3] at h4
  simp only [Option.getD_some, Option.map_some] at h4
  have a1 := hx _ (List.getElem_mem h2)
  have a2 := hy _ (List.getElem_mem h3)
  omega
end DL
namespace DL
def sg1 : D → Bool
  | .int i => decide (0 ≤ i ∧ i < 31)
  | _ => false
def rwB : D → Bool
  | .tup xs => decide (xs.length ≤ 1200) && xs.all sg1
  | _ => false
theorem asBs_mp {α : Type} (f : α → Bool) : ∀ xs : List α, asBs (xs.map fun x => .bl (f x)) = some (xs.map f)
  | [] => rfl
  | x :: xs => by simp [asBs, asBs_mp f xs]
theorem smDs_mm : ∀ {xs : List D}, smDs xs = true → ∀ x ∈ xs, smD x = true
  | x :: xs, h, y, hy => by
    simp only [smDs, Bool.and_eq_true] at h
    rcases List.mem_cons.mp hy with rfl | hy
    · exact h.1
    · exact smDs_mm h.2 y hy
theorem all_mp {α : Type} (f : α → Bool) (xs : List α) : (xs.map f).all id = xs.all f := by simp [List.all_map]
end DL
namespace LS
open DL
local macro_rules | `(tactic| walk_at "w1") => `(tactic| with_reducible first
  | (refine ws_then ?_; try with_reducible dsimp only [List.set_cons_zero, List.set_cons_succ]) | refine ws_seq ?_ | refine ws_asg ?_ | refine ws_expr ?_ | refine ws_ret ?_ | refine ws_if ?_ | refine ws_asgT ?_ | refine ws_setIx ?_ | refine ws_skip ?_ | refine ws_retN ?_ | refine ws_brk ?_ | refine ws_cont ?_ | refine ws_thenR ?_ | refine ws_thenB ?_ | refine ws_thenC ?_ | refine fq_rt ?_ | refine fq_nx ?_ | refine un_nx ?_ | refine un_ct ?_ | refine un_bk ?_ | refine un_rt ?_ | refine ws_loopN ?_
  | (refine ws_loopC (ρ1 := ?r) ?h ?q; (case h => with_unfolding_all rfl); try with_reducible dsimp only [List.set_cons_zero, List.set_cons_succ])
  | refine wp_c ?_ | refine wp_op2 ?_ | refine wp_fn ?_ | refine wp_cons ?_ | refine wp_nil ?_ | refine wp_call ?_ | refine wp_op1 ?_
  | (refine wp_var (d := ?d) ?h ?q; (case h => with_unfolding_all rfl))
  | (refine ws_aug (d := ?d) ?h ?q; (case h => with_unfolding_all rfl))
  | refine wp_tup ?_ | refine wp_lst ?_ | refine wp_lstM ?_ | refine wp_listM ?_
  | refine wp_sl0 ?_ | refine wp_sl1 ?_ | refine wp_sl2 ?_ | refine wp_sl3 ?_
  | refine wp_tval ?_ | refine wp_tnot ?_ | refine wp_tand ?_ | refine wp_tor ?_ | refine wp_tyes ?_ | refine wp_and ?_ | refine wp_or ?_ | refine wp_not ?_ | refine wp_ifx ?_ | refine wp_chain ?_ | refine wp_meth ?_ | refine wp_meth0 ?_
  | refine wp_isi ?_ | refine wp_isis ?_ | refine wp_repr ?_ | refine wp_maxD ?_ | refine wi_rng3 ?_
  | refine wi_seq ?_ | refine wi_rng1 ?_ | refine wi_rng2 ?_ | refine wi_zip2 ?_ | refine wi_zipS ?_
  | (refine wp_fnB (ρ := ?ρ) ?he ?_; (case he => (simp only [List.map_cons, List.map_nil, List.length_cons, List.length_nil, List.replicate, List.cons_append, List.nil_append, Nat.reduceAdd, Nat.reduceSub]; rfl))))
local macro_rules | `(tactic| walk_at "w2") => `(tactic| ((with_reducible refine wo_id ?_); with_reducible first
  | refine vo_sub ?_ | refine vo_add ?_ | refine vo_lt ?_ | refine vo_le ?_ | refine vo_gt ?_ | refine vo_ge ?_ | refine vo_eq ?_ | refine vo_ne ?_ | refine vo_eqS ?_ | refine vo_neS ?_ | refine vo_eqB ?_ | refine vo_neB ?_ | refine vo_neg ?_ | refine vo_slT ?_ | refine vo_slL ?_ | refine vo_slS ?_ | refine vo_lenT ?_ | refine vo_lenL ?_ | refine vo_lenS ?_ | refine vo_revT ?_ | refine vo_revL ?_ | refine vo_min ?_ | refine vo_max ?_ | refine vo_tupL ?_ | refine vo_tupT ?_ | refine vo_lisL ?_ | refine vo_lisT ?_
  | refine vo_igAdd ?_ | refine vo_igMulR (by omega) ?_ | refine vo_igMulL (by omega) ?_ | refine vo_mod (by omega) ?_ | refine vo_div (by omega) ?_ | refine vo_mulR (by omega) ?_ | refine vo_mulL (by omega) ?_
  | refine vo_ixL0 ?_ | refine vo_ixL1 ?_ | refine vo_ixL2 ?_ | refine vo_ixL3 ?_ | refine vo_ixL4 ?_ | refine vo_ixL5 ?_ | refine vo_ixL6 ?_ | refine vo_ixT0 ?_ | refine vo_ixT1 ?_ | refine vo_ixT2 ?_ | refine vo_ixT3 ?_ | refine vo_ixT4 ?_ | refine vo_ixT5 ?_ | refine vo_ixT6 ?_
  | refine wo_vw1 (by assumption) ?_ | refine wo_vw2 (by assumption) ?_ | refine vo_vwc (by assumption) ?_
  | (refine vo_isi (c := ?c) ?h ?q; (case h => with_unfolding_all rfl)) | (refine vo_isis (c := ?c) ?h ?q; (case h => with_unfolding_all rfl))))
local macro_rules | `(tactic| walk_at "w3") => `(tactic| first
  | with_reducible refine ite_f ?_ | with_reducible refine ite_nt ?_ | with_reducible refine ite_nf ?_ | with_reducible refine ite_t ?_
  | ((with_reducible refine ex_id ?_); refine ⟨_, rfl, ?_⟩) | ((with_reducible refine and_id ?_); refine ⟨Nat.le_of_ble_eq_true rfl, ?_⟩))
local macro_rules | `(tactic| walk_at "w") => `(tactic| repeat (first | walk_at "w1" | walk_at "w2" | walk_at "w3"))
theorem wp_is_sg {d : D} (h : smD d = true) {S : Sto} {Q : D → Sto → Prop} {E : Px} (q : Q (.bl (sg1 d)) S) : Wp (d_is_sign [d] S) Q E := by
  unfold d_is_sign b_is_sign
  walk_at "w"
  unfold d_is_whole b_is_whole
  cases d with
  | int i =>
    walk_at "w"
    refine ite_d (fun h1 => ?_) (fun h1 => ?_)
    · walk_at "w"
      have e : sg1 (.int i) = decide (i < 31) := by simp [sg1, h1]
      rw [← e]
      exact q
    · have e : sg1 (.int i) = false := by simp [sg1, h1]
      rw [e] at q
      exact q
  | non => walk_at "w"; exact q
  | bl b => walk_at "w"; exact q
  | str x => walk_at "w"; exact q
  | tup xs => walk_at "w"; exact q
  | lst xs => walk_at "w"; exact q
  | _ => simp [smD] at h
theorem wp_is_rw {d : D} (h : smD d = true) (hw : wtD d ≤ 100000) {S : Sto} {Q : D → Sto → Prop} {E : Px} (q : Q (.bl (rwB d)) S) : Wp (d_is_row [d, .int 1200] S) Q E := by
  unfold d_is_row b_is_row
  cases d with
  | tup xs =>
    walk_at "w"
    refine ⟨fun hl => ?_, fun hl => ?_⟩
    · have hl := of_decide_eq_true hl
      unfold c_is_row_1
      walk_at "w"
      refine wp_compM1 xs (fun x => x) (fun x => .bl (sg1 x)) (by omega) ?_
      walk_at "w"
      refine ⟨_, Or.inl rfl, by simp, fun x hx => ⟨_, rfl, ?_⟩, ?_⟩
      · unfold ce_is_row_1
        walk_at "w"
        exact wp_is_sg (smDs_mm h x hx) ⟨rfl, rfl⟩
      walk_at "w"
      refine .of (d := .bl (xs.all sg1)) ?_ ?_
      · show allD [.lst (xs.map fun x => .bl (sg1 x))] = _
        simp only [allD, asBs_mp, Option.map_some, all_mp]
      · have e : rwB (.tup xs) = xs.all sg1 := by
          have : xs.length ≤ 1200 := by omega
          simp [rwB, this]
        rw [← e]
        exact q
    · have hl := of_decide_eq_false hl
      have e : rwB (.tup xs) = false := by
        have : ¬ xs.length ≤ 1200 := by omega
        simp [rwB, this]
      rw [e] at q
      exact q
  | int i => walk_at "w"; exact q
  | non => walk_at "w"; exact q
  | bl b => walk_at "w"; exact q
  | str x => walk_at "w"; exact q
  | lst xs => walk_at "w"; exact q
  | _ => simp [smD] at h
end LS
set_option Elab.async false
set_option linter.all false
set_option maxRecDepth 100000
set_option maxHeartbeats 4000000
namespace LE
open PySem PySem.Spec PyProof.Rows L2 DL
end LE
set_option Elab.async false
set_option linter.all false
set_option maxRecDepth 100000
set_option maxHeartbeats 4000000
namespace LE
open DL
local macro_rules | `(tactic| walk_at "w1") => `(tactic| with_reducible first
  | (refine ws_then ?_; try with_reducible dsimp only [List.set_cons_zero, List.set_cons_succ]) | refine ws_seq ?_ | refine ws_asg ?_ | refine ws_expr ?_ | refine ws_ret ?_ | refine ws_if ?_ | refine ws_asgT ?_ | refine ws_setIx ?_ | refine ws_skip ?_ | refine ws_retN ?_ | refine ws_brk ?_ | refine ws_cont ?_ | refine ws_thenR ?_ | refine ws_thenB ?_ | refine ws_thenC ?_ | refine fq_rt ?_ | refine fq_nx ?_ | refine un_nx ?_ | refine un_ct ?_ | refine un_bk ?_ | refine un_rt ?_ | refine ws_loopN ?_
  | (refine ws_loopC (ρ1 := ?r) ?h ?q; (case h => with_unfolding_all rfl); try with_reducible dsimp only [List.set_cons_zero, List.set_cons_succ])
  | refine wp_c ?_ | refine wp_op2 ?_ | refine wp_fn ?_ | refine wp_cons ?_ | refine wp_nil ?_ | refine wp_call ?_ | refine wp_op1 ?_
  | (refine wp_var (d := ?d) ?h ?q; (case h => with_unfolding_all rfl))
  | (refine ws_aug (d := ?d) ?h ?q; (case h => with_unfolding_all rfl))
  | refine wp_tup ?_ | refine wp_lst ?_ | refine wp_lstM ?_ | refine wp_listM ?_
  | refine wp_sl0 ?_ | refine wp_sl1 ?_ | refine wp_sl2 ?_ | refine wp_sl3 ?_
  | refine wp_tval ?_ | refine wp_tnot ?_ | refine wp_tand ?_ | refine wp_tor ?_ | refine wp_tyes ?_ | refine wp_and ?_ | refine wp_or ?_ | refine wp_not ?_ | refine wp_ifx ?_ | refine wp_chain ?_ | refine wp_meth ?_ | refine wp_meth0 ?_
  | refine wp_isi ?_ | refine wp_isis ?_ | refine wp_repr ?_ | refine wp_maxD ?_ | refine wi_rng3 ?_
  | refine wi_seq ?_ | refine wi_rng1 ?_ | refine wi_rng2 ?_ | refine wi_zip2 ?_ | refine wi_zipS ?_
  | (refine wp_fnB (ρ := ?ρ) ?he ?_; (case he => (simp only [List.map_cons, List.map_nil, List.length_cons, List.length_nil, List.replicate, List.cons_append, List.nil_append, Nat.reduceAdd, Nat.reduceSub]; rfl))))
local macro_rules | `(tactic| walk_at "w2") => `(tactic| ((with_reducible refine wo_id ?_); with_reducible first
  | refine vo_sub ?_ | refine vo_add ?_ | refine vo_lt ?_ | refine vo_le ?_ | refine vo_gt ?_ | refine vo_ge ?_ | refine vo_eq ?_ | refine vo_ne ?_ | refine vo_eqS ?_ | refine vo_neS ?_ | refine vo_eqB ?_ | refine vo_neB ?_ | refine vo_neg ?_ | refine vo_slT ?_ | refine vo_slL ?_ | refine vo_slS ?_ | refine vo_lenT ?_ | refine vo_lenL ?_ | refine vo_lenS ?_ | refine vo_revT ?_ | refine vo_revL ?_ | refine vo_min ?_ | refine vo_max ?_ | refine vo_tupL ?_ | refine vo_tupT ?_ | refine vo_lisL ?_ | refine vo_lisT ?_
  | refine vo_igAdd ?_ | refine vo_igMulR (by omega) ?_ | refine vo_igMulL (by omega) ?_ | refine vo_mod (by omega) ?_ | refine vo_div (by omega) ?_ | refine vo_mulR (by omega) ?_ | refine vo_mulL (by omega) ?_
  | refine vo_ixL0 ?_ | refine vo_ixL1 ?_ | refine vo_ixL2 ?_ | refine vo_ixL3 ?_ | refine vo_ixL4 ?_ | refine vo_ixL5 ?_ | refine vo_ixL6 ?_ | refine vo_ixT0 ?_ | refine vo_ixT1 ?_ | refine vo_ixT2 ?_ | refine vo_ixT3 ?_ | refine vo_ixT4 ?_ | refine vo_ixT5 ?_ | refine vo_ixT6 ?_
  | refine wo_vw1 (by assumption) ?_ | refine wo_vw2 (by assumption) ?_ | refine vo_vwc (by assumption) ?_
  | (refine vo_isi (c := ?c) ?h ?q; (case h => with_unfolding_all rfl)) | (refine vo_isis (c := ?c) ?h ?q; (case h => with_unfolding_all rfl))))
local macro_rules | `(tactic| walk_at "w3") => `(tactic| first
  | with_reducible refine ite_f ?_ | with_reducible refine ite_nt ?_ | with_reducible refine ite_nf ?_ | with_reducible refine ite_t ?_
  | ((with_reducible refine ex_id ?_); refine ⟨_, rfl, ?_⟩) | ((with_reducible refine and_id ?_); refine ⟨Nat.le_of_ble_eq_true rfl, ?_⟩))
local macro_rules | `(tactic| walk_at "w") => `(tactic| repeat (first | walk_at "w1" | walk_at "w2" | walk_at "w3"))
theorem pick_lt {zs : List Int} {i : Int} (h : 0 ≤ i ∧ i < zs.length) : ∃ z ∈ zs, L2.atI (zs.map D.int) i = some (.int z) := ⟨zs[i.toNat]'(by omega), List.getElem_mem _, by rw [atI_in h.1 (by rw [List.length_map]; omega), List.getElem_map]⟩
/-- the pen: its count at most k -/
def PenS (S : Sto) (n : Nat) (k : Int) : Prop := ∃ (cells : List Int) (t r : Int), S[n]? = some (some (.lst [.lst (cells.map .int), .int t, .int r])) ∧ 0 ≤ t ∧ t ≤ k ∧ cells.length ≤ 1000
theorem PenS.mono {S : Sto} {n : Nat} {k k' : Int} (h : PenS S n k) (hk : k ≤ k') : PenS S n k' := by
  obtain ⟨c, t, r, h1, h2, h3, h4⟩ := h
  exact ⟨c, t, r, h1, h2, by omega, h4⟩
theorem PenS.lt {S : Sto} {n : Nat} {k : Int} (h : PenS S n k) : n < S.length := by
  obtain ⟨_, _, _, h, _⟩ := h
  exact (List.getElem?_eq_some_iff.mp h).1
theorem PenS.ext {S S' : Sto} {n : Nat} {k : Int} (h : PenS S n k) (e : Ext S S') : PenS S' n k := by
  obtain ⟨c, t, r, h1, h2⟩ := h
  exact ⟨c, t, r, e.at_ h1, h2⟩
theorem PenS.only {S S' : Sto} {n m : Nat} {k : Int} (h : PenS S n k) (e : Only m S S') (hm : n ≠ m) : PenS S' n k := by
  obtain ⟨c, t, r, h1, h2⟩ := h
  exact ⟨c, t, r, (e.2 n hm).trans h1, h2⟩
end LE
set_option Elab.async false
set_option linter.all false
set_option maxRecDepth 100000
set_option maxHeartbeats 4000000
namespace LH
open PySem PySem.Spec PyProof.Rows L2 DL
/-- need_of: 0:code 1:size -/
def b_need_of : Sx :=
  (sRet (eCall min2D [(eOp2 ixD (eVar 0) (eC (.int 1))), (eVar 1)]))
def d_need_of : Fn := fnB 2 b_need_of
def ce_columns_of_1 : Ex := (eSl (eVar 1) (some (eVar 2)) (some (eOp2 addD (eVar 2) (eOp2 ixD (eVar 0) (eC (.int 1))))))
def c_columns_of_1 : Ex := eComp (iRng3X (eC (.int 0)) (eCall lenD [(eVar 1)]) (eOp2 ixD (eVar 0) (eC (.int 1)))) (.nm 2) tYesX ce_columns_of_1 [2]
/-- columns_of: 0:code 1:row 2:at -/
def b_columns_of : Sx :=
  (sRet c_columns_of_1)
def d_columns_of : Fn := fnB 3 b_columns_of
def ce_shards_1 : Ex := (eFn LS.d_worth_at [(eVar 3), (eOp2 addD (eVar 4) (eC (.int 1)))])
def c_shards_1 : Ex := eComp (iSeq (eVar 2)) (.nm 3) tYesX ce_shards_1 [3]
def ce_shards_2 : Ex := (eCall tupleD [c_shards_1])
def c_shards_2 : Ex := eCompM (iRng1X (eOp2 ixD (eVar 0) (eC (.int 0)))) (.nm 4) tYesX ce_shards_2 [4]
/-- shards: 0:code 1:row 2:columns 3:column 4:j -/
def b_shards : Sx :=
  (sSeq (sAsg 2 (eFn d_columns_of [(eVar 0), (eVar 1)]))
    (sRet c_shards_2))
def d_shards : Fn := fnB 5 b_shards
end LH
set_option Elab.async false
set_option linter.all false
set_option maxRecDepth 100000
set_option maxHeartbeats 4000000
namespace LE
open DL
local macro_rules | `(tactic| walk_at "w1") => `(tactic| with_reducible first
  | (refine ws_then ?_; try with_reducible dsimp only [List.set_cons_zero, List.set_cons_succ]) | refine ws_seq ?_ | refine ws_asg ?_ | refine ws_expr ?_ | refine ws_ret ?_ | refine ws_if ?_ | refine ws_asgT ?_ | refine ws_setIx ?_ | refine ws_skip ?_ | refine ws_retN ?_ | refine ws_brk ?_ | refine ws_cont ?_ | refine ws_thenR ?_ | refine ws_thenB ?_ | refine ws_thenC ?_ | refine fq_rt ?_ | refine fq_nx ?_ | refine un_nx ?_ | refine un_ct ?_ | refine un_bk ?_ | refine un_rt ?_ | refine ws_loopN ?_
  | (refine ws_loopC (ρ1 := ?r) ?h ?q; (case h => with_unfolding_all rfl); try with_reducible dsimp only [List.set_cons_zero, List.set_cons_succ])
  | refine wp_c ?_ | refine wp_op2 ?_ | refine wp_fn ?_ | refine wp_cons ?_ | refine wp_nil ?_ | refine wp_call ?_ | refine wp_op1 ?_
  | (refine wp_var (d := ?d) ?h ?q; (case h => with_unfolding_all rfl))
  | (refine ws_aug (d := ?d) ?h ?q; (case h => with_unfolding_all rfl))
  | refine wp_tup ?_ | refine wp_lst ?_ | refine wp_lstM ?_ | refine wp_listM ?_
  | refine wp_sl0 ?_ | refine wp_sl1 ?_ | refine wp_sl2 ?_ | refine wp_sl3 ?_
  | refine wp_tval ?_ | refine wp_tnot ?_ | refine wp_tand ?_ | refine wp_tor ?_ | refine wp_tyes ?_ | refine wp_and ?_ | refine wp_or ?_ | refine wp_not ?_ | refine wp_ifx ?_ | refine wp_chain ?_ | refine wp_meth ?_ | refine wp_meth0 ?_
  | refine wp_isi ?_ | refine wp_isis ?_ | refine wp_repr ?_ | refine wp_maxD ?_ | refine wi_rng3 ?_
  | refine wi_seq ?_ | refine wi_rng1 ?_ | refine wi_rng2 ?_ | refine wi_zip2 ?_ | refine wi_zipS ?_
  | (refine wp_fnB (ρ := ?ρ) ?he ?_; (case he => (simp only [List.map_cons, List.map_nil, List.length_cons, List.length_nil, List.replicate, List.cons_append, List.nil_append, Nat.reduceAdd, Nat.reduceSub]; rfl))))
local macro_rules | `(tactic| walk_at "w2") => `(tactic| ((with_reducible refine wo_id ?_); with_reducible first
  | refine vo_sub ?_ | refine vo_add ?_ | refine vo_lt ?_ | refine vo_le ?_ | refine vo_gt ?_ | refine vo_ge ?_ | refine vo_eq ?_ | refine vo_ne ?_ | refine vo_eqS ?_ | refine vo_neS ?_ | refine vo_eqB ?_ | refine vo_neB ?_ | refine vo_neg ?_ | refine vo_slT ?_ | refine vo_slL ?_ | refine vo_slS ?_ | refine vo_lenT ?_ | refine vo_lenL ?_ | refine vo_lenS ?_ | refine vo_revT ?_ | refine vo_revL ?_ | refine vo_min ?_ | refine vo_max ?_ | refine vo_tupL ?_ | refine vo_tupT ?_ | refine vo_lisL ?_ | refine vo_lisT ?_
  | refine vo_igAdd ?_ | refine vo_igMulR (by omega) ?_ | refine vo_igMulL (by omega) ?_ | refine vo_mod (by omega) ?_ | refine vo_div (by omega) ?_ | refine vo_mulR (by omega) ?_ | refine vo_mulL (by omega) ?_
  | refine vo_ixL0 ?_ | refine vo_ixL1 ?_ | refine vo_ixL2 ?_ | refine vo_ixL3 ?_ | refine vo_ixL4 ?_ | refine vo_ixL5 ?_ | refine vo_ixL6 ?_ | refine vo_ixT0 ?_ | refine vo_ixT1 ?_ | refine vo_ixT2 ?_ | refine vo_ixT3 ?_ | refine vo_ixT4 ?_ | refine vo_ixT5 ?_ | refine vo_ixT6 ?_
  | refine wo_vw1 (by assumption) ?_ | refine wo_vw2 (by assumption) ?_ | refine vo_vwc (by assumption) ?_
  | (refine vo_isi (c := ?c) ?h ?q; (case h => with_unfolding_all rfl)) | (refine vo_isis (c := ?c) ?h ?q; (case h => with_unfolding_all rfl))))
local macro_rules | `(tactic| walk_at "w3") => `(tactic| first
  | with_reducible refine ite_f ?_ | with_reducible refine ite_nt ?_ | with_reducible refine ite_nf ?_ | with_reducible refine ite_t ?_
  | ((with_reducible refine ex_id ?_); refine ⟨_, rfl, ?_⟩) | ((with_reducible refine and_id ?_); refine ⟨Nat.le_of_ble_eq_true rfl, ?_⟩))
local macro_rules | `(tactic| walk_at "w") => `(tactic| repeat (first | walk_at "w1" | walk_at "w2" | walk_at "w3"))
end LE
namespace DL
def cols (k : Nat) (xs : List Int) : List (List Int) := (List.range (rgN 0 xs.length k)).map fun i => cutL xs (some (0 + (i : Nat) * (k : Int))) (some (0 + (i : Nat) * (k : Int) + k))
def shs (n k : Nat) (xs : List Int) : List (List Int) := (List.range n).map fun j => (cols k xs).map fun c => wz c ((j : Nat) + 1)
theorem cols_len (k : Nat) (xs : List Int) : (cols k xs).length ≤ xs.length := by
  have h := PyProof.Rows.rangeSize_toNat_le 0 xs.length k
  unfold cols
  rw [List.length_map, List.length_range]
  unfold rgN
  omega
def rowD (xs : List Int) : D := .tup (xs.map .int)
theorem small_up {l k : Nat} (h : l ≤ 1000000) (h2 : k ≤ 1000000) : PySem.Builtin.Range.small 0 l k = true := by
  have e := PyProof.Rows.rangeSize_toNat 0 (l : Int) (k : Int)
  have h3 := PyProof.Rows.rangeSize_toNat_le 0 (l : Int) (k : Int)
  unfold PySem.Builtin.Range.small
  rw [e]
  generalize (PySem.Builtin.Range.rangeSize 0 (l : Int) (k : Int)).toNat = m at *
  simp only [PySem.Builtin.Range.rangeFitsLong, Bool.and_eq_true, Bool.or_eq_true, decide_eq_true_eq, beq_iff_eq]
  refine ⟨by omega, Or.inr ?_⟩
  split <;> simp only [Bool.and_eq_true, decide_eq_true_eq] <;> omega
theorem shs_row {n k : Nat} {xs : List Int} {r : List Int} (h : r ∈ shs n k xs) : Row r ∧ r.length ≤ xs.length := by
  unfold shs at h
  obtain ⟨j, _, rfl⟩ := List.mem_map.mp h
  refine ⟨fun x hx => ?_, by rw [List.length_map]; exact cols_len k xs⟩
  obtain ⟨c, _, rfl⟩ := List.mem_map.mp hx
  exact wz_rng _ _
end DL
namespace LE
open DL
local macro_rules | `(tactic| walk_at "w1") => `(tactic| with_reducible first
  | (refine ws_then ?_; try with_reducible dsimp only [List.set_cons_zero, List.set_cons_succ]) | refine ws_seq ?_ | refine ws_asg ?_ | refine ws_expr ?_ | refine ws_ret ?_ | refine ws_if ?_ | refine ws_asgT ?_ | refine ws_setIx ?_ | refine ws_skip ?_ | refine ws_retN ?_ | refine ws_brk ?_ | refine ws_cont ?_ | refine ws_thenR ?_ | refine ws_thenB ?_ | refine ws_thenC ?_ | refine fq_rt ?_ | refine fq_nx ?_ | refine un_nx ?_ | refine un_ct ?_ | refine un_bk ?_ | refine un_rt ?_ | refine ws_loopN ?_
  | (refine ws_loopC (ρ1 := ?r) ?h ?q; (case h => with_unfolding_all rfl); try with_reducible dsimp only [List.set_cons_zero, List.set_cons_succ])
  | refine wp_c ?_ | refine wp_op2 ?_ | refine wp_fn ?_ | refine wp_cons ?_ | refine wp_nil ?_ | refine wp_call ?_ | refine wp_op1 ?_
  | (refine wp_var (d := ?d) ?h ?q; (case h => with_unfolding_all rfl))
  | (refine ws_aug (d := ?d) ?h ?q; (case h => with_unfolding_all rfl))
  | refine wp_tup ?_ | refine wp_lst ?_ | refine wp_lstM ?_ | refine wp_listM ?_
  | refine wp_sl0 ?_ | refine wp_sl1 ?_ | refine wp_sl2 ?_ | refine wp_sl3 ?_
  | refine wp_tval ?_ | refine wp_tnot ?_ | refine wp_tand ?_ | refine wp_tor ?_ | refine wp_tyes ?_ | refine wp_and ?_ | refine wp_or ?_ | refine wp_not ?_ | refine wp_ifx ?_ | refine wp_chain ?_ | refine wp_meth ?_ | refine wp_meth0 ?_
  | refine wp_isi ?_ | refine wp_isis ?_ | refine wp_repr ?_ | refine wp_maxD ?_ | refine wi_rng3 ?_
  | refine wi_seq ?_ | refine wi_rng1 ?_ | refine wi_rng2 ?_ | refine wi_zip2 ?_ | refine wi_zipS ?_
  | (refine wp_fnB (ρ := ?ρ) ?he ?_; (case he => (simp only [List.map_cons, List.map_nil, List.length_cons, List.length_nil, List.replicate, List.cons_append, List.nil_append, Nat.reduceAdd, Nat.reduceSub]; rfl))))
local macro_rules | `(tactic| walk_at "w2") => `(tactic| ((with_reducible refine wo_id ?_); with_reducible first
  | refine vo_sub ?_ | refine vo_add ?_ | refine vo_lt ?_ | refine vo_le ?_ | refine vo_gt ?_ | refine vo_ge ?_ | refine vo_eq ?_ | refine vo_ne ?_ | refine vo_eqS ?_ | refine vo_neS ?_ | refine vo_eqB ?_ | refine vo_neB ?_ | refine vo_neg ?_ | refine vo_slT ?_ | refine vo_slL ?_ | refine vo_slS ?_ | refine vo_lenT ?_ | refine vo_lenL ?_ | refine vo_lenS ?_ | refine vo_revT ?_ | refine vo_revL ?_ | refine vo_min ?_ | refine vo_max ?_ | refine vo_tupL ?_ | refine vo_tupT ?_ | refine vo_lisL ?_ | refine vo_lisT ?_
  | refine vo_igAdd ?_ | refine vo_igMulR (by omega) ?_ | refine vo_igMulL (by omega) ?_ | refine vo_mod (by omega) ?_ | refine vo_div (by omega) ?_ | refine vo_mulR (by omega) ?_ | refine vo_mulL (by omega) ?_
  | refine vo_ixL0 ?_ | refine vo_ixL1 ?_ | refine vo_ixL2 ?_ | refine vo_ixL3 ?_ | refine vo_ixL4 ?_ | refine vo_ixL5 ?_ | refine vo_ixL6 ?_ | refine vo_ixT0 ?_ | refine vo_ixT1 ?_ | refine vo_ixT2 ?_ | refine vo_ixT3 ?_ | refine vo_ixT4 ?_ | refine vo_ixT5 ?_ | refine vo_ixT6 ?_
  | refine wo_vw1 (by assumption) ?_ | refine wo_vw2 (by assumption) ?_ | refine vo_vwc (by assumption) ?_
  | (refine vo_isi (c := ?c) ?h ?q; (case h => with_unfolding_all rfl)) | (refine vo_isis (c := ?c) ?h ?q; (case h => with_unfolding_all rfl))))
local macro_rules | `(tactic| walk_at "w3") => `(tactic| first
  | with_reducible refine ite_f ?_ | with_reducible refine ite_nt ?_ | with_reducible refine ite_nf ?_ | with_reducible refine ite_t ?_
  | ((with_reducible refine ex_id ?_); refine ⟨_, rfl, ?_⟩) | ((with_reducible refine and_id ?_); refine ⟨Nat.le_of_ble_eq_true rfl, ?_⟩))
local macro_rules | `(tactic| walk_at "w") => `(tactic| repeat (first | walk_at "w1" | walk_at "w2" | walk_at "w3"))
end LE
namespace LH
open DL
local macro_rules | `(tactic| walk_at "w1") => `(tactic| with_reducible first
  | (refine ws_then ?_; try with_reducible dsimp only [List.set_cons_zero, List.set_cons_succ]) | refine ws_seq ?_ | refine ws_asg ?_ | refine ws_expr ?_ | refine ws_ret ?_ | refine ws_if ?_ | refine ws_asgT ?_ | refine ws_setIx ?_ | refine ws_skip ?_ | refine ws_retN ?_ | refine ws_brk ?_ | refine ws_cont ?_ | refine ws_thenR ?_ | refine ws_thenB ?_ | refine ws_thenC ?_ | refine fq_rt ?_ | refine fq_nx ?_ | refine un_nx ?_ | refine un_ct ?_ | refine un_bk ?_ | refine un_rt ?_ | refine ws_loopN ?_
  | (refine ws_loopC (ρ1 := ?r) ?h ?q; (case h => with_unfolding_all rfl); try with_reducible dsimp only [List.set_cons_zero, List.set_cons_succ])
  | refine wp_c ?_ | refine wp_op2 ?_ | refine wp_fn ?_ | refine wp_cons ?_ | refine wp_nil ?_ | refine wp_call ?_ | refine wp_op1 ?_
  | (refine wp_var (d := ?d) ?h ?q; (case h => with_unfolding_all rfl))
  | (refine ws_aug (d := ?d) ?h ?q; (case h => with_unfolding_all rfl))
  | refine wp_tup ?_ | refine wp_lst ?_ | refine wp_lstM ?_ | refine wp_listM ?_
  | refine wp_sl0 ?_ | refine wp_sl1 ?_ | refine wp_sl2 ?_ | refine wp_sl3 ?_
  | refine wp_tval ?_ | refine wp_tnot ?_ | refine wp_tand ?_ | refine wp_tor ?_ | refine wp_tyes ?_ | refine wp_and ?_ | refine wp_or ?_ | refine wp_not ?_ | refine wp_ifx ?_ | refine wp_chain ?_ | refine wp_meth ?_ | refine wp_meth0 ?_
  | refine wp_isi ?_ | refine wp_isis ?_ | refine wp_repr ?_ | refine wp_maxD ?_ | refine wi_rng3 ?_
  | refine wi_seq ?_ | refine wi_rng1 ?_ | refine wi_rng2 ?_ | refine wi_zip2 ?_ | refine wi_zipS ?_
  | (refine wp_fnB (ρ := ?ρ) ?he ?_; (case he => (simp only [List.map_cons, List.map_nil, List.length_cons, List.length_nil, List.replicate, List.cons_append, List.nil_append, Nat.reduceAdd, Nat.reduceSub]; rfl))))
local macro_rules | `(tactic| walk_at "w2") => `(tactic| ((with_reducible refine wo_id ?_); with_reducible first
  | refine vo_sub ?_ | refine vo_add ?_ | refine vo_lt ?_ | refine vo_le ?_ | refine vo_gt ?_ | refine vo_ge ?_ | refine vo_eq ?_ | refine vo_ne ?_ | refine vo_eqS ?_ | refine vo_neS ?_ | refine vo_eqB ?_ | refine vo_neB ?_ | refine vo_neg ?_ | refine vo_slT ?_ | refine vo_slL ?_ | refine vo_slS ?_ | refine vo_lenT ?_ | refine vo_lenL ?_ | refine vo_lenS ?_ | refine vo_revT ?_ | refine vo_revL ?_ | refine vo_min ?_ | refine vo_max ?_ | refine vo_tupL ?_ | refine vo_tupT ?_ | refine vo_lisL ?_ | refine vo_lisT ?_
  | refine vo_igAdd ?_ | refine vo_igMulR (by omega) ?_ | refine vo_igMulL (by omega) ?_ | refine vo_mod (by omega) ?_ | refine vo_div (by omega) ?_ | refine vo_mulR (by omega) ?_ | refine vo_mulL (by omega) ?_
  | refine vo_ixL0 ?_ | refine vo_ixL1 ?_ | refine vo_ixL2 ?_ | refine vo_ixL3 ?_ | refine vo_ixL4 ?_ | refine vo_ixL5 ?_ | refine vo_ixL6 ?_ | refine vo_ixT0 ?_ | refine vo_ixT1 ?_ | refine vo_ixT2 ?_ | refine vo_ixT3 ?_ | refine vo_ixT4 ?_ | refine vo_ixT5 ?_ | refine vo_ixT6 ?_
  | refine wo_vw1 (by assumption) ?_ | refine wo_vw2 (by assumption) ?_ | refine vo_vwc (by assumption) ?_
  | (refine vo_isi (c := ?c) ?h ?q; (case h => with_unfolding_all rfl)) | (refine vo_isis (c := ?c) ?h ?q; (case h => with_unfolding_all rfl))))
local macro_rules | `(tactic| walk_at "w3") => `(tactic| first
  | with_reducible refine ite_f ?_ | with_reducible refine ite_nt ?_ | with_reducible refine ite_nf ?_ | with_reducible refine ite_t ?_
  | ((with_reducible refine ex_id ?_); refine ⟨_, rfl, ?_⟩) | ((with_reducible refine and_id ?_); refine ⟨Nat.le_of_ble_eq_true rfl, ?_⟩))
local macro_rules | `(tactic| walk_at "w") => `(tactic| repeat (first | walk_at "w1" | walk_at "w2" | walk_at "w3"))
theorem wp_need {S : Sto} {n k : Nat} {s : Int} {Q : D → Sto → Prop} {E : Px} (q : Q (.int (if s < k then s else k)) S) : Wp (d_need_of [.tup [.int n, .int k], .int s] S) Q E := by
  unfold d_need_of b_need_of
  walk_at "w"
  exact q
theorem wp_columns {S : Sto} {n k : Nat} {xs : List Int} (hk : 1 ≤ k ∧ k ≤ 1000) (hx : xs.length ≤ 10000) {Q : D → Sto → Prop} {E : Px}
    (q : Q (.lst ((cols k xs).map rowD)) S) : Wp (d_columns_of [.tup [.int n, .int k], .tup (xs.map .int)] S) Q E := by
  unfold d_columns_of b_columns_of
  walk_at "w"
  unfold c_columns_of_1
  refine wp_compM1 (List.range (rgN 0 xs.length k)) (fun i => .int (0 + (i : Nat) * (k : Int))) (fun i => rowD (cutL xs (some (0 + (i : Nat) * (k : Int))) (some (0 + (i : Nat) * (k : Int) + k)))) ?_ ?_
  · have := cols_len k xs
    unfold cols at this
    rw [List.length_map] at this
    omega
  walk_at "w"
  rw [List.length_map]
  refine ⟨0, _, k, rfl, ⟨by omega, by omega, small_up (by omega) (by omega)⟩, rfl, fun i _ => ⟨_, rfl, ?_⟩, ?_⟩
  · unfold ce_columns_of_1
    walk_at "w"
    rw [cut_map]
    exact ⟨rfl, rfl⟩
  unfold cols at q
  rw [List.map_map] at q
  exact q
theorem wp_shards {S : Sto} {n k : Nat} {xs : List Int} (hk : 1 ≤ k ∧ k ≤ 1000) (hn : n ≤ 900) (hx : xs.length ≤ 10000) {Q : D → Sto → Prop} {E : Px}
    (q : Q (.ref S.length) (S ++ [some (.lst ((shs n k xs).map rowD))])) : Wp (d_shards [.tup [.int n, .int k], .tup (xs.map .int)] S) Q E := by
  unfold d_shards b_shards
  walk_at "w"
  refine wp_columns hk hx ?_
  walk_at "w"
  unfold c_shards_2
  refine wp_compM1M (List.range n) (fun (j : Nat) => .int j) (fun j => rowD ((cols k xs).map fun c => wz c ((j : Nat) + 1))) (by rw [List.length_range]; omega) ?_
  walk_at "w"
  refine ⟨by omega, iRng0 n, fun j hj => ⟨_, rfl, ?_⟩, ?_⟩
  · have hj' := List.mem_range.mp hj
    unfold ce_shards_2
    walk_at "w"
    unfold c_shards_1
    refine wp_compM1 (cols k xs) rowD (fun c => .int (wz c ((j : Nat) + 1))) (by have := cols_len k xs; omega) ?_
    walk_at "w"
    refine ⟨_, Or.inr rfl, rfl, fun c _ => ⟨_, rfl, ?_⟩, ?_⟩
    · unfold ce_shards_1
      walk_at "w"
      exact LS.wp_worth (by omega) ⟨rfl, rfl⟩
    walk_at "w"
    unfold rowD
    rw [List.map_map]
    exact ⟨rfl, rfl⟩
  unfold shs at q
  rw [List.map_map] at q
  exact q
end LH
set_option Elab.async false
set_option linter.all false
set_option maxRecDepth 100000
set_option maxHeartbeats 4000000
namespace LG
open PySem PySem.Spec PyProof.Rows L2 DL
def ce_wrong_in_1 : Ex := (eVar 4)
def ct_wrong_in_1 : Tx := (tVal (eOp2 neD (eOp2 ixD (eVar 2) (eVar 4)) (eOp2 ixD (eVar 3) (eVar 4))))
def c_wrong_in_1 : Ex := eComp (iSeq (eCall sortD [(eVar 2)])) (.nm 4) ct_wrong_in_1 ce_wrong_in_1 [4]
/-- wrong_in: 0:code 1:row 2:some 3:right 4:j -/
def b_wrong_in : Sx :=
  (sSeq (sAsg 3 (eFn LH.d_shards [(eVar 0), (eVar 1)]))
    (sRet c_wrong_in_1))
def d_wrong_in : Fn := fnP (fnB 5 b_wrong_in)
def i_are_ghosts_1 : Sx := sIf (tOrX (tNotX (tVal (eFn (fnD [.int 1200] LS.d_is_row) [(eVar 5)]))) (tOrX (tVal (eOp2 neD (eCall lenD [(eVar 5)]) (eVar 1))) (tVal (eOp2 neD (eFn d_wrong_in [(eVar 0), (eVar 5), (eVar 2)]) (eLst []))))) (sRet (eC (.bl false))) sSkip
def lb_are_ghosts_1 : Sx := i_are_ghosts_1
def l_are_ghosts_1 : Sx := sFor (iSeq (eTup [(eVar 3), (eVar 4)])) (.nm 5) lb_are_ghosts_1
/-- are_ghosts: 0:code 1:size 2:some 3:one 4:other 5:thing -/
def b_are_ghosts : Sx :=
  (sSeq l_are_ghosts_1
    (sRet (eOp2 neD (eVar 3) (eVar 4))))
def d_are_ghosts : Fn := fnP (fnB 6 b_are_ghosts)
end LG
set_option Elab.async false
set_option linter.all false
set_option maxRecDepth 100000
set_option maxHeartbeats 4000000
namespace LG
open DL LE LH
local macro_rules | `(tactic| walk_at "w1") => `(tactic| with_reducible first
  | (refine ws_then ?_; try with_reducible dsimp only [List.set_cons_zero, List.set_cons_succ]) | refine ws_seq ?_ | refine ws_asg ?_ | refine ws_expr ?_ | refine ws_ret ?_ | refine ws_if ?_ | refine ws_asgT ?_ | refine ws_skip ?_ | refine ws_retN ?_ | refine ws_brk ?_ | refine ws_cont ?_ | refine ws_thenR ?_ | refine ws_thenB ?_ | refine ws_thenC ?_ | refine fq_rt ?_ | refine fq_nx ?_ | refine un_nx ?_ | refine un_ct ?_ | refine un_bk ?_ | refine un_rt ?_ | refine ws_loopN ?_
  | (refine ws_loopC (ρ1 := ?r) ?h ?q; (case h => with_unfolding_all rfl); try with_reducible dsimp only [List.set_cons_zero, List.set_cons_succ])
  | refine wp_c ?_ | refine wp_op2 ?_ | refine wp_fn ?_ | refine wp_cons ?_ | refine wp_nil ?_ | refine wp_call ?_ | refine wp_op1 ?_
  | (refine wp_var (d := ?d) ?h ?q; (case h => with_unfolding_all rfl))
  | (refine ws_aug (d := ?d) ?h ?q; (case h => with_unfolding_all rfl))
  | refine wp_tup ?_ | refine wp_lst ?_ | refine wp_lstM ?_ | refine wp_listM ?_
  | refine wp_sl0 ?_ | refine wp_sl1 ?_ | refine wp_sl2 ?_ | refine wp_sl3 ?_
  | refine wp_tval ?_ | refine wp_tnot ?_ | refine wp_tand ?_ | refine wp_tor ?_ | refine wp_tyes ?_ | refine wp_and ?_ | refine wp_or ?_ | refine wp_not ?_ | refine wp_ifx ?_ | refine wp_chain ?_ | refine wp_meth ?_ | refine wp_meth0 ?_
  | refine wp_isi ?_ | refine wp_isis ?_ | refine wp_repr ?_ | refine wp_maxD ?_ | refine wi_rng3 ?_
  | refine ws_par ?_ | refine wp_dnew ?_ | refine wp_get2 ?_ | refine wp_reprQ ?_ | refine wp_fnK ?_ | refine wi_valsI ?_ | refine wi_itemsI ?_ | refine ws_augI ?_
  | refine wi_seq ?_ | refine wi_rng1 ?_ | refine wi_rng2 ?_ | refine wi_zip2 ?_ | refine wi_zipS ?_
  | (refine wp_fnB (ρ := ?ρ) ?he ?_; (case he => (simp only [List.map_cons, List.map_nil, List.length_cons, List.length_nil, List.replicate, List.cons_append, List.nil_append, Nat.reduceAdd, Nat.reduceSub]; rfl))))
local macro_rules | `(tactic| walk_at "w2") => `(tactic| ((with_reducible refine wo_id ?_); with_reducible first
  | refine vo_sub ?_ | refine vo_add ?_ | refine vo_lt ?_ | refine vo_le ?_ | refine vo_gt ?_ | refine vo_ge ?_ | refine vo_eq ?_ | refine vo_ne ?_ | refine vo_eqS ?_ | refine vo_neS ?_ | refine vo_eqB ?_ | refine vo_neB ?_ | refine vo_neg ?_ | refine vo_slT ?_ | refine vo_slL ?_ | refine vo_slS ?_ | refine vo_lenT ?_ | refine vo_lenL ?_ | refine vo_lenS ?_ | refine vo_revT ?_ | refine vo_revL ?_ | refine vo_min ?_ | refine vo_max ?_ | refine vo_tupL ?_ | refine vo_tupT ?_ | refine vo_lisL ?_ | refine vo_lisT ?_
  | refine vo_igAdd ?_ | refine vo_igMulR (by omega) ?_ | refine vo_igMulL (by omega) ?_ | refine vo_mod (by omega) ?_ | refine vo_div (by omega) ?_ | refine vo_mulR (by omega) ?_ | refine vo_mulL (by omega) ?_
  | refine vo_ixL0 ?_ | refine vo_ixL1 ?_ | refine vo_ixL2 ?_ | refine vo_ixL3 ?_ | refine vo_ixL4 ?_ | refine vo_ixL5 ?_ | refine vo_ixL6 ?_ | refine vo_ixT0 ?_ | refine vo_ixT1 ?_ | refine vo_ixT2 ?_ | refine vo_ixT3 ?_ | refine vo_ixT4 ?_ | refine vo_ixT5 ?_ | refine vo_ixT6 ?_
  | refine vo_inT ?_ | refine vo_ninT ?_ | refine vo_inL ?_ | refine vo_ninL ?_ | refine vo_inI ?_ | refine vo_ninI ?_ | refine vo_sortI (by first | assumption | omega) ?_ | refine vo_sortL ?_ | refine vo_lenI ?_ | refine vo_lt3 ?_ | refine vo_isNN ?_ | refine vo_is3N ?_ | refine vo_isTN ?_ | refine vo_isIN ?_ | refine vo_igAddI ?_ | refine vo_ixI (by assumption) ?_
  | refine vo_vwD1 (by assumption) ?_ | refine vo_vwDc (by assumption) ?_
  | refine wo_vw1 (by assumption) ?_ | refine wo_vw2 (by assumption) ?_ | refine vo_vwc (by assumption) ?_
  | (refine vo_isi (c := ?c) ?h ?q; (case h => with_unfolding_all rfl)) | (refine vo_isis (c := ?c) ?h ?q; (case h => with_unfolding_all rfl))))
local macro_rules | `(tactic| walk_at "w3") => `(tactic| first
  | with_reducible refine ite_f ?_ | with_reducible refine ite_nt ?_ | with_reducible refine ite_nf ?_ | with_reducible refine ite_t ?_
  | ((with_reducible refine ex_id ?_); refine ⟨_, rfl, ?_⟩) | ((with_reducible refine and_id ?_); refine ⟨Nat.le_of_ble_eq_true rfl, ?_⟩))
local macro_rules | `(tactic| walk_at "w") => `(tactic| repeat (first | walk_at "w1" | walk_at "w2" | walk_at "w3"))
theorem cut_to {xs : List Int} {v : Int} (h : 0 ≤ v) : cutL xs none (some v) = xs.take v.toNat := by
  unfold cutL
  simp only [HT.sIx]
  rw [if_neg (by omega), Nat.sub_zero, List.drop_zero, Nat.min_def]
  split
  · rfl
  · rw [List.take_of_length_le (Nat.le_refl _), List.take_of_length_le (by omega)]
theorem cut_from {xs : List Int} {v : Int} (h : 0 ≤ v) : cutL xs (some v) none = xs.drop v.toNat := by
  unfold cutL
  simp only [HT.sIx]
  rw [if_neg (by omega), Nat.min_def]
  split
  · rw [List.take_of_length_le (by rw [List.length_drop]; omega)]
  · rw [List.drop_eq_nil_of_le (Nat.le_refl _), List.drop_eq_nil_of_le (by omega)]
    simp
/-- some shards of a row -/
structure Sm (n c : Nat) (l : List (Int × List Int)) : Prop where
  len : l.length ≤ n
  key : ∀ p ∈ l, 0 ≤ p.1 ∧ p.1 < n
  row : ∀ p ∈ l, Row p.2 ∧ p.2.length = c
theorem noRefK_A : ∀ l : List (Int × List Int), noRefK (kA rowD l) = true
  | [] => rfl
  | p :: l => by
    have := noRefK_A l
    unfold kA at this ⊢
    simp only [List.map_cons, noRefK]
    rw [this]
    simp [rowD, noRef, noRefs_int]
theorem noRef_A (l : List (Int × List Int)) : noRef (dA rowD l) = true := noRefK_A l
theorem row_at2 {rs : List (List Int)} {i : Int} (h : 0 ≤ i ∧ i < rs.length) : ∃ r, rs[i.toNat]? = some r ∧ L2.atI (rs.map rowD) i = some (rowD r) := ⟨rs[i.toNat]'(by omega), List.getElem?_eq_getElem _, by rw [atI_in h.1 (by rw [List.length_map]; omega), List.getElem_map]⟩
theorem int_at {zs : List Int} {i : Int} (h : 0 ≤ i ∧ i < zs.length) : ∃ z ∈ zs, L2.atI (zs.map D.int) i = some (.int z) := ⟨zs[i.toNat]'(by omega), List.getElem_mem _, by rw [atI_in h.1 (by rw [List.length_map]; omega), List.getElem_map]⟩
theorem shs_c {n k : Nat} {xs r : List Int} (h : r ∈ shs n k xs) : Row r ∧ r.length = rgN 0 xs.length k := by
  refine ⟨(shs_row h).1, ?_⟩
  unfold shs at h
  obtain ⟨j, _, rfl⟩ := List.mem_map.mp h
  unfold cols
  rw [List.length_map, List.length_map, List.length_range]
def wrongL (n k : Nat) (xs : List Int) (l : List (Int × List Int)) : List Int := (isI (l.map (·.1))).filter fun j => !decide (getA l j = (shs n k xs)[j.toNat]?)
theorem wp_wrong_in {S : Sto} {n k c : Nat} {xs : List Int} {l : List (Int × List Int)} (hk : 1 ≤ k ∧ k ≤ 1000) (hn : n ≤ 8) (hx : xs.length ≤ 10000) (hl : Sm n c l) {Q : D → Sto → Prop} {E : Px}
    (q : Q (.lst ((wrongL n k xs l).map .int)) S) : Wp (d_wrong_in [.tup [.int n, .int k], .tup (xs.map .int), dA rowD l] S) Q E := by
  have hll := hl.len
  refine wp_fnP (by simp [noRefs, noRef, noRefs_int, noRef_A]) ?_
  unfold b_wrong_in
  walk_at "w"
  refine wp_shards hk (by omega) hx ?_
  walk_at "w"
  have g0 : ([] ++ [some (Ob.lst ((shs n k xs).map rowD))] : Sto)[([] : Sto).length]? = some (some (.lst ((shs n k xs).map rowD))) := rfl
  generalize ([] ++ [some (Ob.lst ((shs n k xs).map rowD))] : Sto) = T at *
  unfold c_wrong_in_1
  refine wp_comp_map (isI (l.map (·.1))) D.int (fun j => !decide (getA l j = (shs n k xs)[j.toNat]?)) D.int (by rw [isI_len, List.length_map]; omega) ?_
  walk_at "w"
  refine vo_sortA (by omega) ?_
  refine ⟨_, Or.inr rfl, rfl, fun j hj => ⟨_, rfl, ?_, fun _ => ?_⟩, ?_⟩
  · have hj2 : j ∈ l.map (·.1) := (isI_perm _).mem_iff.mp hj
    obtain ⟨v, hv⟩ := getA_has hj2
    have hjn := hl.key _ (getA_mem hv)
    have hsl : (shs n k xs).length = n := by simp [shs]
    obtain ⟨r, hr, er⟩ := row_at2 (rs := shs n k xs) (i := j) ⟨hjn.1, by rw [hsl]; exact hjn.2⟩
    unfold ct_wrong_in_1
    walk_at "w"
    refine vo_ixA hv ?_
    walk_at "w"
    refine wo_ixL er ?_
    refine .of (neD_of (eqD_tupI v r)) ?_
    refine ⟨_, rfl, ?_, rfl⟩
    rw [hv, hr]
    simp
  · unfold ce_wrong_in_1
    walk_at "w"
    exact ⟨rfl, rfl⟩
  exact ⟨by simp [noRef, noRefs_int], q⟩
def ptD (p : Int × Int) : D := .tup [.int p.1, .int p.2]
end LG
set_option Elab.async false
set_option linter.all false
set_option maxRecDepth 100000
set_option maxHeartbeats 4000000
namespace LG
open DL LE LH
local macro_rules | `(tactic| walk_at "w1") => `(tactic| with_reducible first
  | (refine ws_then ?_; try with_reducible dsimp only [List.set_cons_zero, List.set_cons_succ]) | refine ws_seq ?_ | refine ws_asg ?_ | refine ws_expr ?_ | refine ws_ret ?_ | refine ws_if ?_ | refine ws_asgT ?_ | refine ws_skip ?_ | refine ws_retN ?_ | refine ws_brk ?_ | refine ws_cont ?_ | refine ws_thenR ?_ | refine ws_thenB ?_ | refine ws_thenC ?_ | refine fq_rt ?_ | refine fq_nx ?_ | refine un_nx ?_ | refine un_ct ?_ | refine un_bk ?_ | refine un_rt ?_ | refine ws_loopN ?_
  | (refine ws_loopC (ρ1 := ?r) ?h ?q; (case h => with_unfolding_all rfl); try with_reducible dsimp only [List.set_cons_zero, List.set_cons_succ])
  | refine wp_c ?_ | refine wp_op2 ?_ | refine wp_fn ?_ | refine wp_cons ?_ | refine wp_nil ?_ | refine wp_call ?_ | refine wp_op1 ?_
  | (refine wp_var (d := ?d) ?h ?q; (case h => with_unfolding_all rfl))
  | (refine ws_aug (d := ?d) ?h ?q; (case h => with_unfolding_all rfl))
  | refine wp_tup ?_ | refine wp_lst ?_ | refine wp_lstM ?_ | refine wp_listM ?_
  | refine wp_sl0 ?_ | refine wp_sl1 ?_ | refine wp_sl2 ?_ | refine wp_sl3 ?_
  | refine wp_tval ?_ | refine wp_tnot ?_ | refine wp_tand ?_ | refine wp_tor ?_ | refine wp_tyes ?_ | refine wp_and ?_ | refine wp_or ?_ | refine wp_not ?_ | refine wp_ifx ?_ | refine wp_chain ?_ | refine wp_meth ?_ | refine wp_meth0 ?_
  | refine wp_isi ?_ | refine wp_isis ?_ | refine wp_repr ?_ | refine wp_maxD ?_ | refine wi_rng3 ?_
  | refine ws_par ?_ | refine wp_dnew ?_ | refine wp_get2 ?_ | refine wp_reprQ ?_ | refine wp_fnK ?_ | refine wi_valsI ?_ | refine wi_itemsI ?_ | refine ws_augI ?_
  | refine wi_seq ?_ | refine wi_rng1 ?_ | refine wi_rng2 ?_ | refine wi_zip2 ?_ | refine wi_zipS ?_
  | (refine wp_fnB (ρ := ?ρ) ?he ?_; (case he => (simp only [List.map_cons, List.map_nil, List.length_cons, List.length_nil, List.replicate, List.cons_append, List.nil_append, Nat.reduceAdd, Nat.reduceSub]; rfl))))
local macro_rules | `(tactic| walk_at "w2") => `(tactic| ((with_reducible refine wo_id ?_); with_reducible first
  | refine vo_sub ?_ | refine vo_add ?_ | refine vo_lt ?_ | refine vo_le ?_ | refine vo_gt ?_ | refine vo_ge ?_ | refine vo_eq ?_ | refine vo_ne ?_ | refine vo_eqS ?_ | refine vo_neS ?_ | refine vo_eqB ?_ | refine vo_neB ?_ | refine vo_neg ?_ | refine vo_slT ?_ | refine vo_slL ?_ | refine vo_slS ?_ | refine vo_lenT ?_ | refine vo_lenL ?_ | refine vo_lenS ?_ | refine vo_revT ?_ | refine vo_revL ?_ | refine vo_min ?_ | refine vo_max ?_ | refine vo_tupL ?_ | refine vo_tupT ?_ | refine vo_lisL ?_ | refine vo_lisT ?_
  | refine vo_igAdd ?_ | refine vo_igMulR (by omega) ?_ | refine vo_igMulL (by omega) ?_ | refine vo_mod (by omega) ?_ | refine vo_div (by omega) ?_ | refine vo_mulR (by omega) ?_ | refine vo_mulL (by omega) ?_
  | refine vo_ixL0 ?_ | refine vo_ixL1 ?_ | refine vo_ixL2 ?_ | refine vo_ixL3 ?_ | refine vo_ixL4 ?_ | refine vo_ixL5 ?_ | refine vo_ixL6 ?_ | refine vo_ixT0 ?_ | refine vo_ixT1 ?_ | refine vo_ixT2 ?_ | refine vo_ixT3 ?_ | refine vo_ixT4 ?_ | refine vo_ixT5 ?_ | refine vo_ixT6 ?_
  | refine vo_inT ?_ | refine vo_ninT ?_ | refine vo_inL ?_ | refine vo_ninL ?_ | refine vo_inI ?_ | refine vo_ninI ?_ | refine vo_sortI (by first | assumption | omega) ?_ | refine vo_sortL ?_ | refine vo_lenI ?_ | refine vo_lt3 ?_ | refine vo_isNN ?_ | refine vo_is3N ?_ | refine vo_isTN ?_ | refine vo_isIN ?_ | refine vo_igAddI ?_ | refine vo_ixI (by assumption) ?_
  | refine vo_vwD1 (by assumption) ?_ | refine vo_vwDc (by assumption) ?_
  | refine wo_vw1 (by assumption) ?_ | refine wo_vw2 (by assumption) ?_ | refine vo_vwc (by assumption) ?_
  | (refine vo_isi (c := ?c) ?h ?q; (case h => with_unfolding_all rfl)) | (refine vo_isis (c := ?c) ?h ?q; (case h => with_unfolding_all rfl))))
local macro_rules | `(tactic| walk_at "w3") => `(tactic| first
  | with_reducible refine ite_f ?_ | with_reducible refine ite_nt ?_ | with_reducible refine ite_nf ?_ | with_reducible refine ite_t ?_
  | ((with_reducible refine ex_id ?_); refine ⟨_, rfl, ?_⟩) | ((with_reducible refine and_id ?_); refine ⟨Nat.le_of_ble_eq_true rfl, ?_⟩))
local macro_rules | `(tactic| walk_at "w") => `(tactic| repeat (first | walk_at "w1" | walk_at "w2" | walk_at "w3"))
theorem rgN_le {s k : Nat} : rgN 0 s k ≤ s := by
  have h := PyProof.Rows.rangeSize_toNat_le 0 s k
  unfold rgN
  omega
theorem rgN_lt {s k i : Nat} (hk : 1 ≤ k) (h : i < rgN 0 s k) : i * k < s := by
  unfold rgN PySem.Builtin.Range.rangeSize at h
  rw [if_pos (show (k : Int) > 0 by omega)] at h
  split at h
  · rename_i hs
    have h2 : (i : Int) ≤ ((s : Int) - 0 - 1) / (k : Int) := by omega
    have h3 := (Int.le_ediv_iff_mul_le (show (0 : Int) < k by omega)).mp h2
    have h4 : ((i * k : Nat) : Int) = (i : Int) * (k : Int) := by simp
    omega
  · omega
theorem Sm.put {n c : Nat} {l : List (Int × List Int)} (h : Sm n c l) {j : Int} {v : List Int} (hj : j ∈ l.map (·.1)) (hv : Row v ∧ v.length = c) : Sm n c (putA l j v) := by
  have hk := putA_keys (v := v) hj
  refine ⟨?_, fun p hp => ?_, fun p hp => ?_⟩
  · have := congrArg List.length hk
    rw [List.length_map, List.length_map] at this
    have := h.len
    omega
  · have : p.1 ∈ (putA l j v).map (·.1) := List.mem_map_of_mem hp
    rw [hk] at this
    obtain ⟨q, hq, e⟩ := List.mem_map.mp this
    rw [← e]
    exact h.key q hq
  · rcases putA_mem hp with z | rfl
    · exact h.row p z
    · exact hv
def intsD : D → List Int
  | .tup ds => ds.map fun d => match d with | .int i => i | _ => 0
  | _ => []
theorem intsD_row (xs : List Int) : intsD (.tup (xs.map .int)) = xs := by
  show (xs.map D.int).map _ = xs
  rw [List.map_map]
  exact List.map_id _
/-- a row of that size that has all of the shards -/
def okT (n k size : Nat) (l : List (Int × List Int)) : D → Bool
  | .tup ds => ds.all sg1 && (decide (ds.length = size) && decide (wrongL n k (intsD (.tup ds)) l = []))
  | _ => false
theorem sg_rows : ∀ {ds : List D}, ds.all sg1 = true → ∃ xs, Row xs ∧ ds = xs.map D.int
  | [], _ => ⟨[], fun x hx => by simp at hx, rfl⟩
  | d :: ds, h => by
    simp only [List.all_cons, Bool.and_eq_true] at h
    obtain ⟨xs, hx, rfl⟩ := sg_rows h.2
    cases d with
    | int i =>
      have hi : 0 ≤ i ∧ i < 31 := of_decide_eq_true h.1
      refine ⟨i :: xs, fun x hx' => ?_, rfl⟩
      rcases List.mem_cons.mp hx' with rfl | z
      · exact hi
      · exact hx x z
    | _ => simp [sg1] at h
theorem okT_row {n k size : Nat} {l : List (Int × List Int)} {d : D} (h : okT n k size l d = true) : ∃ xs, d = .tup (xs.map .int) ∧ Row xs ∧ xs.length = size ∧ wrongL n k xs l = [] := by
  cases d with
  | tup ds =>
    simp only [okT, Bool.and_eq_true, decide_eq_true_eq] at h
    obtain ⟨xs, hx, rfl⟩ := sg_rows h.1
    rw [intsD_row, List.length_map] at h
    exact ⟨xs, rfl, hx, h.2.1, h.2.2⟩
  | _ => simp [okT] at h
/-- a thing that may be asked about -/
structure Tg (d : D) : Prop where
  sm : smD d = true
  wt : wtD d ≤ 2000
  dp : dpD d ≤ 5
  ln : ∀ ds, d = .tup ds → ds.length ≤ 1200
def ghost (n k size : Nat) (l : List (Int × List Int)) (d e : D) : Bool := okT n k size l d && (okT n k size l e && !decide (intsD d = intsD e))
theorem wp_gtest {S : Sto} {n k size c : Nat} {l : List (Int × List Int)} {d e x : D} (hk : 1 ≤ k ∧ k ≤ 1000) (hn : n ≤ 8) (hs : size ≤ 1200) (hl : Sm n c l) (hx : Tg x) {Q : Bool → Sto → Prop} {E : Px} (q : Q (!okT n k size l x) S) :
    Wp ((tOrX (tNotX (tVal (eFn (fnD [.int 1200] LS.d_is_row) [(eVar 5)]))) (tOrX (tVal (eOp2 neD (eCall lenD [(eVar 5)]) (eVar 1))) (tVal (eOp2 neD (eFn d_wrong_in [(eVar 0), (eVar 5), (eVar 2)]) (eLst []))))) [some (.tup [.int n, .int k]), some (.int size), some (dA rowD l), some d, some e, some x] S) Q E := by
  walk_at "w"
  show Wp (LS.d_is_row [x, .int 1200] S) _ _
  refine LS.wp_is_rw hx.sm (by have := hx.wt; omega) ?_
  cases hr : rwB x with
  | false =>
    have : okT n k size l x = false := by
      cases x with
      | tup ds =>
        have hd := hx.ln ds rfl
        have : ds.all sg1 = false := by simpa [rwB, hd] using hr
        simp [okT, this]
      | _ => rfl
    rw [this] at q
    walk_at "w"
    exact q
  | true =>
    cases x with
    | tup ds =>
      have hall : ds.all sg1 = true := by simp [rwB] at hr; simpa using hr.2
      obtain ⟨xs, hxr, rfl⟩ := sg_rows hall
      have hxl := hx.ln _ rfl
      rw [List.length_map] at hxl
      walk_at "w"
      rw [List.length_map]
      refine ite_nd (fun hne => ?_) (fun he => ?_)
      · have : okT n k size l (.tup (xs.map .int)) = false := by
          have h2 : ¬ xs.length = size := by omega
          simp [okT, h2]
        rw [this] at q
        exact q
      · walk_at "w"
        refine wp_wrong_in hk hn (by omega) hl ?_
        walk_at "w"
        refine .of (neD_of (eqD_lstI (wrongL n k xs l) [])) ?_
        refine ⟨_, rfl, ?_⟩
        have h2 : xs.length = size := by omega
        have : okT n k size l (.tup (xs.map .int)) = decide (wrongL n k xs l = []) := by
          show ((xs.map D.int).all sg1 && (decide ((xs.map D.int).length = size) && decide (wrongL n k (intsD (.tup (xs.map D.int))) l = []))) = _
          rw [hall, intsD_row, List.length_map, decide_eq_true h2]
          simp
        rw [this] at q
        exact q
    | _ => simp [rwB] at hr
theorem wp_are_ghosts {S : Sto} {n k size c : Nat} {l : List (Int × List Int)} {d e : D} (hk : 1 ≤ k ∧ k ≤ 1000) (hn : n ≤ 8) (hs : size ≤ 1200) (hl : Sm n c l) (hd : Tg d) (he : Tg e) {Q : D → Sto → Prop} {E : Px} (q : Q (.bl (ghost n k size l d e)) S) :
    Wp (d_are_ghosts [.tup [.int n, .int k], .int size, dA rowD l, d, e] S) Q E := by
  refine wp_fnP (by simp [noRefs, noRef, noRef_A, nor_s d hd.sm, nor_s e he.sm]) ?_
  unfold b_are_ghosts
  walk_at "w"
  unfold l_are_ghosts_1
  refine ws_forU ?_
  walk_at "w"
  refine ⟨_, Or.inl rfl, ?_⟩
  walk_at "w"
  refine ws_if (wp_gtest hk hn hs hl hd ?_)
  cases h1 : okT n k size l d with
  | false =>
    walk_at "w"
    refine ⟨rfl, ?_⟩
    simpa [ghost, h1] using q
  | true =>
    walk_at "w"
    refine ws_if (wp_gtest hk hn hs hl he ?_)
    cases h2 : okT n k size l e with
    | false =>
      walk_at "w"
      refine ⟨rfl, ?_⟩
      simpa [ghost, h1, h2] using q
    | true =>
      obtain ⟨xs, rfl, _⟩ := okT_row h1
      obtain ⟨ys, rfl, _⟩ := okT_row h2
      walk_at "w"
      refine .of (neD_of (eqD_tupI xs ys)) ?_
      refine ⟨rfl, ?_⟩
      simpa [ghost, h1, h2, intsD_row] using q
end LG
set_option Elab.async false
set_option linter.all false
set_option maxRecDepth 100000
set_option maxHeartbeats 4000000
namespace LG
open DL LE LH
local macro_rules | `(tactic| walk_at "w1") => `(tactic| with_reducible first
  | (refine ws_then ?_; try with_reducible dsimp only [List.set_cons_zero, List.set_cons_succ]) | refine ws_seq ?_ | refine ws_asg ?_ | refine ws_expr ?_ | refine ws_ret ?_ | refine ws_if ?_ | refine ws_asgT ?_ | refine ws_skip ?_ | refine ws_retN ?_ | refine ws_brk ?_ | refine ws_cont ?_ | refine ws_thenR ?_ | refine ws_thenB ?_ | refine ws_thenC ?_ | refine fq_rt ?_ | refine fq_nx ?_ | refine un_nx ?_ | refine un_ct ?_ | refine un_bk ?_ | refine un_rt ?_ | refine ws_loopN ?_
  | (refine ws_loopC (ρ1 := ?r) ?h ?q; (case h => with_unfolding_all rfl); try with_reducible dsimp only [List.set_cons_zero, List.set_cons_succ])
  | refine wp_c ?_ | refine wp_op2 ?_ | refine wp_fn ?_ | refine wp_cons ?_ | refine wp_nil ?_ | refine wp_call ?_ | refine wp_op1 ?_
  | (refine wp_var (d := ?d) ?h ?q; (case h => with_unfolding_all rfl))
  | (refine ws_aug (d := ?d) ?h ?q; (case h => with_unfolding_all rfl))
  | refine wp_tup ?_ | refine wp_lst ?_ | refine wp_lstM ?_ | refine wp_listM ?_
  | refine wp_sl0 ?_ | refine wp_sl1 ?_ | refine wp_sl2 ?_ | refine wp_sl3 ?_
  | refine wp_tval ?_ | refine wp_tnot ?_ | refine wp_tand ?_ | refine wp_tor ?_ | refine wp_tyes ?_ | refine wp_and ?_ | refine wp_or ?_ | refine wp_not ?_ | refine wp_ifx ?_ | refine wp_chain ?_ | refine wp_meth ?_ | refine wp_meth0 ?_
  | refine wp_isi ?_ | refine wp_isis ?_ | refine wp_repr ?_ | refine wp_maxD ?_ | refine wi_rng3 ?_
  | refine ws_par ?_ | refine wp_dnew ?_ | refine wp_get2 ?_ | refine wp_reprQ ?_ | refine wp_fnK ?_ | refine wi_valsI ?_ | refine wi_itemsI ?_ | refine ws_augI ?_
  | refine wi_seq ?_ | refine wi_rng1 ?_ | refine wi_rng2 ?_ | refine wi_zip2 ?_ | refine wi_zipS ?_
  | (refine wp_fnB (ρ := ?ρ) ?he ?_; (case he => (simp only [List.map_cons, List.map_nil, List.length_cons, List.length_nil, List.replicate, List.cons_append, List.nil_append, Nat.reduceAdd, Nat.reduceSub]; rfl))))
local macro_rules | `(tactic| walk_at "w2") => `(tactic| ((with_reducible refine wo_id ?_); with_reducible first
  | refine vo_sub ?_ | refine vo_add ?_ | refine vo_lt ?_ | refine vo_le ?_ | refine vo_gt ?_ | refine vo_ge ?_ | refine vo_eq ?_ | refine vo_ne ?_ | refine vo_eqS ?_ | refine vo_neS ?_ | refine vo_eqB ?_ | refine vo_neB ?_ | refine vo_neg ?_ | refine vo_slT ?_ | refine vo_slL ?_ | refine vo_slS ?_ | refine vo_lenT ?_ | refine vo_lenL ?_ | refine vo_lenS ?_ | refine vo_revT ?_ | refine vo_revL ?_ | refine vo_min ?_ | refine vo_max ?_ | refine vo_tupL ?_ | refine vo_tupT ?_ | refine vo_lisL ?_ | refine vo_lisT ?_
  | refine vo_igAdd ?_ | refine vo_igMulR (by omega) ?_ | refine vo_igMulL (by omega) ?_ | refine vo_mod (by omega) ?_ | refine vo_div (by omega) ?_ | refine vo_mulR (by omega) ?_ | refine vo_mulL (by omega) ?_
  | refine vo_ixL0 ?_ | refine vo_ixL1 ?_ | refine vo_ixL2 ?_ | refine vo_ixL3 ?_ | refine vo_ixL4 ?_ | refine vo_ixL5 ?_ | refine vo_ixL6 ?_ | refine vo_ixT0 ?_ | refine vo_ixT1 ?_ | refine vo_ixT2 ?_ | refine vo_ixT3 ?_ | refine vo_ixT4 ?_ | refine vo_ixT5 ?_ | refine vo_ixT6 ?_
  | refine vo_inT ?_ | refine vo_ninT ?_ | refine vo_inL ?_ | refine vo_ninL ?_ | refine vo_inI ?_ | refine vo_ninI ?_ | refine vo_sortI (by first | assumption | omega) ?_ | refine vo_sortL ?_ | refine vo_lenI ?_ | refine vo_lt3 ?_ | refine vo_isNN ?_ | refine vo_is3N ?_ | refine vo_isTN ?_ | refine vo_isIN ?_ | refine vo_igAddI ?_ | refine vo_ixI (by assumption) ?_
  | refine vo_vwD1 (by assumption) ?_ | refine vo_vwDc (by assumption) ?_
  | refine wo_vw1 (by assumption) ?_ | refine wo_vw2 (by assumption) ?_ | refine vo_vwc (by assumption) ?_
  | (refine vo_isi (c := ?c) ?h ?q; (case h => with_unfolding_all rfl)) | (refine vo_isis (c := ?c) ?h ?q; (case h => with_unfolding_all rfl))))
local macro_rules | `(tactic| walk_at "w3") => `(tactic| first
  | with_reducible refine ite_f ?_ | with_reducible refine ite_nt ?_ | with_reducible refine ite_nf ?_ | with_reducible refine ite_t ?_
  | ((with_reducible refine ex_id ?_); refine ⟨_, rfl, ?_⟩) | ((with_reducible refine and_id ?_); refine ⟨Nat.le_of_ble_eq_true rfl, ?_⟩))
local macro_rules | `(tactic| walk_at "w") => `(tactic| repeat (first | walk_at "w1" | walk_at "w2" | walk_at "w3"))
theorem rgI_nd (n : Nat) : ((List.range n).map fun (k : Nat) => (k : Int)).Nodup := by
  rw [List.nodup_iff_pairwise_ne, List.pairwise_map]
  exact List.nodup_range.imp fun {a b} h e => h (by omega)
theorem nd_erase {α : Type} {L : List α} {i : Nat} {x : α} (h : L.Nodup) (hx : L[i]? = some x) : x ∉ L.eraseIdx i := by
  obtain ⟨hi, e⟩ := List.getElem?_eq_some_iff.mp hx
  rw [List.eraseIdx_eq_take_drop_succ]
  have h2 : L = L.take i ++ x :: L.drop (i + 1) := by
    have := List.take_append_drop i L
    rw [List.drop_eq_getElem_cons hi, e] at this
    exact this.symm
  rw [h2, List.nodup_append] at h
  intro hm
  rcases List.mem_append.mp hm with hm | hm
  · exact h.2.2 x hm x (by simp) rfl
  · exact (List.nodup_cons.mp h.2.1).1 hm
theorem gPopI2 {L : List Int} {v : Int} (h : 0 ≤ v ∧ v < L.length) (hl : L.length ≤ 1000000) : ∃ x ∈ L, gPopAt (L.map .int) [.int v] = some ((L.eraseIdx v.toNat).map .int, .int x) ∧ L[v.toNat]? = some x := by
  obtain ⟨x, hx, e⟩ := gPopI h hl
  refine ⟨x, hx, e, ?_⟩
  have hv : v.toNat < L.length := by omega
  have e1 : PySem.seqIndex? v (L.map D.int).length = some v.toNat := by
    unfold PySem.seqIndex?
    rw [List.length_map]
    simp [show ¬ v < 0 by omega, h.1, h.2]
  have e2 : (L.map D.int)[v.toNat]? = some (.int L[v.toNat]) := by rw [List.getElem?_map, List.getElem?_eq_getElem hv]; rfl
  unfold gPopAt at e
  dsimp only at e
  rw [if_pos ⟨by omega, by omega⟩, e1] at e
  dsimp only at e
  rw [e2] at e
  dsimp only at e
  have e3 := (Prod.mk.inj (Option.some.inj e)).2
  rw [List.getElem?_eq_getElem hv]
  injection e3 with e3
  rw [e3]
end LG
set_option Elab.async false
set_option linter.all false
set_option maxRecDepth 100000
set_option maxHeartbeats 4000000
namespace DL
open PySem PySem.Spec PyProof.Rows L2
end DL
set_option Elab.async false
set_option linter.all false
set_option maxRecDepth 100000
set_option maxHeartbeats 4000000
namespace DL
open PySem PySem.Spec PyProof.Rows L2
def enumDs (xs : List D) : List D := (List.range xs.length).zip xs |>.map fun p => .tup [.int (p.1 : Nat), p.2]
def iEnumL (e : Ex) : Ix := fun ρ S => (e ρ S).bind fun d S => match d with
  | .lst xs => .ok (enumDs xs) S
  | _ => .bad
section
variable {K : PySem.W.Frag} {H : Hp} {Fb : Addr → Prop} {m : List Addr}
theorem enum_len (xs : List D) : (enumDs xs).length = xs.length := by simp [enumDs]
theorem enum_at {xs : List D} {i : Nat} (h : i < xs.length) : (enumDs xs)[i]? = some (.tup [.int (i : Nat), xs[i]]) := by
  unfold enumDs
  rw [List.getElem?_map, List.getElem?_eq_getElem (show i < ((List.range xs.length).zip xs).length by simp; omega), List.getElem_zip]
  simp
theorem itr_enum {a : Addr} {xs : List D} {vs : List V} (q1 : RepA K H Fb m vs xs) (h1 : ∀ H2 F2 m2, Kp H H2 Fb F2 m m2 → SqL K H2 a vs) : ItR K H Fb m (Ite K a) (enumDs xs) := by
  intro H2 F2 m2 k
  have s1 := h1 H2 F2 m2 k
  have l1 := q1.length
  refine ⟨fun i hi => ?_, fun i hi => ⟨vs, s1, by rw [enum_len] at hi; omega⟩⟩
  rw [enum_len] at hi
  obtain ⟨v, ev, rv⟩ := (q1.kp k).get (d := xs[i]) (List.getElem?_eq_getElem hi)
  refine ⟨⟨vs, v, s1, ev⟩, fun x H3 y => ?_⟩
  obtain ⟨T, x1, e1, e2, e3, e4⟩ := y
  subst e1 e3
  have a1 := e4 vs s1
  rw [ev] at a1; cases a1
  refine ⟨.tup [.int (i : Nat), xs[i]], enum_at hi, same_upd e2, ?_⟩
  exact .tup (.of upd_same) (by show 2 ≤ sizeLine; decide) ((RepA.cons (.int _) (.cons rv .nil)).kp (kp_same (same_upd e2)))
end
section
variable {X : Cx} {W : WX} {e : Expr} {fe : Ex} {p pos tpos : Pos} {elts : List Expr} {kk : Nat}
theorem iv_enum (hg : Gl X "enumerate") (hm : X.mg "enumerate" = none) (he : EV X W e fe) (hs : starEach [e] X.env = [(false, eval e X.env)] := by rfl) (hs2 : starEach [e] X.env = (false, eval e X.env) :: starEach [] X.env := by rfl) : IV X W (.Tuple elts kk tpos) (.Call (.Name "enumerate" p) [e] [] pos) (iEnumL fe) := by
  refine ⟨fun pins s σ H R I h => (pi_enum hg hm (ea_cons he ea_nil hs2) hs).run pins s σ H R I ?_⟩
  obtain ⟨B, m, ρ, S, r, re, f⟩ := h
  refine ⟨B, m, ρ, S, r, re, ?_⟩
  have f' : finI X.K X.mg W B m S σ H ((fe ρ S).bind fun d S => match d with | .lst xs => .ok (enumDs xs) S | _ => .bad) R := f
  unfold evL evL
  cases e1 : fe ρ S with
  | bad => rw [e1] at f'; exact f'.elim
  | exc c p S1 => rw [e1] at f'; exact f'
  | ok d S1 =>
    rw [e1] at f'
    simp only [DL.R.bind] at f' ⊢
    intro m' H' vs po q
    cases q with
    | cons q1 qn =>
      cases qn
      cases d with
      | lst xs =>
        cases q1 with
        | lst h nf z qq =>
          exact ⟨_, _, rfl, SqL.of h, finI.later po f' m' H' _ (Post.refl po.rl) (itr_enum qq fun H2 F2 m2 k => SqL.of (k.lst _ _ h nf))⟩
      | _ => exact f'.elim
theorem wi_enum {Q : List D → Sto → Prop} {E : Px} {ρ : Ev} {S : Sto} {a : Ex} (h : Wp (a ρ S) (fun x S1 => ∃ xs, x = .lst xs ∧ Q (enumDs xs) S1) E) : Wp (iEnumL a ρ S) Q E := wp_bind (h.mono fun d S1 ⟨xs, e, q⟩ => by
  subst e; exact ⟨q⟩)
end
end DL
set_option Elab.async false
set_option linter.all false
set_option maxRecDepth 100000
set_option maxHeartbeats 4000000
namespace DL
open PySem PySem.Spec PyProof.Rows L2
section
variable {P : Program} {w : World} {A : Around} {E : Value → Shared → Prop} {s : Shared}
set_option maxRecDepth 100000 in
set_option maxHeartbeats 3200000 in
theorem call_set_listI {l : Addr} {items : Array Value} (ns : List Int) {Q : Value → Shared → Prop} (hh : A.handled = none) (hl : s.heap.IsList l items) (hit : IntsAre items.toList ns) (hb : ns.length + 1 < scanBound)
    (h : ∀ (h' : Heap) (tk c : Nat), SetR w h' s.heap.objs.size (fun j => decide (j ∈ ns)) c → c ≤ ns.length → (∀ b o, s.heap.get? b = some o → h'.get? b = some o) → Q (.ref s.heap.objs.size) { s with heap := h', toks := tk }) :
    wpAny (model P w) A (call (.type "set") [.ref l]) Q E s := by
  have hisz : items.size = ns.length := by
    have q := IntsAre.length hit
    rw [Array.length_toList] at q
    exact q
  obtain ⟨c, tl, hmro⟩ := F.called_set.mro
  have hmade := F.called_set.made
  have hsub := F.called_set.sub
  refine wpAny_call (codeAny_of_tree ?_)
  show wpAny _ _ (callAny (.type "set") _) _ _ _
  refine wpAny_pure ⟨Code.quiet_builtin _ (by decide +kernel), codeAny_builtin F.entry_type_call ?_⟩
  rw [Around.under_plain (weight_type_call_type "set" [.ref l] []) rfl]
  have h1 := F.called_set.notType
  have h2 := F.called_set.canCreate
  have hct := F.typeCall_set_1 (.ref l)
  repeat (any_goals (first | assumption | wp_step))

  refine codeAny_mono (code_set_led1 (.ref l) (E := E) (Q₁ := fun obj s₁ => obj = .ref s.heap.objs.size ∧ s₁ = { s with heap := s.heap.push { cls := .type "set", dict := none, data := .set #[] 0 (.fresh 0 0 (!w.params.followText "set-order")) } }) ⟨rfl, rfl⟩) fun r s₁ hr => ?_
  cases r with
  | error e => exact hr
  | ok fl =>
    cases fl with
    | ret obj =>
      obtain ⟨rfl, rfl⟩ := hr
      have hS : (s.heap.push { cls := .type "set", dict := none, data := .set #[] 0 (.fresh 0 0 (!w.params.followText "set-order")) }).get? s.heap.objs.size = some { cls := .type "set", dict := none, data := .set #[] 0 (.fresh 0 0 (!w.params.followText "set-order")) } := Heap.get?_push_size _ rfl
      have hT : Shared.TypeIs { s with heap := s.heap.push { cls := .type "set", dict := none, data := .set #[] 0 (.fresh 0 0 (!w.params.followText "set-order")) } } (.ref s.heap.objs.size) "set" := ⟨_, hS, rfl⟩
      have hli := F.called_set.init.lookup
      have hbi := F.called_set.init.bind (.ref s.heap.objs.size)
      repeat (any_goals (first | assumption | wp_step))

      refine codeAny_mono (codeAny_call_builtin (R := wants (fun r s₂ => r = .none ∧ ∃ h' tk c, s₂ = { s with heap := h', toks := tk } ∧ SetR w h' s.heap.objs.size (fun j => decide (j ∈ ns)) c ∧ c ≤ ns.length ∧
          (∀ b o, s.heap.get? b = some o → h'.get? b = some o)) E) F.called_set.init.plain F.entry_set_init (check_set_init_1 hT ?_)) fun r₂ s₂ hr₂ => ?_
      · obtain ⟨ol, hol, hcl, nl, hdl⟩ := hl
        obtain ⟨ocls, odict, odata, oslots⟩ := ol
        simp only at hcl hdl
        subst hcl; subst hdl
        have hol' : (s.heap.push { cls := .type "set", dict := none, data := .set #[] 0 (.fresh 0 0 (!w.params.followText "set-order")) }).get? l = some { cls := .type "list", dict := odict, data := .seq items nl, slots := oslots } := Heap.get?_push_of_some _ hol
        have hsls := F.sub_list_set
        have hslf := F.sub_list_frozenset
        have hne : (Value.type "list" == Value.type "dict") = false := by decide
        have hl1 : (s.heap.push { cls := .type "set", dict := none, data := .set #[] 0 (.fresh 0 0 (!w.params.followText "set-order")) }).IsList l items := ⟨_, hol', rfl, nl, rfl⟩
        unfold Builtin.«set.__init__» noKeywords Builtin.Frozenset.updateFrom
        generalize hPI : pyIter = PI
        wp_walk
        subst hPI

        refine wpAny_pyIter_list hl1 ?_
        refine wpAny_bind (wpAny_runValue ?_)
        have hlS : l < s.heap.objs.size := Heap.lt_size hol
        have hh3 : A.in1.in1.in1.handled = none := by simp [hh]
        have hz1 : (s.heap.push { cls := .type "set", dict := none, data := .set #[] 0 (.fresh 0 0 (!w.params.followText "set-order")) }).objs.size = s.heap.objs.size + 1 := Heap.size_push ..
        have hneI : l ≠ (s.heap.push { cls := .type "set", dict := none, data := .set #[] 0 (.fresh 0 0 (!w.params.followText "set-order")) }).objs.size := by
          rw [Heap.size_push]; exact Nat.ne_of_lt (Nat.lt_succ_of_lt hlS)
        have hSf : s.heap.objs.size ∉ [(s.heap.push { cls := .type "set", dict := none, data := .set #[] 0 (.fresh 0 0 (!w.params.followText "set-order")) }).objs.size, l] := by
          rw [Heap.size_push]; simp only [List.mem_cons, List.mem_singleton, List.not_mem_nil, or_false, not_or]
          exact ⟨Nat.ne_of_lt (Nat.lt_succ_self _), Nat.ne_of_gt hlS⟩
        have hval : ∀ (i : Nat) (v : Value), items[i]? = some v → ∃ k t, ns[i]? = some k ∧ v = .int k t := fun i v hv => by
          have hi : i < ns.length := by rw [← hisz]; exact (Array.getElem?_eq_some_iff.mp hv).1
          obtain ⟨t, e⟩ := PyProof.Rows.IntsAre.int_at hit i v (by rw [Array.getElem?_toList]; exact hv)
          refine ⟨ns[i], t, List.getElem?_eq_getElem hi, ?_⟩
          rw [e, List.getD_eq_getElem?_getD, List.getElem?_eq_getElem hi] <;> rfl
        refine set_update_ints ((Walks.list hh3 _ l hneI items).toS) s.heap.objs.size
          hSf ns hisz hb hval (items.size - 0) 0 _ (by omega) (Nat.zero_le _)
          ⟨⟨_, Heap.get?_push_size _ rfl, rfl, rfl⟩, (hl1.push _)⟩ ?hS0 ?hR
        case hS0 =>
          have hget : ((s.heap.push { cls := .type "set", dict := none, data := .set #[] 0 (.fresh 0 0 (!w.params.followText "set-order")) }).push { cls := .type "list_iterator", data := .fields #[.ref l, .int 0 0] }).get? s.heap.objs.size
              = some { cls := .type "set", dict := none, data := .set #[] 0 (.fresh 0 0 (!w.params.followText "set-order")) } := Heap.get?_push_of_some _ hS
          exact ⟨0, Nat.le_refl 0, setR_new_at hget⟩
        case hR =>
          intro s' c' hm hc' hS'
          obtain ⟨h', g2, d', tk', os'⟩ := s'
          have eg : g2 = s.gens := hm.gens
          have ed : d' = s.drawn := hm.drawn
          have eo : os' = s.os := hm.os
          subst eg; subst ed; subst eo
          show wpAny _ _ _ _ _ _
          refine wpAny_pure ?_
          show wpAny _ _ (ret Value.none) _ _ _
          rw [hisz] at hc'
          refine wpAny_pure ⟨rfl, h', tk', c', rfl, hS', hc', fun b o e => ?_⟩
          have hb0 : b < s.heap.objs.size := Heap.lt_size e
          have hb1 : b ≠ s.heap.objs.size := Nat.ne_of_lt hb0
          have hb2 : b ≠ (s.heap.push { cls := .type "set", dict := none, data := .set #[] 0 (.fresh 0 0 (!w.params.followText "set-order")) }).objs.size := by
            rw [Heap.size_push]; exact Nat.ne_of_lt (Nat.lt_succ_of_lt hb0)
          exact hm.heap b o (by simp only [List.mem_cons, List.mem_singleton, List.not_mem_nil, or_false, not_or]; exact ⟨hb1, hb2⟩) (Heap.get?_push_of_some _ (Heap.get?_push_of_some _ e))

      · cases r₂ with
        | error e => exact hr₂
        | ok fl₂ =>
          cases fl₂ with
          | ret r =>
            obtain ⟨rfl, h', tk, c', rfl, hS', hc', hk'⟩ := hr₂
            repeat (any_goals (first | assumption | wp_step))
            exact h _ _ _ hS' hc' hk'
          | _ => exact hr₂.elim
    | _ => exact hr.elim
end
end DL
set_option Elab.async false
set_option linter.all false
set_option maxRecDepth 100000
set_option maxHeartbeats 4000000
namespace DL
open PySem PySem.Spec PyProof.Rows L2
def ded : List Int → List Int
  | [] => []
  | x :: xs => if x ∈ xs then ded xs else x :: ded xs
theorem ded_mem : ∀ {xs : List Int} {k : Int}, k ∈ ded xs ↔ k ∈ xs
  | [], k => by simp [ded]
  | x :: xs, k => by
    unfold ded
    have := @ded_mem xs k
    split
    · rename_i h
      rw [this, List.mem_cons]
      exact ⟨.inr, fun z => z.elim (fun e => e ▸ h) id⟩
    · rw [List.mem_cons, List.mem_cons, this]
theorem ded_nodup : ∀ xs : List Int, (ded xs).Nodup
  | [] => List.nodup_nil
  | x :: xs => by
    unfold ded
    split
    · exact ded_nodup xs
    · rename_i h
      exact List.nodup_cons.mpr ⟨fun z => h (ded_mem.mp z), ded_nodup xs⟩
theorem ded_len : ∀ xs : List Int, (ded xs).length ≤ xs.length
  | [] => by simp [ded]
  | x :: xs => by
    unfold ded
    have := ded_len xs
    split <;> simp <;> omega
def suI (ns : List Int) : List Int := isI (ded ns)
theorem su_mem {ns : List Int} {k : Int} : k ∈ suI ns ↔ k ∈ ns := by
  unfold suI
  rw [(isI_perm _).mem_iff, ded_mem]
theorem su_len (ns : List Int) : (suI ns).length ≤ ns.length := by
  unfold suI
  rw [isI_len]
  exact ded_len ns
theorem su_uniq {ns ms : List Int} (h : ms.Pairwise (· < ·)) (hm : ∀ k : Int, k ∈ ms ↔ k ∈ ns) : ms = suI ns := by
  have hn : ms.Nodup := h.imp fun h => by omega
  have hp : ms.Perm (ded ns) := (List.perm_ext_iff_of_nodup hn (ded_nodup ns)).mpr fun k => (hm k).trans ded_mem.symm
  exact isI_uniq hp (h.imp fun h => by omega)
def sqI : D → Option (List Int)
  | .lst xs => asIs xs
  | .tup xs => asIs xs
  | _ => none
def eSortSet (f : Ex) : Ex := fun ρ S => (f ρ S).bind fun d S => match sqI (view S d) with
  | some ns => if ns.length < 4000 ∧ (ded ns).length < 64 then .ok (.lst ((suI ns).map .int)) S else .bad
  | none => .bad
def rSetL (X : Cx) : List V → Hp → VK → Prop := fun xs H Q => ∃ (a : Addr) (ns : List Int), xs = [.ref a] ∧ (SqL X.K H a (ns.map V.int) ∨ SqT X.K H a (ns.map V.int)) ∧ ns.length < 4000 ∧ ∀ p c, H p = none → c = (ded ns).length → Q (.ref p) (upd H p (SetO X.w p (fun j => decide (j ∈ ns)) c))
section
variable {X : Cx} {W : WX} {e : Expr} {fe : Ex} {p p2 q pos : Pos}
theorem setR_count {w : World} {h : Heap} {a : Addr} {ns : List Int} {c : Nat} (R : SetR w h a (fun j => decide (j ∈ ns)) c) : c = (ded ns).length := by
  obtain ⟨o, es, ep, t, ho, hx, hd, g, nd, hm, hb, hf, hn, _⟩ := R
  have hp : (es.toList.map keyOf).Perm (ded ns) := (List.perm_ext_iff_of_nodup nd (ded_nodup ns)).mpr fun k => by
    rw [← hm k, decide_eq_true_eq, ded_mem]
  have := hp.length_eq
  rw [List.length_map, Array.length_toList] at this
  omega
theorem cr_setL (hc : X.calm = true) : CallR X (.type "set") (rSetL X) := by
  intro pins s σ H xs us Q I r ⟨a, ns, ex, h, hl, k⟩
  subst ex
  rw [Vals.ref1 r]
  have hd := I.ok.hd hc
  have fin : ∀ (h' : Heap) (tk c : Nat), SetR X.w h' s.heap.objs.size (fun j => decide (j ∈ ns)) c → c ≤ ns.length → (∀ b o, s.heap.get? b = some o → h'.get? b = some o) → EP X pins σ Q (.ref s.heap.objs.size) { s with heap := h', toks := tk } := fun h' tk c R hcn kp =>
    ⟨.ref _, upd H s.heap.objs.size (SetO X.w s.heap.objs.size (fun j => decide (j ∈ ns)) c), I.laid kp (Nat.le_refl _) (setO_new R), rfl, k _ c (I.hok.fresh (Nat.le_refl _)) (setR_count R)⟩
  rcases h with h | h
  · obtain ⟨its, rv, pl, hz⟩ := I.list h
    exact call_set_listI ns hd (show s.heap.IsList a its.toArray from pl.isList) (ints_of_vals rv) (by unfold scanBound; omega) fin
  · obtain ⟨its, rv, pt, hz⟩ := I.tuple h
    exact call_set_tupI ns hd (show s.heap.IsTuple a its.toArray from pt) (ints_of_vals rv) (by unfold scanBound; omega) fin
theorem ev_sortSet (hc : X.calm = true) (hg : Gl X "sorted") (hm : X.mg "sorted" = none) (hg2 : Gl X "set") (hm2 : X.mg "set" = none) (he : EV X W e fe) (hv : bootBuiltins "sorted" = some (.builtin "sorted") := by decide +kernel) (hv2 : bootBuiltins "set" = some (.type "set") := by decide +kernel)
    (na : starEach [e] X.env = (false, eval e X.env) :: starEach [] X.env := by rfl) (nb : starEach [.Call (.Name "set" p2) [e] [] q] X.env = (false, eval (.Call (.Name "set" p2) [e] [] q) X.env) :: starEach [] X.env := by rfl)
    (h1 : (backTo pos (starEach [] X.env)).any (·.1) = false := by rfl) (h2 : (backTo q (starEach [] X.env)).any (·.1) = false := by rfl) : EV X W (.Call (.Name "sorted" p) [.Call (.Name "set" p2) [e] [] q] [] pos) (eSortSet fe) := by
  refine pe_imp (pe_callB (cr_sortedSet hc) hg hm hv (pa_cons (pe_callTy (cr_setL hc) hg2 hm2 hv2 (pa_cons he pa_nil na) (by decide) (by decide) na h2) pa_nil nb) (by decide) (by decide) nb h1) fun σ H Q h => ?_
  obtain ⟨B, m, ρ, S, r, re, f⟩ := up_one (g := fun d ρ S => match sqI (view S d) with
    | some ns => if ns.length < 4000 ∧ (ded ns).length < 64 then .ok (.lst ((suI ns).map .int)) S else .bad
    | none => .bad) h
  refine ⟨B, m, ρ, S, r, re, f.mono fun x H1 => ?_⟩
  rintro ⟨B, m, ρ, S, d, r, re, rx, f⟩
  cases e0 : sqI (view S d) with
  | none => rw [e0] at f; exact f.elim
  | some ns =>
    rw [e0] at f
    dsimp only at f
    split at f
    · rename_i hl
      have vx := vw r rx
      have main : ∃ a, x = .ref a ∧ (SqL X.K H1 a (ns.map V.int) ∨ SqT X.K H1 a (ns.map V.int)) := by
        generalize view S d = dd at e0 vx
        cases dd with
        | lst xs =>
          obtain ⟨a, vs, rfl, h1, z1, q1⟩ := vx.asL
          have hvs := asIs_vals (show asIs xs = some ns from e0) q1
          subst hvs
          exact ⟨a, rfl, .inl (SqL.of h1)⟩
        | tup xs =>
          obtain ⟨a, vs, rfl, h1, z1, q1⟩ := vx.asT
          have hvs := asIs_vals (show asIs xs = some ns from e0) q1
          subst hvs
          exact ⟨a, rfl, .inr h1⟩
        | _ => cases e0
      obtain ⟨a, rfl, hsq⟩ := main
      refine ⟨a, ns, rfl, hsq, hl.1, fun p0 c hp0 hcn => ⟨p0, _, c, rfl, upd_same, by omega, fun ms p1 hpw hmem hlen hp1 => ?_⟩⟩
      have hms : ms = suI ns := su_uniq hpw fun k => by rw [hmem, decide_eq_true_eq]
      subst hms
      have hne : p1 ≠ p0 := fun z => by rw [z, upd_same] at hp1; cases hp1
      have hp1' : H1 p1 = none := by rw [upd_ne hne] at hp1; exact hp1
      have sm : Same H1 (upd (upd H1 p0 (SetO X.w p0 (fun j => decide (j ∈ ns)) c)) p1 (.lst ((suI ns).map V.int))) := fun b o eb => same_upd hp1 b o (same_upd hp0 b o eb)
      refine f m _ _ (Post.grow r sm) (.lst upd_same (fr_of r p1 hp1') ?_ (repA_ints _))
      have := su_len ns
      rw [List.length_map, sizeLine_eq]
      omega
    · exact f.elim
theorem wp_sortSet2 {Q : D → Sto → Prop} {E : Px} {ρ : Ev} {S : Sto} {f : Ex} (h : Wp (f ρ S) (fun d S1 => ∃ ns : List Int, (view S1 d = .lst (ns.map .int) ∨ view S1 d = .tup (ns.map .int)) ∧ ns.length < 4000 ∧ (suI ns).length < 64 ∧ Q (.lst ((suI ns).map .int)) S1) E) : Wp (eSortSet f ρ S) Q E := wp_bind (h.mono fun d S1 ⟨ns, e, hl, hd, q⟩ => by
  have e0 : sqI (view S1 d) = some ns := by rcases e with e | e <;> rw [e] <;> exact asIs_I ns
  rw [e0]
  dsimp only
  rw [if_pos ⟨hl, by unfold suI at hd; rwa [isI_len] at hd⟩]
  exact ⟨q⟩)
theorem lt_len : ∀ (ms : List Int) (lo hi : Int), ms.Pairwise (· < ·) → (∀ x ∈ ms, lo ≤ x ∧ x < hi) → (ms.length : Int) ≤ max 0 (hi - lo)
  | [], lo, hi, _, _ => by simp; omega
  | x :: ms, lo, hi, h, hb => by
    have h' := List.pairwise_cons.mp h
    have hx := hb x (by simp)
    have := lt_len ms (x + 1) hi h'.2 fun y hy => ⟨by have := h'.1 y hy; omega, (hb y (by simp [hy])).2⟩
    simp only [List.length_cons]
    omega
theorem su_lt (ns : List Int) : (suI ns).Pairwise (· < ·) := by
  have h1 := isI_pw (ded ns)
  have h2 : (suI ns).Nodup := (isI_perm _).nodup_iff.mpr (ded_nodup ns)
  exact (h1.and h2).imp fun {a b} h => by have := h.2; omega
theorem su_few {ns : List Int} {lo hi : Int} (h : ∀ x ∈ ns, lo ≤ x ∧ x < hi) : ((suI ns).length : Int) ≤ max 0 (hi - lo) := lt_len _ _ _ (su_lt ns) fun x hx => h x (su_mem.mp hx)
end
end DL
set_option Elab.async false
set_option linter.all false
set_option maxRecDepth 100000
set_option maxHeartbeats 4000000
namespace DL
open PySem PySem.Spec PyProof.Rows L2
def compL2 (t : Tg) (tt : Tx) (fi1 : Ix) (t1 : Tg) (tt1 : Tx) (e : Ex) (vs vs1 : List Nat) : List D → Ev → Sto → List D → R (List D)
  | [], _, S, acc => .ok acc S
  | d :: ds, ρ, S, acc => match t.put d (wipeD ρ vs) with
    | none => .bad
    | some ρ1 => (tt ρ1 S).nox.bind fun b S => if b = true then (fi1 ρ1 S).nox.bind fun ys S => (compL t1 tt1 e vs1 ys ρ1 S acc).bind fun acc S => compL2 t tt fi1 t1 tt1 e vs vs1 ds ρ S acc else compL2 t tt fi1 t1 tt1 e vs vs1 ds ρ S acc
def eComp2 (it : Ix) (t : Tg) (tt : Tx) (fi1 : Ix) (t1 : Tg) (tt1 : Tx) (e : Ex) (vs vs1 : List Nat) : Ex := fun ρ S => (it ρ S).bind fun xs S => (compL2 t tt fi1 t1 tt1 e vs vs1 xs ρ S []).bind fun acc S => .ok (.lst acc) S
section
variable {W : WX} {fi fi1 : Ix} {t t1 : Tg} {tt tt1 : Tx} {fe : Ex}
/-- what stands while the new list at D grows; cont what is left to do -/
def Pk (K : PySem.W.Frag) (mg : Str → Option Value) (W : WX) (B : Addr → Prop) (m1 : List Addr) (S1 : Sto) (σ : L2.St) (H1 : Hp) (Q : VK) (D : Addr) (Fin : List DL.D → Sto → R DL.D) (m0 : List Addr) (S0 : Sto) (H0 : Hp) (cont : Sto → List DL.D → R (List DL.D)) (H : Hp) : Prop :=
  ∃ m2 S2 acc ds, Pc m1 S1 H1 m2 S2 H ∧ Kp H1 H (Fo B m1 S1) (Fo (BD B D) m2 S2) m1 m2 ∧ Kp H0 H (Fo (BD B D) m0 S0) (Fo (BD B D) m2 S2) m0 m2 ∧ Rl K mg (BD B D) m2 H S2 ∧ H D = some (.lst acc) ∧ RepA K H (Fo (BD B D) m2 S2) m2 acc ds ∧ acc.length ≤ sizeLine ∧ D ∉ m2 ∧ fin K mg W B m1 S1 σ H1 ((cont S2 ds).bind Fin) Q
theorem lc2_of {K : PySem.W.Frag} {mg : Str → Option Value} {σ : L2.St} {H : Hp} {Q : VK} {vs vs1 : List Nat} {Fin : List D → Sto → R D} (hv : ∀ i ∈ t.sl, i ∈ vs) (hv1 : ∀ i ∈ t1.sl, i ∈ vs1) (h : up K mg W (fun ρ S => (fi ρ S).bind fun xs S => (compL2 t tt fi1 t1 tt1 fe vs vs1 xs ρ S []).bind Fin) σ H Q)
    (hf : ∀ B m1 S1 H1 m2 S2 H2 D acc ds, Rl K mg B m1 H1 S1 → H1 D = none → Pc m1 S1 H1 m2 S2 H2 → Rl K mg (BD B D) m2 H2 S2 → H2 D = some (.lst acc) → RepA K H2 (Fo (BD B D) m2 S2) m2 acc ds → acc.length ≤ sizeLine → D ∉ m2 → fin K mg W B m1 S1 σ H1 (Fin ds S2) Q → Q (.ref D) H2) :
    tLc2 (upI K mg W fi) (Tg.rd K t) (upT K mg W0 tt) (upI K mg W0 fi1) (Tg.rd K t1) (upT K mg W0 tt1) (up K mg W0 fe) vs vs1 σ H Q := by
  obtain ⟨B, m, ρ, S, r, re, f⟩ := h
  refine ⟨B, m, ρ, S, r, re, finI.mono (finI.bind f) fun J H1 => ?_⟩
  rintro ⟨m1, S1, xs, p1, itr, f1⟩ D hD
  have re1 := re.kp (p1.kp r)
  have k0 := kp_aside (B := B) (m := m1) (S := S1) (o := .lst []) hD
  refine ⟨fun i n H => n = xs.length - i ∧ i ≤ xs.length ∧ ∃ m2 S2 acc ds, Pc m1 S1 H1 m2 S2 H ∧ Kp H1 H (Fo B m1 S1) (Fo (BD B D) m2 S2) m1 m2 ∧ Rl K mg (BD B D) m2 H S2 ∧ H D = some (.lst acc) ∧ RepA K H (Fo (BD B D) m2 S2) m2 acc ds ∧ acc.length ≤ sizeLine ∧ D ∉ m2 ∧
      fin K mg W B m1 S1 σ H1 ((compL2 t tt fi1 t1 tt1 fe vs vs1 (xs.drop i) ρ S2 ds).bind Fin) Q,
    ⟨xs.length, by simp, Nat.zero_le _, m1, S1, [], [], (Post.refl p1.rl).pc.over hD, k0, p1.rl.aside hD, upd_same, .nil, by simp, fun z => p1.rl.mt D z hD, by simpa using f1⟩, ?_⟩
  rintro i n H2 ⟨rfl, hi, m2, S2, acc, ds, pc, kp, rl, hacc, qa, za, nD, f2⟩
  obtain ⟨go, stop⟩ := itr H2 _ m2 kp
  by_cases hlt : i < xs.length
  · right
    refine ⟨(go i hlt).1, fun H' => ∃ m3 S3 acc ds, Pc m1 S1 H1 m3 S3 H' ∧ Kp H1 H' (Fo B m1 S1) (Fo (BD B D) m3 S3) m1 m3 ∧ Rl K mg (BD B D) m3 H' S3 ∧ H' D = some (.lst acc) ∧ RepA K H' (Fo (BD B D) m3 S3) m3 acc ds ∧ acc.length ≤ sizeLine ∧ D ∉ m3 ∧
      fin K mg W B m1 S1 σ H1 ((compL2 t tt fi1 t1 tt1 fe vs vs1 (xs.drop (i + 1)) ρ S3 ds).bind Fin) Q, ?_, ?_⟩
    · rintro H' ⟨m3, S3, acc3, ds3, h3⟩
      exact ⟨_, by omega, rfl, hlt, m3, S3, acc3, ds3, h3⟩
    · intro x H3 y
      obtain ⟨d, ed, sm, rx⟩ := (go i hlt).2 x H3 y
      have p3 : Post K mg (BD B D) m2 S2 H2 m2 S2 H3 := Post.grow rl sm
      have kp3 := kp.trans (p3.kp rl)
      have ed' : xs[i] = d := by
        have := List.getElem?_eq_getElem hlt
        rw [this] at ed
        exact Option.some.inj ed
      rw [List.drop_eq_getElem_cons hlt, ed'] at f2
      unfold compL2 at f2
      cases e1 : t.put d (wipeD ρ vs) with
      | none => rw [e1] at f2; exact f2.elim
      | some ρ4 =>
        rw [e1] at f2
        dsimp only at f2
        refine Tg.rd_okP (A := fun σ' => L2.wipe σ' vs = L2.wipe σ vs) t (fun σ i v h1 h2 => by rw [wipe_set (hv i h1)]; exact h2) e1 rx ((re1.kp kp3).wipe vs) ?_ fun σ4 re4 a4 => ⟨a4, BD B D, m2, ρ4, S2, p3.rl, re4, ?_⟩
        · apply List.ext_getElem?
          intro j
          rw [wipe_get, wipe_get, wipe_length]
          by_cases h1 : j ∈ vs ∧ j < σ.length
          · simp [h1]
          · simp [h1]
        · rcases R.nox_ok (r := tt ρ4 S2) (g := fun b S => if b = true then (fi1 ρ4 S).nox.bind fun ys S => (compL t1 tt1 fe vs1 ys ρ4 S ds).bind fun acc S => compL2 t tt fi1 t1 tt1 fe vs vs1 (xs.drop (i + 1)) ρ S acc else compL2 t tt fi1 t1 tt1 fe vs vs1 (xs.drop (i + 1)) ρ S ds) with ⟨b, S5, e5, e6⟩ | e6
          · rw [e6] at f2
            rw [e5]
            intro m5 H5 p5
            have kp5 := kp3.trans (p5.kp p3.rl)
            have pc5 : Pc m1 S1 H1 m5 S5 H5 := (pc.trans p3.pc).trans p5.pc
            have hacc3 := p3.keep _ _ hacc fun z => rl.nb _ z (.inr rfl)
            have hacc5 : H5 D = some (.lst acc) := p5.keep _ _ hacc3 fun z => p3.rl.nb _ z (.inr rfl)
            have qa5 := (qa.kp (p3.kp rl)).kp (p5.kp p3.rl)
            have nD5 : D ∉ m5 := notin_ext nD p5.ext hacc3
            have re5 := re4.kp (p5.kp p3.rl)
            cases b with
            | false =>
              rw [if_neg Bool.false_ne_true] at f2 ⊢
              exact ⟨m5, S5, acc, ds, pc5, kp5, p5.rl, hacc5, qa5, za, nD5, f2⟩
            | true =>
              rw [if_pos rfl] at f2 ⊢
              rcases R.nox_ok (r := fi1 ρ4 S5) (g := fun ys S => (compL t1 tt1 fe vs1 ys ρ4 S ds).bind fun acc S => compL2 t tt fi1 t1 tt1 fe vs vs1 (xs.drop (i + 1)) ρ S acc) with ⟨ys, S6, e7, e8⟩ | e8
              · rw [e8] at f2
                refine ⟨BD B D, m5, ρ4, S5, p5.rl, re5, ?_⟩
                rw [e7]
                intro m6 H6 J1 p6 itr1
                have kp6 := kp5.trans (p6.kp p5.rl)
                have pc6 := pc5.trans p6.pc
                have hacc6 : H6 D = some (.lst acc) := p6.keep _ _ hacc5 fun z => p5.rl.nb _ z (.inr rfl)
                have qa6 := qa5.kp (p6.kp p5.rl)
                have nD6 : D ∉ m6 := notin_ext nD5 p6.ext hacc5
                have re6 := re5.kp (p6.kp p5.rl)
                clear kp5 pc5 hacc5 qa5 nD5 re5 e5 e6 e7 e8
                refine ⟨fun j n H => n = ys.length - j ∧ j ≤ ys.length ∧ Pk K mg W B m1 S1 σ H1 Q D Fin m6 S6 H6 (fun S ds => (compL t1 tt1 fe vs1 (ys.drop j) ρ4 S ds).bind fun acc S => compL2 t tt fi1 t1 tt1 fe vs vs1 (xs.drop (i + 1)) ρ S acc) H,
                  ⟨ys.length, by simp, Nat.zero_le _, m6, S6, acc, ds, pc6, kp6, ⟨fun _ _ h _ => h, fun _ _ h _ => h, fun _ _ _ h => h, fun _ _ _ f => f, fun _ _ h => h⟩, p6.rl, hacc6, qa6, za, nD6, by simpa using f2⟩, ?_⟩
                rintro j n H7 ⟨rfl, hj, m7, S7, acc7, ds7, pc7, kp7, kq7, rl7, hacc7, qa7, za7, nD7, f7⟩
                obtain ⟨go1, stop1⟩ := itr1 H7 _ m7 kq7
                by_cases hlt1 : j < ys.length
                · right
                  refine ⟨(go1 j hlt1).1, fun H' => Pk K mg W B m1 S1 σ H1 Q D Fin m6 S6 H6 (fun S ds => (compL t1 tt1 fe vs1 (ys.drop (j + 1)) ρ4 S ds).bind fun acc S => compL2 t tt fi1 t1 tt1 fe vs vs1 (xs.drop (i + 1)) ρ S acc) H', ?_, ?_⟩
                  · intro H' h'
                    exact ⟨_, by omega, rfl, hlt1, h'⟩
                  · intro x1 H8 y1
                    obtain ⟨d1, ed1, sm1, rx1⟩ := (go1 j hlt1).2 x1 H8 y1
                    have p8 : Post K mg (BD B D) m7 S7 H7 m7 S7 H8 := Post.grow rl7 sm1
                    have kq8 := kq7.trans (p8.kp rl7)
                    have kp8 := kp7.trans (p8.kp rl7)
                    have ed1' : ys[j] = d1 := by
                      have := List.getElem?_eq_getElem hlt1
                      rw [this] at ed1
                      exact Option.some.inj ed1
                    rw [List.drop_eq_getElem_cons hlt1, ed1'] at f7
                    unfold compL at f7
                    cases e9 : t1.put d1 (wipeD ρ4 vs1) with
                    | none => rw [e9] at f7; exact f7.elim
                    | some ρ9 =>
                      rw [e9] at f7
                      dsimp only at f7
                      refine Tg.rd_okP (A := fun σ' => L2.wipe σ' vs1 = L2.wipe σ4 vs1) t1 (fun σ i v h1 h2 => by rw [wipe_set (hv1 i h1)]; exact h2) e9 rx1 ((re6.kp kq8).wipe vs1) ?_ fun σ9 re9 a9 => ⟨a9, BD B D, m7, ρ9, S7, p8.rl, re9, ?_⟩
                      · apply List.ext_getElem?
                        intro j
                        rw [wipe_get, wipe_get, wipe_length]
                        by_cases h1 : j ∈ vs1 ∧ j < σ4.length
                        · simp [h1]
                        · simp [h1]
                      · rcases R.nox_ok (r := tt1 ρ9 S7) (g := fun b S => if b = true then (fe ρ9 S).nox.bind fun y S => if ds7.length < sizeLine then compL t1 tt1 fe vs1 (ys.drop (j + 1)) ρ4 S (ds7 ++ [y]) else .bad else compL t1 tt1 fe vs1 (ys.drop (j + 1)) ρ4 S ds7) with ⟨b, S10, e10, e11⟩ | e11
                        · rw [e11] at f7
                          rw [e10]
                          intro m10 H10 p10
                          have kq10 := kq8.trans (p10.kp p8.rl)
                          have kp10 := kp8.trans (p10.kp p8.rl)
                          have pc10 : Pc m1 S1 H1 m10 S10 H10 := (pc7.trans p8.pc).trans p10.pc
                          have hacc8 := p8.keep _ _ hacc7 fun z => rl7.nb _ z (.inr rfl)
                          have hacc10 : H10 D = some (.lst acc7) := p10.keep _ _ hacc8 fun z => p8.rl.nb _ z (.inr rfl)
                          have qa10 := (qa7.kp (p8.kp rl7)).kp (p10.kp p8.rl)
                          have nD10 : D ∉ m10 := notin_ext nD7 p10.ext hacc8
                          cases b with
                          | false =>
                            rw [if_neg Bool.false_ne_true] at f7 ⊢
                            exact ⟨m10, S10, acc7, ds7, pc10, kp10, kq10, p10.rl, hacc10, qa10, za7, nD10, f7⟩
                          | true =>
                            rw [if_pos rfl] at f7 ⊢
                            rcases R.nox_ok (r := fe ρ9 S10) (g := fun y S => if ds7.length < sizeLine then compL t1 tt1 fe vs1 (ys.drop (j + 1)) ρ4 S (ds7 ++ [y]) else .bad) with ⟨z, S11, e12, e13⟩ | e13
                            · rw [e13] at f7
                              refine ⟨BD B D, m10, ρ9, S10, p10.rl, re9.kp (p10.kp p8.rl), ?_⟩
                              rw [e12]
                              intro m11 H11 v p11 rv
                              have hacc11 : H11 D = some (.lst acc7) := p11.keep _ _ hacc10 fun z => p10.rl.nb _ z (.inr rfl)
                              split at f7
                              · rename_i hz
                                have hl : acc7.length = ds7.length := qa7.length
                                have hF : Fo (BD B D) m11 S11 D := .inl (.inr rfl)
                                refine ⟨acc7, hacc11, by rw [hl]; exact hz, m11, S11, acc7 ++ [v], ds7 ++ [z], (pc10.trans p11.pc).over hD, (kp10.trans (p11.kp p10.rl)).trans (kp_write hacc11 hF), (kq10.trans (p11.kp p10.rl)).trans (kp_write hacc11 hF), p11.rl.write hacc11, upd_same, ?_, by simp; omega, notin_ext nD10 p11.ext hacc10, f7⟩
                                exact ((qa10.kp (p11.kp p10.rl)).append (.cons rv .nil)).kp (kp_write hacc11 hF)
                              · exact f7.elim
                            · rw [e13] at f7; exact f7.elim
                        · rw [e11] at f7; exact f7.elim
                · left
                  have hd1 : ys.drop j = [] := List.drop_eq_nil_of_le (by omega)
                  rw [hd1] at f7
                  exact ⟨stop1 j (by omega), m7, S7, acc7, ds7, pc7, kp7, rl7, hacc7, qa7, za7, nD7, f7⟩
              · rw [e8] at f2; exact f2.elim
          · rw [e6] at f2; exact f2.elim
  · left
    have hd : xs.drop i = [] := List.drop_eq_nil_of_le (by omega)
    rw [hd] at f2
    exact ⟨stop i (by omega), hf B m1 S1 H1 m2 S2 H2 D acc ds p1.rl hD pc rl hacc qa za nD f2⟩
end
section
variable {X : Cx} {W : WX} {tg iter tg1 iter1 elt : Expr} {ifs ifs1 : List Expr} {fi fi1 : Ix} {t t1 : Tg} {tt tt1 : Tx} {fe : Ex} {scope : Scope} {own : List (Str × Nat)} {vs1 : List Nat} {pos : Pos}
theorem comp_fin {K : PySem.W.Frag} {mg : Str → Option Value} {W : WX} {σ : L2.St} {Q : VK} (B : Addr → Prop) (m1 : List Addr) (S1 : Sto) (H1 : Hp) (m2 : List Addr) (S2 : Sto) (H2 : Hp) (D : Addr) (acc : List V) (ds : List DL.D) (r1 : Rl K mg B m1 H1 S1) (hD : H1 D = none) (pc : Pc m1 S1 H1 m2 S2 H2) (rl : Rl K mg (BD B D) m2 H2 S2) (hacc : H2 D = some (.lst acc))
    (qa : RepA K H2 (Fo (BD B D) m2 S2) m2 acc ds) (za : acc.length ≤ sizeLine) (nD : D ∉ m2) (f : fin K mg W B m1 S1 σ H1 (.ok (.lst ds) S2) Q) : Q (.ref D) H2 := by
  have rl2 : Rl K mg B m2 H2 S2 := rl.less fun a z => .inl z
  have nf : ¬ Fo B m2 S2 D := by
    rintro (z | z)
    · exact r1.bt D z hD
    · exact rl.nb D z (.inr rfl)
  exact f m2 H2 _ (post_of_pc pc rl2) (.lst hacc nf za (qa.kp (kp_anti fo_bd)))
theorem sv_setComp2 {i : Nat} {y : Str} {py spos : Pos} (hc : X.calm = true) (hN : X.N.Nodup) (hy : X.N[i]? = some y) (hyl : X.env.scope.names.lookup y = some .local) (hsw : swapsWith (.ListComp elt [⟨tg, iter, ifs, 0⟩, ⟨tg1, iter1, ifs1, 0⟩] scope pos) (some (.Name y py)) spos.line X.env = pure true) (hi : IV X W tg iter fi) (ok : BlkOk X.N X.env.scope scope own)
    (hg : ∀ (s : Shared) (H : Hp) (C : Addr) (cl : List (Str × Addr)) (fp : List Addr), GV (X.blk s H scope (compEnvC scope cl C X.env) fp) tg t) (ht : ∀ (s : Shared) (H : Hp) (C : Addr) (cl : List (Str × Addr)) (fp : List Addr), TVs (X.blk s H scope (compEnvC scope cl C X.env) fp) W0 ifs tt)
    (hi1 : ∀ (s : Shared) (H : Hp) (C : Addr) (cl : List (Str × Addr)) (fp : List Addr), IV (X.blk s H scope (compEnvC scope cl C X.env) fp) W0 tg1 iter1 fi1)
    (hg1 : ∀ (s : Shared) (H : Hp) (C : Addr) (cl : List (Str × Addr)) (fp : List Addr), GV (X.blk s H scope (compEnvC scope cl C X.env) fp) tg1 t1) (ht1 : ∀ (s : Shared) (H : Hp) (C : Addr) (cl : List (Str × Addr)) (fp : List Addr), TVs (X.blk s H scope (compEnvC scope cl C X.env) fp) W0 ifs1 tt1)
    (he : ∀ (s : Shared) (H : Hp) (C : Addr) (cl : List (Str × Addr)) (fp : List Addr), EV (X.blk s H scope (compEnvC scope cl C X.env) fp) W0 elt fe) (hv : ∀ i ∈ t.sl, i ∈ own.map (·.2) := by decide) (hv1 : ∀ i ∈ t1.sl, i ∈ vs1 := by decide) (hvv : ∀ i ∈ vs1, i ∈ own.map (·.2) := by decide) (hs : ∀ x, foldedSetIterable iter X.env x = pure x := by intro _; rfl) (hs1 : ∀ env x, foldedSetIterable iter1 env x = pure x := by intro _ _; rfl) :
    SV X W (.Assign [.Name y py] (.ListComp elt [⟨tg, iter, ifs, 0⟩, ⟨tg1, iter1, ifs1, 0⟩] scope pos) spos) (sAsg i (eComp2 fi t tt fi1 t1 tt1 fe (own.map (·.2)) vs1)) := by
  refine ps_imp (ps_setLc2 (wi1 := upI X.K X.mg W0 fi1) (g := Tg.rd X.K t) (tt := upT X.K X.mg W0 tt) (g1 := Tg.rd X.K t1) (tt1 := upT X.K X.mg W0 tt1) (te := up X.K X.mg W0 fe) hc hN hy hyl hsw hi ok hvv hg ht hi1 hg1 ht1 he hs hs1) fun E σ H h => ?_
  obtain ⟨B, m, ρ, S, r, re, f⟩ := h
  refine lc2_of (W := W) (Fin := fun acc S => .ok (.lst acc) S) hv hv1 (Q := fun x H1 => gName i x σ H1 E.nx) ⟨B, m, ρ, S, r, re, ?_⟩ comp_fin
  have f' : finS X.K X.mg W B m S H ((eComp2 fi t tt fi1 t1 tt1 fe (own.map (·.2)) vs1 ρ S).bindS ρ fun d S => .fl (.nx (ρ.set i (some d))) S) E := f
  show fin X.K X.mg W B m S σ H (eComp2 fi t tt fi1 t1 tt1 fe (own.map (·.2)) vs1 ρ S) _
  refine fin.mono (fin.bindS re r f') fun v H1 => ?_
  rintro ⟨m1, S1, d, p, q, f1⟩
  exact f1 m1 H1 _ (Post.refl p.rl) ((re.kp (p.kp r)).set q)
end
end DL
set_option Elab.async false
set_option linter.all false
set_option maxRecDepth 100000
set_option maxHeartbeats 4000000
namespace DL
open PySem PySem.Spec PyProof.Rows L2
section
variable {E : Px} {ρ : Ev} {t t1 : Tg} {tt tt1 : Tx} {fi1 : Ix} {e : Ex} {vs vs1 : List Nat}
/-- what a comprehension adds: of plain things, the store stays -/
theorem wp_compLM {β : Type} (f : β → D) (p : β → Bool) (g : β → D) (S : Sto) : ∀ (l : List β) (acc : List D) (Q : List D → Sto → Prop), acc.length + l.length ≤ 16777216 →
    (∀ x ∈ l, ∃ ρ1, t.put (f x) (wipeD ρ vs) = some ρ1 ∧ Wp (tt ρ1 S) (fun b S2 => b = p x ∧ S2 = S) noX ∧ (p x = true → Wp (e ρ1 S) (fun y S2 => y = g x ∧ S2 = S) noX)) →
    Q (acc ++ (l.filter p).map g) S → Wp (compL t tt e vs (l.map f) ρ S acc) Q E
  | [], acc, Q, _, _, q => by
    have q' : Q acc S := by simpa using q
    exact ⟨q'⟩
  | x :: l, acc, Q, hl, st, q => by
    obtain ⟨ρ1, e1, h1, h2⟩ := st x (by simp)
    rw [List.map_cons]
    unfold compL
    rw [e1]
    dsimp only
    simp only [List.length_cons] at hl
    refine wp_bind (wp_nox (h1.mono fun b S2 ⟨hb, hS⟩ => ?_))
    subst hb hS
    cases hp : p x with
    | false =>
      rw [if_neg (by decide)]
      exact wp_compLM f p g _ l acc Q (by omega) (fun y hy => st y (by simp [hy])) (by simpa [hp] using q)
    | true =>
      rw [if_pos rfl]
      refine wp_bind (wp_nox ((h2 hp).mono fun y S3 ⟨hy, hS⟩ => ?_))
      subst hy hS
      rw [if_pos (by rw [sizeLine_eq]; omega)]
      exact wp_compLM f p g _ l (acc ++ [g x]) Q (by simp; omega) (fun y hy => st y (by simp [hy])) (by simpa [hp] using q)
theorem wp_compL2M {α β : Type} (f : α → D) (m : α → List β) (f1 : β → D) (p : α → β → Bool) (g : α → β → D) (S : Sto) : ∀ (l : List α) (acc : List D) (Q : List D → Sto → Prop), acc.length + (l.flatMap m).length ≤ 16777216 →
    (∀ x ∈ l, ∃ ρ1, t.put (f x) (wipeD ρ vs) = some ρ1 ∧ Wp (fi1 ρ1 S) (fun ys S2 => ys = (m x).map f1 ∧ S2 = S) noX ∧ ∀ y ∈ m x, ∃ ρ2, t1.put (f1 y) (wipeD ρ1 vs1) = some ρ2 ∧ Wp (tt1 ρ2 S) (fun b S2 => b = p x y ∧ S2 = S) noX ∧ (p x y = true → Wp (e ρ2 S) (fun z S2 => z = g x y ∧ S2 = S) noX)) →
    Q (acc ++ l.flatMap fun x => ((m x).filter (p x)).map (g x)) S → Wp (compL2 t tYesX fi1 t1 tt1 e vs vs1 (l.map f) ρ S acc) Q E
  | [], acc, Q, _, _, q => by
    have q' : Q acc S := by simpa using q
    exact ⟨q'⟩
  | x :: l, acc, Q, hl, st, q => by
    obtain ⟨ρ1, e1, h1, h2⟩ := st x (by simp)
    rw [List.map_cons]
    unfold compL2
    rw [e1]
    dsimp only
    simp only [List.flatMap_cons, List.length_append] at hl
    refine wp_bind (wp_nox (wp_tyes ?_))
    rw [if_pos rfl]
    refine wp_bind (wp_nox (h1.mono fun ys S2 ⟨hy, hS⟩ => ?_))
    subst hy hS
    refine wp_bind (wp_compLM f1 (p x) (g x) _ (m x) acc _ (by omega) h2 ?_)
    have hf := List.length_filter_le (p x) (m x)
    exact wp_compL2M f m f1 p g _ l _ Q (by rw [List.length_append, List.length_map]; omega) (fun y hy => st y (by simp [hy])) (by simpa using q)
theorem wp_comp2 {α β : Type} {it : Ix} {S : Sto} {Q : D → Sto → Prop} (l : List α) (f : α → D) (m : α → List β) (f1 : β → D) (p : α → β → Bool) (g : α → β → D) (hl : (l.flatMap m).length ≤ 16777216) (h : Wp (it ρ S) (fun xs S1 => xs = l.map f ∧
    (∀ x ∈ l, ∃ ρ1, t.put (f x) (wipeD ρ vs) = some ρ1 ∧ Wp (fi1 ρ1 S1) (fun ys S2 => ys = (m x).map f1 ∧ S2 = S1) noX ∧ ∀ y ∈ m x, ∃ ρ2, t1.put (f1 y) (wipeD ρ1 vs1) = some ρ2 ∧ Wp (tt1 ρ2 S1) (fun b S2 => b = p x y ∧ S2 = S1) noX ∧ (p x y = true → Wp (e ρ2 S1) (fun z S2 => z = g x y ∧ S2 = S1) noX)) ∧
    Q (.lst (l.flatMap fun x => ((m x).filter (p x)).map (g x))) S1) E) : Wp (eComp2 it t tYesX fi1 t1 tt1 e vs vs1 ρ S) Q E :=
  wp_bind (h.mono fun xs S1 ⟨h1, st, q⟩ => by
    subst h1
    exact wp_bind (wp_compL2M f m f1 p g S1 l [] _ (by simpa using hl) st (by
      rw [List.nil_append]
      exact ⟨q⟩)))
end
end DL
set_option Elab.async false
set_option linter.all false
set_option maxRecDepth 100000
set_option maxHeartbeats 4000000
namespace DL
open PySem PySem.Spec PyProof.Rows L2
theorem extend_tup (l : Addr) (items : Array Value) (n : Nat) (b : Addr) (items2 : Array Value) (hs0 : ¬(!items.isEmpty && Builtin.List.listTooLong (items.size + items2.size)) = true) (hs1 : items.size ≤ sizeLine) (hs2 : items.size + items2.size ≤ sizeLine + 1) :
    Meets (Builtin.«list.extend» ⟨[.ref l, .ref b], []⟩) (fun _ R s => s.heap.get? l = some { cls := .type "list", dict := none, data := .seq items n, slots := #[] } ∧ s.heap.IsTuple b items2 ∧ R (.ok (.ret Value.none)) { s with heap := s.heap.update l (Obj.mapSeq fun x => x ++ items2), toks := s.toks }) :=
  .of_wp fun prog w A R s h => by
    obtain ⟨hp, g, d, tk, os⟩ := s; obtain ⟨hl, ⟨o, hb, hbc, n2, hbd⟩, h⟩ := h; have f1 := AutoSeq1.idx_int; have f2 := AutoSeq1.sub_tuple_tuple; have f3 := AutoSeq1.sub_list_list; have f4 := AutoSeq1.sub_tuple_list; have f5 := AutoSeq1.sub_list_tuple;
    obtain ⟨oc, od, oa, osl⟩ := o
    simp only at hbc hbd
    subst hbc hbd
    have hz' : (items ++ items2).size ≤ sizeLine + 1 := by rw [Array.size_append]; exact hs2
    wp_walk using (wpAny_updateSeq hl rfl (hz := hs1) (_hz' := hz')), AutoSeq1.wpAny_loadPart' hl, AutoSeq1.wpAny_loadPart' hb; exact ⟨_, rfl, h⟩
def gExtend : List D → List D → Option (List D × D) := fun xs ds => match ds with
  | [.tup ys] => if xs.length + ys.length ≤ sizeLine then some (xs ++ ys, .non) else none
  | [.lst ys] => if xs.length + ys.length ≤ sizeLine then some (xs ++ ys, .non) else none
  | _ => none
section
variable {X : Cx} {W : WX} {o e : Expr} {fo fe : Ex} {apos cpos : Pos}
theorem mt_extendT : MtM X "list.extend" (fun x vs H Q => ∃ l b xs zs, x = V.ref l ∧ vs = [V.ref b] ∧ H l = some (.lst xs) ∧ SqT X.K H b zs ∧ xs.length + zs.length ≤ sizeLine ∧ Q .non (upd H l (.lst (xs ++ zs)))) := by
  intro pins s σ H x vs v us Q I rx rv h
  obtain ⟨l, b, xs, zs, rfl, rfl, hH, hB, hz, q⟩ := h
  cases rx
  obtain ⟨u, rfl, ru⟩ := rv.one
  cases ru
  obtain ⟨z, its, n, r, hl, e⟩ := I.lstM hH
  obtain ⟨its2, r2, e2, z2⟩ := I.tuple hB
  have hl2 := r2.length
  have hsz : its.toArray.size + its2.toArray.size ≤ sizeLine := by rw [List.size_toArray, List.size_toArray]; omega
  have hlong : ¬ (!its.toArray.isEmpty && Builtin.List.listTooLong (its.toArray.size + its2.toArray.size)) = true := by
    rw [notLongL hsz, Bool.and_false]
    exact Bool.false_ne_true
  refine call_meets F.slot_list_extend ⟨_, e, rfl⟩ F.entry_list_extend (F.args_list_extend_2 _ _)
    (extend_tup l its.toArray n b its2.toArray hlong (by rw [List.size_toArray]; omega) (by omega)) ⟨e, e2, ?_⟩
  refine ⟨.non, _, I.lset (its' := its ++ its2) hH e (by simp) (r.append r2) ?_, rfl, q⟩
  rw [List.length_append]
  omega
theorem mg_extend : MtR X "list.extend" (rMut X.K gExtend) := by
  intro pins s σ H x vs v us Q I rx rs ⟨mg, B, m, S, n, a, ws, xs, ds, ys, z, ex, r, h1, h2, h3, h4, h5, q, e, k⟩
  subst ex
  unfold gExtend at e
  have hl5 := h5.length
  split at e
  · split at e
    · rename_i zs hz
      cases e
      cases q with
      | cons qd qn =>
        cases qn
        cases qd with
        | tup h6 h7 h8 =>
          have hl8 := h8.length
          exact mt_extendT pins s σ H _ _ v us Q I rx rs ⟨a, _, ws, _, rfl, rfl, h3, h6, by omega, k _ _ (by simp; omega) (h5.append h8) .non⟩
    · cases e
  · split at e
    · rename_i zs hz
      cases e
      cases q with
      | cons qd qn =>
        cases qn
        cases qd with
        | lst h6 hf h7 h8 =>
          have hl8 := h8.length
          exact mt_extend pins s σ H _ _ v us Q I rx rs ⟨a, _, ws, _, rfl, rfl, h3, h6, by omega, k _ _ (by simp; omega) (h5.append h8) .non⟩
    · cases e
  · cases e
theorem ev_extend (ho : EV X W o fo) (ha : EVA X W [e] [fe]) (hbase : attributeBase o "extend" X.env (eval o X.env) = eval o X.env := by rfl)
    (hfew : ((backTo cpos (starEach [e] X.env)).all (fun x => !x.1) && (backToKw cpos (keywordEach [] X.env)).all (fun x => x.1.isSome) && decide ([e].length + ([] : List Keyword).length + (if ([] : List Keyword).isEmpty then 0 else 1) < 30)) = true := by rfl)
    (hline : (apos.endLine == cpos.line) = true := by rfl) (hs : starEach [e] X.env = (false, eval e X.env) :: starEach [] X.env := by rfl) (hplain : (backTo cpos (starEach [] X.env)).any (·.1) = false := by rfl) :
    EV X W (.Call (.Attribute o "extend" apos) [e] [] cpos) (eMeth gExtend fo [fe]) := ev_mut PySem.F.plainAttrs_list PySem.F.slot_list_extend PySem.F.type_list_extend mg_extend ho ha (by exact fun h => nomatch h) hbase hfew hline hs hplain
end
theorem gExtT {xs ys : List D} (h : xs.length + ys.length ≤ 16777216) : gExtend xs [.tup ys] = some (xs ++ ys, .non) := if_pos (by rw [sizeLine_eq]; exact h)
end DL
set_option Elab.async false
set_option linter.all false
set_option maxRecDepth 100000
set_option maxHeartbeats 4000000
namespace DL
open PySem PySem.Spec PyProof.Rows L2
theorem zip_no_len : typeLookup (.type "zip") "__len__" = pure none := am_miss_of_fast (by decide +kernel)
theorem zip_no_hint : typeLookup (.type "zip") "__length_hint__" = pure none := am_miss_of_fast (by decide +kernel)
abbrev IsZipHS (h : Heap) (z TI TO T : Addr) (f : Bool) : Prop :=
  h.get? z = some { cls := .type "zip", dict := none, data := .fields #[rawInt T, .bool f, .bool true, .ref TI, .ref TO], slots := #[] }
section
variable {prog : Program} {w : World} {A : Around} {E : Value → Shared → Prop} {s : Shared}
theorem heldS {z TI TO T : Addr} {f : Bool} {oT : Obj} {Q : Bool → Shared → Prop} (hz : IsZipHS s.heap z TI TO T f) (hT : s.heap.get? T = some oT)
    (h : ∀ h', IsZipHS h' z TI TO T true → Heap.SameBut z s.heap h' → Q false { s with heap := h' }) : wpAny (model prog w) A (Builtin.SmallTypes.ownedTupleIsFree (.ref z)) Q E s := by
  unfold Builtin.SmallTypes.ownedTupleIsFree
  refine wpAny_bind (wpAny_field hz rfl (x := rawInt T) rfl ?_)
  show wpAny _ _ (loadIfAlive ((T : Int).toNat) >>= _) _ _ _
  rw [Int.toNat_natCast]
  refine wpAny_bind (PySem.W.kdx_alive hT ?_)
  simp only [Option.isNone_some, Bool.false_eq_true, if_false]
  refine wpAny_bind (wpAny_field hz rfl (x := .bool f) rfl ?_)
  cases f with
  | true =>
    rw [if_neg (show ¬ ((Value.bool true != Value.bool true) = true) from Bool.false_ne_true)]
    exact wpAny_pure (h s.heap hz (Heap.SameBut.refl _ _))
  | false =>
    rw [if_pos (show (Value.bool false != Value.bool true) = true from rfl)]
    exact wpAny_bind (wpAny_setField_rec hz (by simp) fun h₁ hz₁ hs₁ => wpAny_pure (h h₁ hz₁ hs₁))
theorem zipH_next_item {t1 t2 : Bool} {z TI TO T i1 i2 l1 l2 : Addr} {f : Bool} {oT : Obj} {k1 k2 : Nat} {xs ys : Array Value} {x y : Value} {Q : Value → Shared → Prop} (D : ZipApart z TI TO i1 i2 l1 l2)
    (hz : IsZipHS s.heap z TI TO T f) (hT : s.heap.get? T = some oT) (hTI : IsPair s.heap TI (.ref i1) (.ref i2))
    (h1 : SI t1 s.heap i1 l1 k1) (h2 : SI t2 s.heap i2 l2 k2) (hl1 : SS t1 s.heap l1 xs) (hl2 : SS t2 s.heap l2 ys) (hx : xs[k1]? = some x) (hy : ys[k2]? = some y)
    (hQ : ∀ h', IsZipHS h' z TI TO T true → SI t1 h' i1 l1 (k1 + 1) → SI t2 h' i2 l2 (k2 + 1) → IsPair h' s.heap.objs.size x y → h'.objs.size = s.heap.objs.size + 1 →
      (∀ c o, c ≠ z → c ≠ i1 → c ≠ i2 → s.heap.get? c = some o → h'.get? c = some o) → Q (.ref s.heap.objs.size) { s with heap := h' }) :
    wpAny (model prog w) A (Builtin.«zip.__next__» ⟨[.ref z], []⟩) (fun fin s' => ∃ v, fin = .done (.ret v) ∧ Q v s') E s := by
  show wpAny _ _ (field (.ref z) 2 >>= _) _ _ _
  refine wpAny_bind (wpAny_field hz rfl (x := .bool true) rfl ?_)
  show wpAny _ _ (field (.ref z) 3 >>= _) _ _ _
  refine wpAny_bind (wpAny_field hz rfl (x := .ref TI) rfl ?_)
  refine wpAny_bind (wpAny_seqItems hTI rfl ?_)
  show wpAny _ _ (Builtin.SmallTypes.ownedTupleIsFree (.ref z) >>= _) _ _ _
  refine wpAny_bind (heldS hz hT fun h₁ hz₁ hs₁ => ?_)
  simp only [Bool.false_eq_true, if_false]
  refine wpAny_bind ?_
  rw [← Array.forIn_toList]
  simp only [List.forIn_cons, List.forIn_nil]
  refine wpAny_bind (wpAny_bind (wpAny_holding ?_))
  show wpAny _ _ (Builtin.SmallTypes.nextOrEnd (.ref i1)) _ _ _
  refine srcE_item (s := { s with heap := h₁ }) (h1.extBut hs₁.extBut D.i1z) (hl1.extBut hs₁.extBut D.l1z) hx fun h₂ h1₂ hs₂ => ?_
  refine wpAny_pure ?_
  refine wpAny_bind (wpAny_bind (wpAny_holding ?_))
  show wpAny _ _ (Builtin.SmallTypes.nextOrEnd (.ref i2)) _ _ _
  refine srcE_item (s := { s with heap := h₂ }) ((h2.extBut hs₁.extBut D.i2z).extBut hs₂.extBut D.i12.symm) ((hl2.extBut hs₁.extBut D.l2z).extBut hs₂.extBut D.l2i1) hy fun h₃ h2₃ hs₃ => ?_
  refine wpAny_pure (wpAny_pure ?_)
  show wpAny _ _ (newTuple [x, y] >>= _) _ _ _
  refine wpAny_bind (wpAny_newTuple ?_)
  have hsz : h₃.objs.size = s.heap.objs.size := by rw [hs₃.1, hs₂.1, hs₁.1]
  have hz₃ : IsZipHS h₃ z TI TO T true := hs₃.extBut _ _ D.i2z.symm (hs₂.extBut _ _ D.i1z.symm hz₁)
  have hk : ∀ c o, c ≠ z → c ≠ i1 → c ≠ i2 → s.heap.get? c = some o → h₃.get? c = some o := fun c o c1 c2 c3 e => hs₃.extBut _ _ c3 (hs₂.extBut _ _ c2 (hs₁.extBut _ _ c1 e))
  have h1₃ : SI t1 h₃ i1 l1 (k1 + 1) := h1₂.extBut hs₃.extBut D.i12
  refine wpAny_pure ⟨_, rfl, ?_⟩
  show Q (.ref h₃.objs.size) _
  have hp : IsPair (h₃.push { cls := .type "tuple", data := .seq #[x, y] }) h₃.objs.size x y := Heap.get?_push_size _ rfl
  have hz4 : (h₃.push { cls := .type "tuple", data := .seq #[x, y] }).objs.size = h₃.objs.size + 1 := Heap.size_push ..
  rw [hsz] at hp hz4 ⊢
  exact hQ _ (Heap.get?_push_of_some _ hz₃) (h1₃.at fun o e => Heap.get?_push_of_some _ e) (h2₃.at fun o e => Heap.get?_push_of_some _ e) hp hz4 fun c o c1 c2 c3 e => Heap.get?_push_of_some _ (hk c o c1 c2 c3 e)
theorem zipH_next_end {t1 t2 : Bool} {z TI TO T i1 i2 l1 l2 : Addr} {f : Bool} {oT : Obj} {k1 k2 : Nat} {xs ys : Array Value} {Q : Fin → Shared → Prop} (hh : A.handled = none) (D : ZipApart z TI TO i1 i2 l1 l2)
    (hz : IsZipHS s.heap z TI TO T f) (hT : s.heap.get? T = some oT) (hTI : IsPair s.heap TI (.ref i1) (.ref i2))
    (h1 : SI t1 s.heap i1 l1 k1) (h2 : SI t2 s.heap i2 l2 k2) (hl1 : SS t1 s.heap l1 xs) (hl2 : SS t2 s.heap l2 ys) (hx : xs[k1]? = none) (hy : ys[k2]? = none)
    (hE : ∀ h' e, (∀ c o, c ≠ z → c ≠ i1 → c ≠ i2 → s.heap.get? c = some o → h'.get? c = some o) → (∃ o, h'.get? e = some o ∧ o.cls = .type "StopIteration") → E (.ref e) { s with heap := h' }) :
    wpAny (model prog w) A (Builtin.«zip.__next__» ⟨[.ref z], []⟩) Q E s := by
  show wpAny _ _ (field (.ref z) 2 >>= _) _ _ _
  refine wpAny_bind (wpAny_field hz rfl (x := .bool true) rfl ?_)
  show wpAny _ _ (field (.ref z) 3 >>= _) _ _ _
  refine wpAny_bind (wpAny_field hz rfl (x := .ref TI) rfl ?_)
  refine wpAny_bind (wpAny_seqItems hTI rfl ?_)
  show wpAny _ _ (Builtin.SmallTypes.ownedTupleIsFree (.ref z) >>= _) _ _ _
  refine wpAny_bind (heldS hz hT fun h₁ hz₁ hs₁ => ?_)
  simp only [Bool.false_eq_true, if_false]
  refine wpAny_bind ?_
  rw [← Array.forIn_toList]
  simp only [List.forIn_cons, List.forIn_nil]
  refine wpAny_bind (wpAny_bind (wpAny_holding ?_))
  show wpAny _ _ (Builtin.SmallTypes.nextOrEnd (.ref i1)) _ _ _
  refine srcE_end (s := { s with heap := h₁ }) hh (h1.extBut hs₁.extBut D.i1z) (hl1.extBut hs₁.extBut D.l1z) hx fun h₂ hs₂ => ?_
  refine wpAny_bind ?_
  refine wpAny_bind ?_
  simp only [List.drop_succ_cons, List.drop_zero, List.zipIdx_cons, List.zipIdx_nil, List.forIn_cons, List.forIn_nil]
  refine wpAny_bind ?_
  refine wpAny_bind (srcE_end (s := { s with heap := h₂ }) hh ((h2.extBut hs₁.extBut D.i2z).extBut hs₂ D.i12.symm) ((hl2.extBut hs₁.extBut D.l2z).extBut hs₂ D.l2i1) hy fun h₄ hs₄ => ?_)
  rw [if_neg (show ¬ ((none : Option Value).isSome = true) by decide)]
  refine wpAny_pure (wpAny_pure (wpAny_bind (wpAny_rule ?_)))
  show wpAny _ _ (newExc (.type "StopIteration") [] >>= _) _ _ _
  refine wpAny_bind ?_
  simp only [newExc, newTuple]
  refine wpAny_bind (wpAny_newObj_type ?_ (by size_fits))
  refine wpAny_bind (m := firstArgMember _ _) (wpAny_of_eq (a := Value.none) (by first | rfl | (simp only [firstArgMember]; rfl)) ?_)
  refine wpAny_newObj_type ?_ (by size_fits)
  simp only [raiseNew]
  refine wpAny_bind (wpAny_handled ?_)
  first | rw [show A.in1.handled = none from hh] | rw [hh]
  refine wpAny_bind (wpAny_pure (wpAny_throw ?_))
  refine hE _ _ (fun c o c1 c2 c3 x => Heap.get?_push_of_some _ (Heap.get?_push_of_some _ (hs₄ _ _ c3 (hs₂ _ _ c2 (hs₁.extBut _ _ c1 x))))) ⟨_, Heap.get?_push_size _ rfl, rfl⟩
theorem pyNext_zipH_item {t1 t2 : Bool} {z TI TO T i1 i2 l1 l2 : Addr} {f : Bool} {oT : Obj} {k1 k2 : Nat} {xs ys : Array Value} {x y : Value} {Q : Option Value → Shared → Prop} (D : ZipApart z TI TO i1 i2 l1 l2)
    (hz : IsZipHS s.heap z TI TO T f) (hT : s.heap.get? T = some oT) (hTI : IsPair s.heap TI (.ref i1) (.ref i2))
    (h1 : SI t1 s.heap i1 l1 k1) (h2 : SI t2 s.heap i2 l2 k2) (hl1 : SS t1 s.heap l1 xs) (hl2 : SS t2 s.heap l2 ys) (hx : xs[k1]? = some x) (hy : ys[k2]? = some y)
    (hQ : ∀ h', IsZipHS h' z TI TO T true → SI t1 h' i1 l1 (k1 + 1) → SI t2 h' i2 l2 (k2 + 1) → IsPair h' s.heap.objs.size x y → h'.objs.size = s.heap.objs.size + 1 →
      (∀ c o, c ≠ z → c ≠ i1 → c ≠ i2 → s.heap.get? c = some o → h'.get? c = some o) → Q (some (.ref s.heap.objs.size)) { s with heap := h' }) :
    wpAny (model prog w) A (pyNext (.ref z)) Q E s := by
  have hTy : s.TypeIs (.ref z) "zip" := ⟨_, hz, rfl⟩
  unfold pyNext
  exact wpAny_bind (wpAny_attempt (wpAny_callSpecial?_slot (name := Str.ofString "__next__") hTy F.slot_zip_next
    (wpAny_call_entry F.slot_zip_next hTy F.entry_zip_next
      (zipH_next_item D hz hT hTI h1 h2 hl1 hl2 hx hy fun h' a1 a3 a4 a5 a6 a7 => wpAny_pure (hQ h' a1 a3 a4 a5 a6 a7)) (F.args_zip_next_1 _))))
theorem pyNext_zipH_end {t1 t2 : Bool} {z TI TO T i1 i2 l1 l2 : Addr} {f : Bool} {oT : Obj} {k1 k2 : Nat} {xs ys : Array Value} {Q : Option Value → Shared → Prop} (hh : A.handled = none) (D : ZipApart z TI TO i1 i2 l1 l2)
    (hz : IsZipHS s.heap z TI TO T f) (hT : s.heap.get? T = some oT) (hTI : IsPair s.heap TI (.ref i1) (.ref i2))
    (h1 : SI t1 s.heap i1 l1 k1) (h2 : SI t2 s.heap i2 l2 k2) (hl1 : SS t1 s.heap l1 xs) (hl2 : SS t2 s.heap l2 ys) (hx : xs[k1]? = none) (hy : ys[k2]? = none)
    (hQ : ∀ h', (∀ c o, c ≠ z → c ≠ i1 → c ≠ i2 → s.heap.get? c = some o → h'.get? c = some o) → Q none { s with heap := h' }) : wpAny (model prog w) A (pyNext (.ref z)) Q E s := by
  have hTy : s.TypeIs (.ref z) "zip" := ⟨_, hz, rfl⟩
  unfold pyNext
  refine wpAny_bind (wpAny_attempt (wpAny_callSpecial?_slot (name := Str.ofString "__next__") hTy F.slot_zip_next
    (wpAny_call_entry F.slot_zip_next hTy F.entry_zip_next (zipH_next_end hh D hz hT hTI h1 h2 hl1 hl2 hx hy fun h' e hk he => ?_) (F.args_zip_next_1 _))))
  obtain ⟨o, ho, hc⟩ := he
  refine wpAny_bind (wpAny_isInstance (T := "StopIteration") (b := true) ⟨o, ho, hc⟩ isSubtype_stop ?_)
  exact wpAny_pure (hQ _ hk)
end
end DL
set_option Elab.async false
set_option linter.all false
set_option maxRecDepth 100000
set_option maxHeartbeats 4000000
namespace DL
open PySem PySem.Spec PyProof.Rows L2
/-- the tuples so far -/
def ZTs (H : Hp) (xs ys : List V) (Ts : List Addr) : Prop := ∀ (j : Nat) T x y, Ts[j]? = some T → xs[j]? = some x → ys[j]? = some y → H T = some (.tup [x, y])
/-- what has been gathered of a zip, at turn i -/
def ZL (X : Cx) (pins : List (Addr × Obj)) (σ : L2.St) (H0 : Hp) (Sd a b z TI TO i1 i2 : Addr) (t1 t2 : Bool) (xs ys : List V) (i : Nat) (s : Shared) : Prop :=
  ∃ (H : Hp) (Ts : List Addr), Ts.length = i ∧ Inv X pins σ H s ∧ (∀ c ∈ [z, TI, TO, i1, i2], FpOk X pins H c) ∧ H Sd = some (.lst (Ts.map V.ref)) ∧ ZTs H xs ys Ts ∧ (∀ c o, H0 c = some o → H c = some o) ∧
    IsPair s.heap TI (.ref i1) (.ref i2) ∧ (∃ o, s.heap.get? TO = some o) ∧ SI t1 s.heap i1 a i ∧ SI t2 s.heap i2 b i ∧ ((i = 0 ∧ IsZipB true s.heap z TI TO .none ∧ ∃ x y, IsPair s.heap TO x y) ∨ ∃ T f x y, H T = some (.tup [x, y]) ∧ IsZipHS s.heap z TI TO T f)
theorem SqB.up {t : Bool} {K : PySem.W.Frag} {H H' : Hp} {a : Addr} {xs : List V} (h : SqB t K H a xs) (k : ∀ c o, H c = some o → H' c = some o) : SqB t K H' a xs := by
  cases t with
  | true =>
    rcases (show SqT K H a xs from h) with h | h
    · exact Or.inl (h.elim (fun h => .inl (k _ _ h)) fun ⟨o, h⟩ => .inr ⟨o, k _ _ h⟩)
    · exact Or.inr h
  | false =>
    rcases (show SqL K H a xs from h) with h | h
    · exact Or.inl (h.elim (fun h => .inl (k _ _ h)) fun ⟨o, h⟩ => .inr ⟨o, k _ _ h⟩)
    · exact Or.inr h
theorem fpOk_upd {X : Cx} {pins : List (Addr × Obj)} {H : Hp} {c a : Addr} {o : HO} (h : FpOk X pins H c) (hne : c ≠ a) : FpOk X pins (L2.upd H a o) c := ⟨by rw [upd_ne hne]; exact h.1, h.2⟩
section
variable {X : Cx} {pins : List (Addr × Obj)} {σ : L2.St} {H0 : Hp} {Sd a b z TI TO i1 i2 : Addr} {t1 t2 : Bool} {xs ys : List V} {A : Around}
theorem lt_fp {c : Addr} {s : Shared} {u : Obj} (h : s.heap.get? c = some u) : c ≠ s.heap.objs.size := Nat.ne_of_lt (Heap.lt_size h)
/-- the new tuple at the list's end -/
theorem zl_step (D : ZipApart z TI TO i1 i2 a b) {H : Hp} {Ts : List Addr} {i : Nat} {s : Shared} {x y : V} {u u2 : Value} {h' : Heap} (hT : Ts.length = i) (I : Inv X pins σ H s) (hf : ∀ c ∈ [z, TI, TO, i1, i2], FpOk X pins H c) (hS : H Sd = some (.lst (Ts.map V.ref))) (hz : ZTs H xs ys Ts) (hH : ∀ c o, H0 c = some o → H c = some o)
    (hx : xs[i]? = some x) (hy : ys[i]? = some y) (ru : RelV x u) (ru2 : RelV y u2) (hi : i < sizeLine) (ne : ∀ c ∈ [z, TI, TO, i1, i2], c ≠ s.heap.objs.size) (h0S : H0 Sd = none)
    (hk : ∀ c o, c ≠ z → c ≠ TO → c ≠ i1 → c ≠ i2 → s.heap.get? c = some o → h'.get? c = some o) (hnew : IsPair h' s.heap.objs.size u u2) :
    ∃ (its : List Value) (n : Nat), h'.get? Sd = some { cls := .type "list", data := .seq its.toArray n } ∧ its.length = i ∧
      ∃ H', Inv X pins σ H' { s with heap := h'.update Sd (Obj.mapSeq (·.push (.ref s.heap.objs.size))) } ∧ (∀ c ∈ [z, TI, TO, i1, i2], FpOk X pins H' c) ∧ H' Sd = some (.lst ((Ts ++ [s.heap.objs.size]).map V.ref)) ∧ ZTs H' xs ys (Ts ++ [s.heap.objs.size]) ∧ (∀ c o, H0 c = some o → H' c = some o) ∧ (∀ T x y, H T = some (.tup [x, y]) → H' T = some (.tup [x, y])) ∧ H' s.heap.objs.size = some (.tup [x, y]) := by
  have nw : H s.heap.objs.size = none := I.hok.fresh (Nat.le_refl _)
  have nSd : Sd ≠ s.heap.objs.size := fun e => by rw [e, nw] at hS; cases hS
  have new : ObjOk X.prog X.w (L2.upd H s.heap.objs.size (.tup [x, y])) h' s.heap.objs.size (.tup [x, y]) :=
    ⟨by show 2 ≤ sizeLine; decide, [u, u2], .cons ru (.cons ru2 .nil), ⟨_, hnew, rfl, _, rfl⟩⟩
  have I1 : Inv X pins σ (L2.upd H s.heap.objs.size (.tup [x, y])) { s with heap := h' } :=
    I.turnedNew (t' := s.toks) (ch := [z, TI, TO, i1, i2]) (fun c o hb q => hk c o (fun q' => hb (by simp [q'])) (fun q' => hb (by simp [q'])) (fun q' => hb (by simp [q'])) (fun q' => hb (by simp [q'])) q) hf (Nat.le_refl _) new
  have hS1 : L2.upd H s.heap.objs.size (.tup [x, y]) Sd = some (.lst (Ts.map V.ref)) := by rw [upd_ne nSd]; exact hS
  obtain ⟨zz, its, n, r, hl, e⟩ := I1.lstM hS1
  rw [List.length_map] at hl
  refine ⟨its, n, e, by omega, _, I1.lset (its' := its ++ [.ref s.heap.objs.size]) (ys := (Ts ++ [s.heap.objs.size]).map V.ref) hS1 e (by simp) ?_ ?_, ?_, upd_same, ?_, ?_, ?_, ?_⟩
  · rw [List.map_append]
    exact r.append (.cons rfl .nil)
  · rw [List.length_map, List.length_append, List.length_singleton]; omega
  · intro c hc
    refine fpOk_upd (fpOk_upd (hf c hc) (ne c hc)) ?_
    rintro rfl
    have := (hf _ hc).1
    rw [hS] at this; cases this
  · intro j T x' y' e1 e2 e3
    by_cases hj : j < Ts.length
    · rw [List.getElem?_append_left hj] at e1
      have q := hz j T x' y' e1 e2 e3
      have n1 : T ≠ Sd := fun e => by rw [e, hS] at q; cases q
      rw [upd_ne n1, upd_ne (ne_of_none q nw)]
      exact q
    · rw [List.getElem?_append_right (by omega)] at e1
      have h0 : j - Ts.length = 0 := by
        have := (List.getElem?_eq_some_iff.mp e1).1
        simpa using this
      rw [h0] at e1
      simp at e1
      subst e1
      have hj' : j = i := by omega
      subst hj'
      rw [hx] at e2; cases e2
      rw [hy] at e3; cases e3
      rw [upd_ne nSd.symm]
      exact upd_same
  · intro c o e1
    have q := hH c o e1
    have n1 : c ≠ Sd := fun e => by rw [e, h0S] at e1; cases e1
    rw [upd_ne n1, upd_ne (ne_of_none q nw)]
    exact q
  · intro T x' y' q
    have n1 : T ≠ Sd := fun e => by rw [e, hS] at q; cases q
    rw [upd_ne n1, upd_ne (ne_of_none q nw)]
    exact q
  · rw [upd_ne nSd.symm]
    exact upd_same
theorem zl_loop (hA : A.in1.handled = none) (D : ZipApart z TI TO i1 i2 a b) (sa : SqB t1 X.K H0 a xs) (sb : SqB t2 X.K H0 b ys) (hl : xs.length = ys.length) (hn : xs.length ≤ sizeLine) (h0S : H0 Sd = none) (res : Value) {R : Result → Shared → Prop}
    (hR : ∀ s' H Ts, Ts.length = xs.length → Inv X pins σ H s' → H Sd = some (.lst (Ts.map V.ref)) → ZTs H xs ys Ts → (∀ c o, H0 c = some o → H c = some o) → R (.ok (.ret res)) s') :
    ∀ (k i : Nat) (s : Shared), xs.length - i = k → i ≤ xs.length → ZL X pins σ H0 Sd a b z TI TO i1 i2 t1 t2 xs ys i s →
      codeAny (model X.prog X.w) A (.builtin "list.extend.loop" ⟨[.ref Sd, .ref z, res], []⟩) R s := by
  intro k
  induction k with
  | zero =>
    intro i s hk hi h
    have hin : i = xs.length := by omega
    obtain ⟨H, Ts, hT, I, hf, hS, hz, hH, hTI, hTOx, h1, h2, hd⟩ := h
    obtain ⟨its, rv, p⟩ := seqB I (sa.up hH)
    obtain ⟨its2, rv2, p2⟩ := seqB I (sb.up hH)
    have l1 := rv.length
    have l2 := rv2.length
    refine codeAny_builtin F.entry_extend_loop ?_
    rw [Around.under_plainId F.plain_extend_loop _]
    show wpAny _ A.in1 (pyNext (.ref z) >>= _) _ _ s
    have fin : ∀ h', (∀ c o, c ≠ z → c ≠ TO → c ≠ i1 → c ≠ i2 → s.heap.get? c = some o → h'.get? c = some o) → R (.ok (.ret res)) { s with heap := h' } := fun h' hk' => by
      have I2 : Inv X pins σ H { s with heap := h' } := I.turnedL (t' := s.toks) (ch := [z, TI, TO, i1, i2]) (fun c o hb q => hk' c o (fun q' => hb (by simp [q'])) (fun q' => hb (by simp [q'])) (fun q' => hb (by simp [q'])) (fun q' => hb (by simp [q'])) q) hf
      exact hR _ H Ts (by omega) I2 hS hz hH
    rcases hd with ⟨_, hz0, x0, y0, hTO⟩ | ⟨T, f, x0, y0, hHT, hz1⟩
    · refine wpAny_bind (pyNext_zipS_end hA D hz0 hTI hTO h1 h2 p p2 (by simp; omega) (by simp; omega) fun h' hk' => ?_)
      exact wpAny_pure (fin h' hk')
    · obtain ⟨zT, itT, rT, oT, eT, _⟩ := I.hok T _ hHT
      refine wpAny_bind (pyNext_zipH_end hA D hz1 eT hTI h1 h2 p p2 (by simp; omega) (by simp; omega) fun h' hk' => ?_)
      exact wpAny_pure (fin h' fun c o c1 _ c3 c4 e => hk' c o c1 c3 c4 e)
  | succ k ih =>
    intro i s hk hi h
    have hlt : i < xs.length := by omega
    obtain ⟨H, Ts, hT, I, hf, hS, hz, hH, hTI, ⟨oTO, hTOx⟩, h1, h2, hd⟩ := h
    have hx : xs[i]? = some xs[i] := List.getElem?_eq_getElem hlt
    have hy : ys[i]? = some (ys[i]'(by omega)) := List.getElem?_eq_getElem (by omega)
    generalize xs[i] = x at hx
    generalize (ys[i]'(by omega)) = y at hy
    obtain ⟨its, rv, p⟩ := seqB I (sa.up hH)
    obtain ⟨its2, rv2, p2⟩ := seqB I (sb.up hH)
    obtain ⟨u, hu, ru⟩ := rv.get hx
    obtain ⟨u2, hu2, ru2⟩ := rv2.get hy
    have neF : ∀ c ∈ [z, TI, TO, i1, i2], c ≠ s.heap.objs.size := by
      have hzz : ∃ u, s.heap.get? z = some u := by rcases hd with ⟨_, hz0, _⟩ | ⟨T, f, _, _, _, hz1⟩ <;> exact ⟨_, by assumption⟩
      obtain ⟨uz, ez⟩ := hzz
      intro c hc
      have e' : c = z ∨ c = TI ∨ c = TO ∨ c = i1 ∨ c = i2 := by simpa using hc
      rcases e' with q | q | q | q | q
      · rw [q]; exact lt_fp ez
      · rw [q]; exact lt_fp hTI
      · rw [q]; exact lt_fp hTOx
      · rw [q]; exact Nat.ne_of_lt h1.lt
      · rw [q]; exact Nat.ne_of_lt h2.lt
    refine codeAny_builtin F.entry_extend_loop ?_
    rw [Around.under_plainId F.plain_extend_loop _]
    show wpAny _ A.in1 (pyNext (.ref z) >>= _) _ _ s
    -- the list's turn
    have go : ∀ (h' : Heap) (f : Bool) (T : Addr), (∀ c o, c ≠ z → c ≠ TO → c ≠ i1 → c ≠ i2 → s.heap.get? c = some o → h'.get? c = some o) → IsPair h' s.heap.objs.size u u2 → (∃ o, h'.get? TO = some o) → SI t1 h' i1 a (i + 1) → SI t2 h' i2 b (i + 1) → IsZipHS h' z TI TO T f → ((∃ x y, H T = some (.tup [x, y])) ∨ T = s.heap.objs.size) →
        wpAny (model X.prog X.w) A.in1 (updateSeq Sd (·.push (.ref s.heap.objs.size)) >>= fun _ => again (.builtin "list.extend.loop" ⟨[.ref Sd, .ref z, res], []⟩))
          (fun fin s' => match fin with | .done f => R (.ok f) s' | .again c' => c'.quiet = true ∧ codeAny (model X.prog X.w) A c' R s') (fun e s' => R (.error e) s') { s with heap := h' } := by
      intro h' f T hk' hnew hTO' h1' h2' hz' hTT
      obtain ⟨ls, n, eS, lS, H', I2, hf2, hS2, hz2, hH2, hup, hnw⟩ := zl_step D hT I hf hS hz hH hx hy ru ru2 (by omega) neF h0S hk' hnew
      have nS : ∀ c ∈ [z, TI, TO, i1, i2], c ≠ Sd := fun c hc e => by
        have := (hf _ hc).1
        rw [e, hS] at this; cases this
      have oth : ∀ c o, c ≠ Sd → h'.get? c = some o → (h'.update Sd (Obj.mapSeq (·.push (.ref s.heap.objs.size)))).get? c = some o := fun c o hc e => (Heap.get?_update_other _ _ (Ne.symm hc)).trans e
      refine wpAny_bind (wpAny_updateSeq eS rfl (wpAny_pure ⟨plainId_quiet F.plain_extend_loop _, ih (i + 1) _ (by omega) hlt ?_⟩) (by rw [List.size_toArray]; omega) (by show (ls.toArray.push _).size ≤ sizeLine + 1; rw [Array.size_push, List.size_toArray]; omega))
      obtain ⟨oT2, eT2⟩ := hTO'
      refine ⟨H', Ts ++ [s.heap.objs.size], by simp; omega, I2, hf2, hS2, hz2, hH2, oth _ _ (nS TI (by simp)) (hk' _ _ D.TIz D.TITO D.TIi1 D.TIi2 hTI), ⟨_, oth _ _ (nS TO (by simp)) eT2⟩, h1'.at fun o e => oth _ o (nS i1 (by simp)) e, h2'.at fun o e => oth _ o (nS i2 (by simp)) e, .inr ?_⟩
      rcases hTT with ⟨x0, y0, q⟩ | rfl
      · exact ⟨T, f, x0, y0, hup _ _ _ q, oth _ _ (nS z (by simp)) hz'⟩
      · exact ⟨_, f, x, y, hnw, oth _ _ (nS z (by simp)) hz'⟩
    rcases hd with ⟨_, hz0, x0, y0, hTO⟩ | ⟨T, f, x0, y0, hHT, hz1⟩
    · refine wpAny_bind (pyNext_zipS_item D hz0 hTI hTO h1 h2 p p2 (x := u) (y := u2) (by simpa using hu) (by simpa using hu2) fun h' z' TO' h1' h2' hTn hsz hk' => ?_)
      exact go h' false _ hk' hTn ⟨_, TO'⟩ h1' h2' z' (.inr rfl)
    · obtain ⟨zT, itT, rT, oT, eT, _⟩ := I.hok T _ hHT
      refine wpAny_bind (pyNext_zipH_item D hz1 eT hTI h1 h2 p p2 (x := u) (y := u2) (by simpa using hu) (by simpa using hu2) fun h' z' h1' h2' hTn hsz hk' => ?_)
      exact go h' true T (fun c o c1 _ c3 c4 e => hk' c o c1 c3 c4 e) hTn ⟨oTO, hk' _ _ D.TOz D.TOi1 D.TOi2 hTOx⟩ h1' h2' z' (.inl ⟨_, _, hHT⟩)
end
end DL
set_option Elab.async false
set_option linter.all false
set_option maxRecDepth 100000
set_option maxHeartbeats 4000000
namespace DL
open PySem PySem.Spec PyProof.Rows L2
section
variable {X : Cx} {pins : List (Addr × Obj)} {σ : L2.St} {H0 : Hp} {Sd a b z TI TO i1 i2 : Addr} {t1 t2 : Bool} {xs ys : List V} {A : Around} {s : Shared}
theorem zl_extend (hA : A.in1.handled = none) (D : ZipApart z TI TO i1 i2 a b) (sa : SqB t1 X.K H0 a xs) (sb : SqB t2 X.K H0 b ys) (hl : xs.length = ys.length) (hn : xs.length ≤ sizeLine) (h0S : H0 Sd = none) (res : Value) {R : Result → Shared → Prop}
    {H : Hp} (I : Inv X pins σ H s) (hS : H Sd = some (.lst [])) (hf : ∀ c ∈ [z, TI, TO, i1, i2], FpOk X pins H c) (hH : ∀ c o, H0 c = some o → H c = some o)
    (hz : IsZipB true s.heap z TI TO .none) (hTI : IsPair s.heap TI (.ref i1) (.ref i2)) (hTO : ∃ x y, IsPair s.heap TO x y) (h1 : SI t1 s.heap i1 a 0) (h2 : SI t2 s.heap i2 b 0)
    (hR : ∀ s' H Ts, Ts.length = xs.length → Inv X pins σ H s' → H Sd = some (.lst (Ts.map V.ref)) → ZTs H xs ys Ts → (∀ c o, H0 c = some o → H c = some o) → R (.ok (.ret res)) s') :
    wpAny (model X.prog X.w) A.in1 (Builtin.List.listExtendWith (.ref Sd) (.ref z) res)
      (fun fin s' => match fin with | .done f => R (.ok f) s' | .again c' => c'.quiet = true ∧ codeAny (model X.prog X.w) A c' R s') (fun e s' => R (.error e) s') s := by
  have hT : s.TypeIs (.ref z) "zip" := ⟨_, hz, rfl⟩
  have nS : ∀ c ∈ [z, TI, TO, i1, i2], c ≠ Sd := fun c hc e => by
    have := (hf _ hc).1
    rw [e, hS] at this; cases this
  obtain ⟨zz, its, n, r, hl0, eS⟩ := I.lstM hS
  have hits : its = [] := List.length_eq_zero_iff.mp (by simpa using hl0.symm)
  subst hits
  have hSz : Sd ≠ z := (nS z (by simp)).symm
  unfold Builtin.List.listExtendWith
  refine wpAny_bind (wpAny_typeOf hT ?_)
  have e1 : Builtin.List.listSameRef (.ref Sd) (.ref z) = false := by simp [Builtin.List.listSameRef, hSz]
  have e2 : (Value.type "zip" == Value.type "list") = false := by decide
  have e3 : (Value.type "zip" == Value.type "tuple") = false := by decide
  simp only [e1, e2, e3, Bool.or_false, Bool.false_eq_true, if_false]
  refine wpAny_bind (pyIter_zipS hz ?_)
  refine wpAny_bind (wpAny_holding ?_)
  unfold Builtin.List.listLengthHint
  refine wpAny_bind (wpAny_specialOf hT zip_no_len ?_)
  show wpAny _ A.in1 (specialOf (Value.ref z) (Str.ofString "__length_hint__") >>= _) _ _ _
  refine wpAny_bind (wpAny_specialOf hT zip_no_hint ?_)
  refine wpAny_pure ?_
  show wpAny _ A.in1 (rule "list.extend.makes-room" >>= fun _ => Builtin.List.listTouch (.ref Sd) >>= fun _ =>
    again (.builtin "list.extend.loop" ⟨[.ref Sd, .ref z, res], []⟩)) _ _ _
  refine wpAny_bind (wpAny_rule ?_)
  refine wpAny_bind ?_
  show wpAny _ A.in1 (updateSeq Sd (·.push .none) >>= fun _ => updateSeq Sd (·.pop)) _ _ _
  refine wpAny_bind (wpAny_updateSeq eS rfl ?_)
  have I1 : Inv X pins σ (L2.upd H Sd (.lst [.non])) { s with heap := s.heap.update Sd (Obj.mapSeq (·.push Value.none)) } := I.lset (its' := [.none]) hS eS (by simp) (.cons rfl .nil) (by show 1 ≤ sizeLine; rw [sizeLine_eq]; decide)
  have eS2 := Heap.get?_update_self (Obj.mapSeq (·.push Value.none)) eS rfl
  refine wpAny_updateSeq (hz := by seq_fits) eS2 rfl ?_
  have I2 : Inv X pins σ (L2.upd (L2.upd H Sd (.lst [.non])) Sd (.lst [])) { s with heap := (s.heap.update Sd (Obj.mapSeq (·.push Value.none))).update Sd (Obj.mapSeq (·.pop)) } := I1.lset (its := [.none]) (its' := []) upd_same eS2 (by simp) .nil (by simp)
  have oth : ∀ b o, b ≠ Sd → s.heap.get? b = some o → ((s.heap.update Sd (Obj.mapSeq (·.push Value.none))).update Sd (Obj.mapSeq (·.pop))).get? b = some o :=
    fun b o hb e => (Heap.get?_update_other _ _ (Ne.symm hb)).trans ((Heap.get?_update_other _ _ (Ne.symm hb)).trans e)
  have hup : ∀ c o, c ≠ Sd → H c = some o → L2.upd (L2.upd H Sd (.lst [.non])) Sd (.lst []) c = some o := fun c o hc e => by rw [upd_ne hc, upd_ne hc]; exact e
  refine wpAny_pure ⟨plainId_quiet F.plain_extend_loop _, zl_loop hA D sa sb hl hn h0S res hR xs.length 0 _ (by omega) (Nat.zero_le _) ?_⟩
  obtain ⟨x0, y0, hTO⟩ := hTO
  refine ⟨_, [], rfl, I2, fun c hc => fpOk_upd (fpOk_upd (hf c hc) (nS c hc)) (nS c hc), upd_same, fun j T x y e => by simp at e, fun c o e => hup c o (fun q => by rw [q, h0S] at e; cases e) (hH c o e), oth _ _ (nS TI (by simp)) hTI, ⟨_, oth _ _ (nS TO (by simp)) hTO⟩, h1.at fun o e => oth _ o (nS i1 (by simp)) e, h2.at fun o e => oth _ o (nS i2 (by simp)) e,
    .inl ⟨rfl, oth _ _ (nS z (by simp)) hz, x0, y0, oth _ _ (nS TO (by simp)) hTO⟩⟩
theorem zl_init (hA : A.in1.handled = none) (D : ZipApart z TI TO i1 i2 a b) (sa : SqB t1 X.K H0 a xs) (sb : SqB t2 X.K H0 b ys) (hl : xs.length = ys.length) (hn : xs.length ≤ sizeLine) (h0S : H0 Sd = none) {R : Result → Shared → Prop}
    {H : Hp} (I : Inv X pins σ H s) (hS : H Sd = some (.lst [])) (hf : ∀ c ∈ [z, TI, TO, i1, i2], FpOk X pins H c) (hH : ∀ c o, H0 c = some o → H c = some o)
    (hz : IsZipB true s.heap z TI TO .none) (hTI : IsPair s.heap TI (.ref i1) (.ref i2)) (hTO : ∃ x y, IsPair s.heap TO x y) (h1 : SI t1 s.heap i1 a 0) (h2 : SI t2 s.heap i2 b 0)
    (hR : ∀ s' H Ts, Ts.length = xs.length → Inv X pins σ H s' → H Sd = some (.lst (Ts.map V.ref)) → ZTs H xs ys Ts → (∀ c o, H0 c = some o → H c = some o) → R (.ok (.ret .none)) s') :
    wpAny (model X.prog X.w) A.in1 (Builtin.«list.__init__» ⟨[.ref Sd, .ref z], []⟩)
      (fun fin s' => match fin with | .done f => R (.ok f) s' | .again c' => c'.quiet = true ∧ codeAny (model X.prog X.w) A c' R s') (fun e s' => R (.error e) s') s := by
  have nS : ∀ c ∈ [z, TI, TO, i1, i2], c ≠ Sd := fun c hc e => by
    have := (hf _ hc).1
    rw [e, hS] at this; cases this
  obtain ⟨zz, its, n, r, hl0, eS⟩ := I.lstM hS
  have hits : its = [] := List.length_eq_zero_iff.mp (by simpa using hl0.symm)
  subst hits
  show wpAny _ A.in1 (do let old ← Builtin.List.listItems (.ref Sd); Builtin.List.listUpdate (.ref Sd) (fun _ => #[]); letGo old.toList.reverse; Builtin.List.listExtendWith (.ref Sd) (.ref z) .none) _ _ s
  refine wpAny_bind ?_
  unfold Builtin.List.listItems
  refine wpAny_bind (wpAny_seqItems eS rfl (wpAny_pure ?_))
  show wpAny _ A.in1 (updateSeq Sd (fun _ => #[]) >>= fun _ => letGo (#[] : Array Value).toList.reverse >>= fun _ => Builtin.List.listExtendWith (.ref Sd) (.ref z) .none) _ _ s
  refine wpAny_bind (wpAny_updateSeq eS rfl ?_)
  have I1 : Inv X pins σ (L2.upd H Sd (.lst [])) { s with heap := s.heap.update Sd (Obj.mapSeq (fun _ => (#[] : Array Value))) } := I.lset (its' := []) hS eS (by simp) .nil (by simp)
  have oth : ∀ b o, b ≠ Sd → s.heap.get? b = some o → (s.heap.update Sd (Obj.mapSeq (fun _ => (#[] : Array Value)))).get? b = some o :=
    fun b o hb e => (Heap.get?_update_other _ _ (Ne.symm hb)).trans e
  refine wpAny_bind (wpAny_letGo ?_)
  obtain ⟨x0, y0, hTO⟩ := hTO
  exact zl_extend hA D sa sb hl hn h0S .none I1 upd_same (fun c hc => fpOk_upd (hf c hc) (nS c hc)) (fun c o e => by
    have : c ≠ Sd := fun q => by rw [q, h0S] at e; cases e
    rw [upd_ne this]; exact hH c o e) (oth _ _ (nS z (by simp)) hz) (oth _ _ (nS TI (by simp)) hTI) ⟨x0, y0, oth _ _ (nS TO (by simp)) hTO⟩ (h1.at fun o e => oth _ o (nS i1 (by simp)) e) (h2.at fun o e => oth _ o (nS i2 (by simp)) e) hR
theorem zl_call {Q : Value → Shared → Prop} {E : Value → Shared → Prop} (hA : A.handled = none) (D : ZipApart z TI TO i1 i2 a b) (I : Inv X pins σ H0 s) (sa : SqB t1 X.K H0 a xs) (sb : SqB t2 X.K H0 b ys) (hl : xs.length = ys.length) (hn : xs.length ≤ sizeLine)
    (hf : ∀ c ∈ [z, TI, TO, i1, i2], FpOk X pins H0 c)
    (hz : IsZipB true s.heap z TI TO .none) (hTI : IsPair s.heap TI (.ref i1) (.ref i2)) (hTO : ∃ x y, IsPair s.heap TO x y) (h1 : SI t1 s.heap i1 a 0) (h2 : SI t2 s.heap i2 b 0)
    (hQ : ∀ s' H Ts, Ts.length = xs.length → Inv X pins σ H s' → H s.heap.objs.size = some (.lst (Ts.map V.ref)) → ZTs H xs ys Ts → (∀ c o, H0 c = some o → H c = some o) → Q (.ref s.heap.objs.size) s') :
    wpAny (model X.prog X.w) A (call (.type "list") [.ref z]) Q E s := by
  refine callType_codes (Q₁ := fun obj s₁ => obj = .ref s.heap.objs.size ∧ s₁ = { s with heap := s.heap.push { cls := .type "list", data := .seq #[] } }) F.called_list (F.typeCall_list_1 _) F.entry_list_init
    (code_list_new _ ⟨rfl, rfl⟩) fun obj s₁ h₁ => ?_
  obtain ⟨rfl, rfl⟩ := h₁
  have hS : (s.heap.push { cls := .type "list", data := .seq #[] }).get? s.heap.objs.size = some { cls := .type "list", data := .seq #[] } := Heap.get?_push_size _ rfl
  have h0S := I.fresh
  have nw : ∀ c ∈ [z, TI, TO, i1, i2], c ≠ s.heap.objs.size := by
    obtain ⟨x0, y0, hTO⟩ := hTO
    intro c hc
    have e' : c = z ∨ c = TI ∨ c = TO ∨ c = i1 ∨ c = i2 := by simpa using hc
    rcases e' with q | q | q | q | q
    · rw [q]; exact lt_fp hz
    · rw [q]; exact lt_fp hTI
    · rw [q]; exact lt_fp hTO
    · rw [q]; exact Nat.ne_of_lt h1.lt
    · rw [q]; exact Nat.ne_of_lt h2.lt
  have I1 : Inv X pins σ (L2.upd H0 s.heap.objs.size (.lst [])) { s with heap := s.heap.push { cls := .type "list", data := .seq #[] } } := I.lnew (its := []) .nil (by simp)
  obtain ⟨x0, y0, hTO⟩ := hTO
  refine ⟨⟨_, hS, rfl⟩, F.args_list_init_2 _ _, zl_init (A := A.in1) (show A.in1.in1.handled = none from hA) D sa sb hl hn h0S I1 upd_same (fun c hc => fpOk_upd (hf c hc) (nw c hc)) (fun c o e => ?_) (Heap.get?_push_of_some _ hz) (Heap.get?_push_of_some _ hTI) ⟨x0, y0, Heap.get?_push_of_some _ hTO⟩ (h1.at fun o e => Heap.get?_push_of_some _ e) (h2.at fun o e => Heap.get?_push_of_some _ e) fun s' H Ts e1 e2 e3 e4 e5 => ?_⟩
  · rw [upd_ne (ne_of_none e h0S)]; exact e
  · exact ⟨rfl, hQ s' H Ts e1 e2 e3 e4 e5⟩
end
def eZipL (a b : Ex) : Ex := fun ρ S => (a ρ S).bind fun x S => (b ρ S).bind fun y S => match asSq x, asSq y with
  | some p, some q => if p.2.length = q.2.length ∧ p.2.length ≤ sizeLine then .ok (.lst (zipDs p.2 q.2)) S else .bad
  | _, _ => .bad
theorem repA_ts {K : PySem.W.Frag} {H : Hp} {Fb : Addr → Prop} {m : List Addr} : ∀ {vs ws : List V} {xs ys : List D} {Ts : List Addr}, Ts.length = vs.length → vs.length = ws.length → ZTs H vs ws Ts → RepA K H Fb m vs xs → RepA K H Fb m ws ys → RepA K H Fb m (Ts.map V.ref) (zipDs xs ys)
  | [], [], xs, ys, Ts, h1, _, _, q1, q2 => by
    cases q1; cases q2
    have := List.length_eq_zero_iff.mp h1
    subst this
    exact .nil
  | v :: vs, w :: ws, xs, ys, Ts, h1, h2, hz, q1, q2 => by
    cases q1 with
    | cons r1 q1 =>
      cases q2 with
      | cons r2 q2 =>
        cases Ts with
        | nil => simp at h1
        | cons T Ts =>
          have h0 := hz 0 T v w rfl rfl rfl
          refine .cons (.tup (.of h0) (by show 2 ≤ sizeLine; decide) (.cons r1 (.cons r2 .nil))) ?_
          exact repA_ts (by simpa using h1) (by simpa using h2) (fun j T x y e1 e2 e3 => hz (j + 1) T x y (by simpa using e1) (by simpa using e2) (by simpa using e3)) q1 q2
  | [], w :: ws, _, _, _, _, h2, _, _, _ => by simp at h2
  | v :: vs, [], _, _, _, _, h2, _, _, _ => by simp at h2
section
variable {X : Cx} {W : WX} {e e2 : Expr} {fa fb : Ex} {p p0 pos pos0 p3 kp : Pos} {j : Nat}
theorem ev_zipL (hc : X.calm = true) (hgl : Gl X "list") (hml : X.mg "list" = none) (hg : Gl X "zip") (hm : X.mg "zip" = none) (ha : EV X W e fa) (hb : EV X W e2 fb) (hs2 : starEach [e2] X.env = [(false, eval e2 X.env)] := by rfl)
    (he1 : starEach [e, e2] X.env = (false, eval e X.env) :: starEach [e2] X.env := by rfl)
    (he : backTo pos (starEach [e, e2] X.env) = (false, eval e X.env) :: backTo pos (starEach [e2] X.env) := by rfl) (hpl : (backTo pos (starEach [e, e2] X.env)).any (·.1) = false := by rfl)
    (hall : (backToKw pos (keywordEach [⟨some "strict", .Constant (.bool true) j p3, kp⟩] X.env)).all (·.1.isSome) = true := by rfl) (hnone : (backToKw pos (keywordEach [⟨some "strict", .Constant (.bool true) j p3, kp⟩] X.env)).any (·.1.isNone) = false := by rfl)
    (hks : (backToKw pos (keywordEach [⟨some "strict", .Constant (.bool true) j p3, kp⟩] X.env)).filterMap (·.1) = [Str.ofString "strict"] := by rfl)
    (na : starEach [.Call (.Name "zip" p) [e, e2] [⟨some "strict", .Constant (.bool true) j p3, kp⟩] pos] X.env = (false, eval (.Call (.Name "zip" p) [e, e2] [⟨some "strict", .Constant (.bool true) j p3, kp⟩] pos) X.env) :: starEach [] X.env := by rfl) :
    EV X W (.Call (.Name "list" p0) [.Call (.Name "zip" p) [e, e2] [⟨some "strict", .Constant (.bool true) j p3, kp⟩] pos] [] pos0) (eZipL fa fb) := by
  refine ⟨fun pins s σ H Q I h => ?_⟩
  obtain ⟨B, m, ρ, S, r, re, f⟩ := h
  refine Call_ (ld_blt I hgl hml boot_list (PyProof.Rows.callWith_type1 (args_cons ?_ na) na))
  -- the two sources
  have hA : upA X.K X.mg W (evL [fa, fb]) σ H fun vs H1 => ∃ B m S ρ dx dy v1 v2, vs = [v1, v2] ∧ Rl X.K X.mg B m H1 S ∧ RepE X.K H1 (Fo B m S) m σ ρ ∧ Rep X.K H1 (Fo B m S) m v1 dx ∧ Rep X.K H1 (Fo B m S) m v2 dy ∧
      fin X.K X.mg W B m S σ H1 (match asSq dx, asSq dy with | some p, some q => if p.2.length = q.2.length ∧ p.2.length ≤ sizeLine then .ok (.lst (zipDs p.2 q.2)) S else .bad | _, _ => .bad) Q := by
    refine ⟨B, m, ρ, S, r, re, ?_⟩
    have f' : fin X.K X.mg W B m S σ H ((fa ρ S).bind fun x S => (fb ρ S).bind fun y S => match asSq x, asSq y with | some p, some q => if p.2.length = q.2.length ∧ p.2.length ≤ sizeLine then .ok (.lst (zipDs p.2 q.2)) S else .bad | _, _ => .bad) Q := f
    unfold evL evL evL
    cases e1 : fa ρ S with
    | bad => rw [e1] at f'; exact f'.elim
    | exc c p S1 => rw [e1] at f'; exact f'
    | ok dx S1 =>
      rw [e1] at f'
      simp only [DL.R.bind] at f' ⊢
      cases e2 : fb ρ S1 with
      | bad => rw [e2] at f'; exact f'.elim
      | exc c p S1 => rw [e2] at f'; exact f'
      | ok dy S2 =>
        rw [e2] at f'
        simp only [DL.R.bind] at f' ⊢
        intro m' H' vs po q
        cases q with
        | cons q1 qt =>
          cases qt with
          | cons q2 qn =>
            cases qn
            exact ⟨B, m', S2, ρ, dx, dy, _, _, rfl, po.rl, re.kp (po.kp r), q1, q2, fin.later po f'⟩
  have hpa : PA X [e, e2] (upA X.K X.mg W (evL [fa, fb])) := ea_cons ha (ea_cons hb ea_nil hs2) he1
  refine wpAny_Call_Name_kw (ld_blt I hg hm PyProof.Rows.boot_zip ?_)
  refine callWith_typeK hpl hnone ?_
  rw [he]
  refine evalArgs_kwB hall ?_
  rw [← he]
  refine thn (hpa.run pos pins s σ H _ I hA) fun us s1 ⟨vs, H1, I1, r1, q1⟩ => ?_
  refine kws_cons (Constant_bool (kws_nil ?_))
  rw [hks]
  obtain ⟨B, m, S, ρ, dx, dy, v1, v2, rfl, rl, re, rx, ry, fI⟩ := q1
  obtain ⟨u1, u2, rfl, ru1, ru2⟩ := vals2 r1
  cases e1 : asSq dx with
  | none => rw [e1] at fI; exact fI.elim
  | some p =>
    cases e2 : asSq dy with
    | none => rw [e1, e2] at fI; exact fI.elim
    | some q =>
      rw [e1, e2] at fI
      dsimp only at fI
      split at fI
      · rename_i hl
        obtain ⟨a, vs, rfl, qa, sa, ka⟩ := asSq_rep rx e1
        obtain ⟨b, ws, rfl, qb, sb, kb⟩ := asSq_rep ry e2
        cases ru1
        cases ru2
        obtain ⟨its, rv, p1⟩ := seqB I1 sa
        obtain ⟨its2, rv2, p2⟩ := seqB I1 sb
        refine call_zipS p1 p2 fun h' hz hTI hTO h1 h2 hsz hk => ?_
        have I2 : Inv X pins σ H1 { s1 with heap := h' } := I1.kept (t' := s1.toks) hk
        have la := qa.length
        have lb := qb.length
        refine args_nil ?_
        refine zl_call (I2.ok.hd hc) (PySem.W.ktu_apart s1.heap.objs.size a b p1.lt p2.lt) I2 sa sb (by omega) (by omega) (fresh5 I1) hz hTI ⟨_, _, hTO⟩ h1 h2 fun s' H' Ts e1 e2 e3 e4 e5 => ?_
        refine ⟨.ref _, H', e2, rfl, ?_⟩
        have sm : Same H1 H' := fun c o e => e5 c o e
        have n1 := I2.fresh
        refine fin.ok rl fI sm (.lst e3 (fr_of rl _ n1) (by rw [List.length_map]; omega) ?_)
        exact repA_ts (by omega) (by omega) e4 (qa.kp (kp_same sm)) (qb.kp (kp_same sm))
      · exact fI.elim
end
section
variable {Q : D → Sto → Prop} {E : Px} {ρ : Ev} {S : Sto} {a b : Ex}
theorem wp_zipL (h : Wp (a ρ S) (fun x S1 => Wp (b ρ S1) (fun y S2 => ∃ xs ys, (x = .lst xs ∨ x = .tup xs) ∧ (y = .lst ys ∨ y = .tup ys) ∧ xs.length = ys.length ∧ xs.length ≤ 16777216 ∧ Q (.lst (zipDs xs ys)) S2) E) E) : Wp (eZipL a b ρ S) Q E :=
  wp_bind (h.mono fun d S1 h => wp_bind (h.mono fun d2 S2 ⟨xs, ys, e1, e2, hl, hs, q⟩ => by
    have hs' : xs.length ≤ sizeLine := by rw [sizeLine_eq]; exact hs
    rcases e1 with rfl | rfl <;> rcases e2 with rfl | rfl <;> simp only [asSq] <;> rw [if_pos ⟨hl, hs'⟩] <;> exact ⟨q⟩))
end
end DL
set_option Elab.async false
set_option linter.all false
set_option maxRecDepth 100000
set_option maxHeartbeats 4000000
namespace LK
open PySem PySem.Spec PyProof.Rows L2 DL
def ce_widths_1 : Ex := (eCall min2D [(eOp2 ixD (eVar 0) (eC (.int 1))), (eOp2 subD (eVar 1) (eVar 2))])
def c_widths_1 : Ex := eComp (iRng3X (eC (.int 0)) (eVar 1) (eOp2 ixD (eVar 0) (eC (.int 1)))) (.nm 2) tYesX ce_widths_1 [2]
/-- widths: 0:code 1:size 2:at -/
def b_widths : Sx :=
  (sRet c_widths_1)
def d_widths : Fn := fnP (fnB 3 b_widths)
def ce_bases_1 : Ex := (eTup [(eVar 1), (eCall intD [(eOp2 eqD (eVar 1) (eVar 2))])])
def c_bases_1 : Ex := eComp (iSeq (eVar 0)) (.nm 1) tYesX ce_bases_1 [1]
def ce_bases_2 : Ex := (eFn LS.d_through [c_bases_1])
def c_bases_2 : Ex := eComp (iSeq (eVar 0)) (.nm 2) tYesX ce_bases_2 [2]
/-- bases: 0:points 1:x 2:point -/
def b_bases : Sx :=
  (sRet c_bases_2)
def d_bases : Fn := fnP (fnB 3 b_bases)
def ce_column_by_1 : Ex := (eOp2 mulD (eVar 3) (eOp2 ixD (eVar 4) (eVar 5)))
def c_column_by_1 : Ex := eComp (iSeq (eVar 2)) (.tp [(.nm 3), (.nm 4)]) tYesX ce_column_by_1 [3, 4]
def ce_column_by_2 : Ex := (eOp2 modD (eCall sumD [c_column_by_1]) (eC (.int 31)))
def c_column_by_2 : Ex := eComp (iRng1X (eCall lenD [(eVar 0)])) (.nm 5) tYesX ce_column_by_2 [5]
/-- column_by: 0:basis 1:signs 2:parts 3:sign 4:base 5:at -/
def b_column_by : Sx :=
  (sSeq (sAsg 2 (eZipL (eVar 1) (eVar 0)))
    (sRet (eCall tupleD [c_column_by_2])))
def d_column_by : Fn := fnP (fnB 6 b_column_by)
def ce_row_by_1 : Ex := (eOp2 addD (eVar 10) (eC (.int 1)))
def c_row_by_1 : Ex := eComp (iSeq (eSl (eVar 3) none (some (eVar 8)))) (.nm 10) tYesX ce_row_by_1 [10]
def ce_row_by_2 : Ex := (eFn d_bases [c_row_by_1])
def ck_row_by_1 : Ex := (eVar 8)
def c_row_by_2 : Ex := eDcM (iSeq (eSortSet (eVar 4))) (.nm 8) tYesX ck_row_by_1 ce_row_by_2 [8]
def ce_row_by_3 : Ex := (eOp2 ixD (eOp2 ixD (eVar 2) (eVar 10)) (eVar 7))
def c_row_by_3 : Ex := eComp (iSeq (eSl (eVar 3) none (some (eVar 8)))) (.nm 10) tYesX ce_row_by_3 [10]
def lb_row_by_1 : Sx := (sSeq (sAsg 9 (eFn d_column_by [(eOp2 ixD (eVar 5) (eVar 8)), c_row_by_3]))
    (sExpr (eMeth gExtend (eVar 6) [(eOp2 addD (eVar 9) (eOp2 mulD (eTup [(eC (.int 0))]) (eOp2 subD (eVar 8) (eCall lenD [(eVar 9)]))))])))
def l_row_by_1 : Sx := sFor (iEnumL (eVar 4)) (.tp [(.nm 7), (.nm 8)]) lb_row_by_1
/-- row_by: 0:code 1:size 2:some 3:numbers 4:wide 5:basis 6:found 7:at 8:width 9:column 10:j -/
def b_row_by : Sx :=
  (sSeq (sAsg 4 (eFn d_widths [(eVar 0), (eVar 1)]))
    (sSeq (sAsg 5 c_row_by_2)
    (sSeq (sAsg 6 (eLstM []))
    (sSeq l_row_by_1
    (sRet (eCall tupleD [(eVar 6)]))))))
def d_row_by : Fn := fnP (fnB 11 b_row_by)
def lb_vanishing_1 : Sx := (sAsg 1 (eFn LS.d_lifted [(eVar 1), (eOp2 addD (eVar 2) (eC (.int 1)))]))
def l_vanishing_1 : Sx := sFor (iSeq (eVar 0)) (.nm 2) lb_vanishing_1
/-- vanishing: 0:numbers 1:found 2:j -/
def b_vanishing : Sx :=
  (sSeq (sAsg 1 (eTup [(eC (.int 1))]))
    (sSeq l_vanishing_1
    (sRet (eVar 1))))
def d_vanishing : Fn := fnP (fnB 3 b_vanishing)
def i_few_by_1 : Sx := sIf (tVal (eOp2 neD (eFn LG.d_wrong_in [(eVar 0), (eVar 4), (eVar 2)]) (eLst []))) (sRet (eTup [(eC (.str "doubt"))])) sSkip
/-- few_by: 0:code 1:size 2:some 3:numbers 4:one -/
def b_few_by : Sx :=
  (sSeq (sAsg 3 (eCall sortD [(eVar 2)]))
    (sSeq (sAsg 4 (eFn d_row_by [(eVar 0), (eVar 1), (eVar 2), (eVar 3)]))
    (sSeq i_few_by_1
    (sRet (eTup [(eC (.str "few")), (eVar 4), (eFn LS.d_added [(eVar 4), (eFn d_vanishing [(eVar 3)])])])))))
def d_few_by : Fn := fnP (fnB 5 b_few_by)
def ct_choices_1 : Tx := (tOrX (tVal (eOp2 eqD (eVar 4) (eLst []))) (tVal (eOp2 gtD (eVar 5) (eOp2 ixD (eVar 4) (eOp1 negD (eC (.int 1)))))))
def ce_choices_1 : Ex := (eOp2 addD (eVar 4) (eLst [(eVar 5)]))
def ci_choices_1 : Ix := (iSeq (eVar 0))
def c_choices_1 : Ex := eComp2 (iSeq (eVar 2)) (.nm 4) tYesX ci_choices_1 (.nm 5) ct_choices_1 ce_choices_1 [4, 5] [5]
def lb_choices_1 : Sx := (sAsg 2 c_choices_1)
def l_choices_1 : Sx := sFor (iRng1X (eVar 1)) (.nm 3) lb_choices_1
/-- choices: 0:numbers 1:many 2:found 3:turn 4:one 5:j -/
def b_choices : Sx :=
  (sSeq (sAsg 2 (eLst [(eLst [])]))
    (sSeq l_choices_1
    (sRet (eVar 2))))
def d_choices : Fn := fnP (fnB 6 b_choices)
def i_told_by_1 : Sx := sIf (tVal (eOp2 ltD (eCall lenD [(eVar 2)]) (eVar 3))) (sRet (eFn d_few_by [(eVar 0), (eVar 1), (eVar 2)])) sSkip
def i_told_by_2 : Sx := sIf (tVal (eOp2 eqD (eFn LG.d_wrong_in [(eVar 0), (eVar 4), (eVar 2)]) (eLst []))) (sRet (eTup [(eC (.str "row")), (eVar 4), (eLst [])])) sSkip
def i_told_by_3 : Sx := sIf (tVal (eOp2 leD (eOp2 mulD (eC (.int 2)) (eCall lenD [(eVar 6)])) (eOp2 subD (eCall lenD [(eVar 2)]) (eVar 3)))) (sRet (eTup [(eC (.str "row")), (eVar 4), (eVar 6)])) sSkip
def lb_told_by_1 : Sx := (sSeq (sAsg 4 (eFn d_row_by [(eVar 0), (eVar 1), (eVar 2), (eVar 5)]))
    (sSeq (sAsg 6 (eFn LG.d_wrong_in [(eVar 0), (eVar 4), (eVar 2)]))
    i_told_by_3))
def l_told_by_1 : Sx := sFor (iSeq (eFn d_choices [(eCall sortD [(eVar 2)]), (eVar 3)])) (.nm 5) lb_told_by_1
/-- told_by: 0:code 1:size 2:some 3:need 4:row 5:numbers 6:wrong -/
def b_told_by : Sx :=
  (sSeq (sAsg 3 (eFn LH.d_need_of [(eVar 0), (eVar 1)]))
    (sSeq i_told_by_1
    (sSeq (sAsg 4 (eFn d_row_by [(eVar 0), (eVar 1), (eVar 2), (eSl (eCall sortD [(eVar 2)]) none (some (eVar 3)))]))
    (sSeq i_told_by_2
    (sSeq l_told_by_1
    (sRet (eTup [(eC (.str "doubt"))])))))))
def d_told_by : Fn := fnP (fnB 7 b_told_by)
end LK
set_option Elab.async false
set_option linter.all false
set_option maxRecDepth 100000
set_option maxHeartbeats 4000000
namespace LK
open DL LE LH LG
local macro_rules | `(tactic| walk_at "w1") => `(tactic| with_reducible first
  | (refine ws_then ?_; try with_reducible dsimp only [List.set_cons_zero, List.set_cons_succ]) | refine ws_seq ?_ | refine ws_asg ?_ | refine ws_expr ?_ | refine ws_ret ?_ | refine ws_if ?_ | refine ws_asgT ?_ | refine ws_skip ?_ | refine ws_retN ?_ | refine ws_brk ?_ | refine ws_cont ?_ | refine ws_thenR ?_ | refine ws_thenB ?_ | refine ws_thenC ?_ | refine fq_rt ?_ | refine fq_nx ?_ | refine un_nx ?_ | refine un_ct ?_ | refine un_bk ?_ | refine un_rt ?_ | refine ws_loopN ?_
  | (refine ws_loopC (ρ1 := ?r) ?h ?q; (case h => with_unfolding_all rfl); try with_reducible dsimp only [List.set_cons_zero, List.set_cons_succ])
  | refine wp_c ?_ | refine wp_op2 ?_ | refine wp_fn ?_ | refine wp_cons ?_ | refine wp_nil ?_ | refine wp_call ?_ | refine wp_op1 ?_
  | (refine wp_var (d := ?d) ?h ?q; (case h => with_unfolding_all rfl))
  | (refine ws_aug (d := ?d) ?h ?q; (case h => with_unfolding_all rfl))
  | refine wp_tup ?_ | refine wp_lst ?_ | refine wp_lstM ?_ | refine wp_listM ?_
  | refine wp_sl0 ?_ | refine wp_sl1 ?_ | refine wp_sl2 ?_ | refine wp_sl3 ?_
  | refine wp_tval ?_ | refine wp_tnot ?_ | refine wp_tand ?_ | refine wp_tor ?_ | refine wp_tyes ?_ | refine wp_and ?_ | refine wp_or ?_ | refine wp_not ?_ | refine wp_ifx ?_ | refine wp_chain ?_ | refine wp_meth ?_ | refine wp_meth0 ?_
  | refine wp_isi ?_ | refine wp_isis ?_ | refine wp_repr ?_ | refine wp_maxD ?_ | refine wi_rng3 ?_
  | refine ws_par ?_ | refine wp_dnew ?_ | refine wp_get2 ?_ | refine wp_reprQ ?_ | refine wp_fnK ?_ | refine wi_valsI ?_ | refine wi_itemsI ?_ | refine ws_augI ?_
  | refine wi_seq ?_ | refine wi_rng1 ?_ | refine wi_rng2 ?_ | refine wi_zip2 ?_ | refine wi_zipS ?_
  | (refine wp_fnB (ρ := ?ρ) ?he ?_; (case he => (simp only [List.map_cons, List.map_nil, List.length_cons, List.length_nil, List.replicate, List.cons_append, List.nil_append, Nat.reduceAdd, Nat.reduceSub]; rfl))))
local macro_rules | `(tactic| walk_at "w2") => `(tactic| ((with_reducible refine wo_id ?_); with_reducible first
  | refine vo_sub ?_ | refine vo_add ?_ | refine vo_lt ?_ | refine vo_le ?_ | refine vo_gt ?_ | refine vo_ge ?_ | refine vo_eq ?_ | refine vo_ne ?_ | refine vo_eqS ?_ | refine vo_neS ?_ | refine vo_eqB ?_ | refine vo_neB ?_ | refine vo_neg ?_ | refine vo_slT ?_ | refine vo_slL ?_ | refine vo_slS ?_ | refine vo_lenT ?_ | refine vo_lenL ?_ | refine vo_lenS ?_ | refine vo_revT ?_ | refine vo_revL ?_ | refine vo_min ?_ | refine vo_max ?_ | refine vo_tupL ?_ | refine vo_tupT ?_ | refine vo_lisL ?_ | refine vo_lisT ?_
  | refine vo_igAdd ?_ | refine vo_igMulR (by omega) ?_ | refine vo_igMulL (by omega) ?_ | refine vo_mod (by omega) ?_ | refine vo_div (by omega) ?_ | refine vo_mulR (by omega) ?_ | refine vo_mulL (by omega) ?_
  | refine vo_ixL0 ?_ | refine vo_ixL1 ?_ | refine vo_ixL2 ?_ | refine vo_ixL3 ?_ | refine vo_ixL4 ?_ | refine vo_ixL5 ?_ | refine vo_ixL6 ?_ | refine vo_ixT0 ?_ | refine vo_ixT1 ?_ | refine vo_ixT2 ?_ | refine vo_ixT3 ?_ | refine vo_ixT4 ?_ | refine vo_ixT5 ?_ | refine vo_ixT6 ?_
  | refine vo_inT ?_ | refine vo_ninT ?_ | refine vo_inL ?_ | refine vo_ninL ?_ | refine vo_inI ?_ | refine vo_ninI ?_ | refine vo_sortI (by first | assumption | omega) ?_ | refine vo_sortL ?_ | refine vo_lenI ?_ | refine vo_lt3 ?_ | refine vo_isNN ?_ | refine vo_is3N ?_ | refine vo_isTN ?_ | refine vo_isIN ?_ | refine vo_igAddI ?_ | refine vo_ixI (by assumption) ?_
  | refine vo_vwD1 (by assumption) ?_ | refine vo_vwDc (by assumption) ?_
  | refine wo_vw1 (by assumption) ?_ | refine wo_vw2 (by assumption) ?_ | refine vo_vwc (by assumption) ?_
  | (refine vo_isi (c := ?c) ?h ?q; (case h => with_unfolding_all rfl)) | (refine vo_isis (c := ?c) ?h ?q; (case h => with_unfolding_all rfl))))
local macro_rules | `(tactic| walk_at "w3") => `(tactic| first
  | with_reducible refine ite_f ?_ | with_reducible refine ite_nt ?_ | with_reducible refine ite_nf ?_ | with_reducible refine ite_t ?_
  | ((with_reducible refine ex_id ?_); refine ⟨_, rfl, ?_⟩) | ((with_reducible refine and_id ?_); refine ⟨Nat.le_of_ble_eq_true rfl, ?_⟩))
local macro_rules | `(tactic| walk_at "w") => `(tactic| repeat (first | walk_at "w1" | walk_at "w2" | walk_at "w3"))
/-- a row with one nought more -/
def lift (xs : List Int) (o : Int) : List Int := sums (0 :: xs) (xs.map fun s => s * (-o % 31) % 31)
theorem wz_lift (x o : Int) (xs : List Int) : wz (lift xs o) x = wz xs x * (x - o) % 31 := by
  unfold lift
  rw [wz_sums, wz_cons, wz_times, Int.add_zero, ← Int.add_emod]
  rw [Int.add_emod, Int.mul_emod (wz xs x) (-o % 31), Int.emod_emod, ← Int.mul_emod, ← Int.add_emod, ← Int.mul_add, Int.sub_eq_add_neg]
theorem lift_len (xs : List Int) (o : Int) : (lift xs o).length = xs.length + 1 := by simp [lift, sums]
def instep (X : Int) (z : List Int × Int) (p : Int × Int) : List Int × Int := if p.1 = X then z else (lift z.1 p.1, z.2 * (X - p.1) % 31)
def infold (X : Int) (P : List (Int × Int)) (z : List Int × Int) : List Int × Int := P.foldl (instep X) z
def prodm (t X : Int) (P : List (Int × Int)) (w : Int) : Int := P.foldl (fun w p => if p.1 = X then w else w * (t - p.1) % 31) w
theorem in_worth (t X : Int) : ∀ (P : List (Int × Int)) (z : List Int × Int), wz (infold X P z).1 t = prodm t X P (wz z.1 t)
  | [], z => rfl
  | p :: P, z => by
    unfold infold prodm
    rw [List.foldl_cons, List.foldl_cons]
    have ih := in_worth t X P (instep X z p)
    unfold infold prodm at ih
    rw [ih]
    unfold instep
    by_cases h : p.1 = X
    · simp only [h, if_true]
    · simp only [h, if_false, wz_lift]
theorem in_below (X : Int) : ∀ (P : List (Int × Int)) (z : List Int × Int), (infold X P z).2 = prodm X X P z.2
  | [], z => rfl
  | p :: P, z => by
    unfold infold prodm
    rw [List.foldl_cons, List.foldl_cons]
    have ih := in_below X P (instep X z p)
    unfold infold prodm at ih
    rw [ih]
    unfold instep
    by_cases h : p.1 = X
    · simp only [h, if_true]
    · simp only [h, if_false]
theorem in_len (X : Int) : ∀ (P : List (Int × Int)) (z : List Int × Int), (infold X P z).1.length = z.1.length + P.countP (fun p => decide (p.1 ≠ X))
  | [], z => rfl
  | p :: P, z => by
    unfold infold
    rw [List.foldl_cons]
    have ih := in_len X P (instep X z p)
    unfold infold at ih
    rw [ih]
    unfold instep
    by_cases h : p.1 = X
    · simp [h]
    · simp [h, lift_len]; omega
theorem prod_zero (t X : Int) : ∀ P : List (Int × Int), prodm t X P 0 = 0
  | [] => rfl
  | p :: P => by
    unfold prodm
    rw [List.foldl_cons]
    have ih := prod_zero t X P
    unfold prodm at ih
    by_cases h : p.1 = X
    · simp only [h, if_true]; exact ih
    · simp only [h, if_false, Int.zero_mul, Int.zero_emod]; exact ih
theorem prod_hit (t X : Int) (hX : t ≠ X) : ∀ (P : List (Int × Int)) (w : Int), (∃ p ∈ P, p.1 = t) → prodm t X P w = 0
  | [], w, h => by simp at h
  | p :: P, w, h => by
    unfold prodm
    rw [List.foldl_cons]
    by_cases hp : p.1 = t
    · have : (if p.1 = X then w else w * (t - p.1) % 31) = 0 := by rw [if_neg (by omega), hp, Int.sub_self, Int.mul_zero, Int.zero_emod]
      rw [this]
      exact prod_zero t X P
    · refine prod_hit t X hX P _ ?_
      obtain ⟨q, h1, h2⟩ := h
      rcases List.mem_cons.mp h1 with rfl | h1
      · exact absurd h2 hp
      · exact ⟨q, h1, h2⟩
theorem prod_own (X : Int) (hX : 0 ≤ X ∧ X < 31) : ∀ (P : List (Int × Int)) (w : Int), (∀ p ∈ P, 0 ≤ p.1 ∧ p.1 < 31) → 0 < w ∧ w < 31 → 0 < prodm X X P w ∧ prodm X X P w < 31
  | [], w, _, h => h
  | p :: P, w, hP, h => by
    unfold prodm
    rw [List.foldl_cons]
    refine prod_own X hX P _ (fun q hq => hP q (by simp [hq])) ?_
    have hp := hP p (by simp)
    by_cases hh : p.1 = X
    · simp only [hh, if_true]; exact h
    · simp only [hh, if_false]
      exact no_divI h (by omega)
theorem turned_all : ∀ b : Fin 31, b.val ≠ 0 → ((LS.tab_TURNED[b.val]?.getD 0) * (b.val : Int)) % 31 = 1 ∧ 0 ≤ LS.tab_TURNED[b.val]?.getD 0 ∧ LS.tab_TURNED[b.val]?.getD 0 < 31 := by decide +kernel
/-- the outer step -/
def turn (b : Int) : Int := LS.tab_TURNED[b.toNat]?.getD 0
theorem turn_ok {b : Int} (h : 0 < b ∧ b < 31) : turn b * b % 31 = 1 ∧ 0 ≤ turn b ∧ turn b < 31 := by
  have := turned_all ⟨b.toNat, by omega⟩ (by simp; omega)
  simp only at this
  rw [Int.toNat_of_nonneg (by omega)] at this
  exact this
def outstep (P : List (Int × Int)) (f : List Int) (p : Int × Int) : List Int := sums f ((infold p.1 P ([1], 1)).1.map fun s => s * (p.2 * turn (infold p.1 P ([1], 1)).2 % 31) % 31)
def thr (P : List (Int × Int)) : List Int := P.foldl (outstep P) (List.replicate P.length 0)
/-- pairs of signs, unlike first ones -/
structure Prs (P : List (Int × Int)) : Prop where
  rng : ∀ p ∈ P, (0 ≤ p.1 ∧ p.1 < 31) ∧ 0 ≤ p.2 ∧ p.2 < 31
  un : P.Pairwise fun a b => a.1 ≠ b.1
theorem Prs.inj {P : List (Int × Int)} (h : Prs P) {p q : Int × Int} (hp : p ∈ P) (hq : q ∈ P) (e : p.1 = q.1) : p = q := by
  obtain ⟨i, hi, rfl⟩ := List.mem_iff_getElem.mp hp
  obtain ⟨j, hj, rfl⟩ := List.mem_iff_getElem.mp hq
  rcases Nat.lt_trichotomy i j with h1 | h1 | h1
  · exact absurd e (List.pairwise_iff_getElem.mp h.un i j hi hj h1)
  · subst h1; rfl
  · exact absurd e.symm (List.pairwise_iff_getElem.mp h.un j i hj hi h1)
theorem wz_one (t : Int) : wz [1] t = 1 := by rw [wz_cons, wz_nil, Int.zero_mul]; rfl
theorem step_worth {P : List (Int × Int)} (h : Prs P) {p q : Int × Int} (hp : p ∈ P) (hq : q ∈ P) (f : List Int) : wz (outstep P f p) q.1 = (wz f q.1 + if p = q then q.2 else 0) % 31 := by
  unfold outstep
  rw [wz_sums, wz_times, in_worth, wz_one, in_below]
  by_cases e : p = q
  · subst e
    rw [if_pos rfl]
    have h1 := prod_own p.1 (h.rng p hp).1 P 1 (fun r hr => (h.rng r hr).1) (by decide)
    have h2 := turn_ok h1
    generalize prodm p.1 p.1 P 1 = b at h1 h2
    have e1 : b * (p.2 * turn b % 31) % 31 = p.2 := by
      rw [Int.mul_emod, Int.emod_emod, ← Int.mul_emod, Int.mul_left_comm, Int.mul_comm b, Int.mul_emod, h2.1, Int.mul_one, Int.emod_emod]
      exact Int.emod_eq_of_lt (h.rng p hp).2.1 (h.rng p hp).2.2
    rw [e1]
  · rw [if_neg e]
    have ne : q.1 ≠ p.1 := fun z => e (h.inj hp hq z.symm)
    rw [prod_hit q.1 p.1 ne P 1 ⟨q, hq, rfl⟩, Int.zero_mul, Int.zero_emod]
theorem fold_worth {P : List (Int × Int)} (h : Prs P) {q : Int × Int} (hq : q ∈ P) : ∀ (ps : List (Int × Int)) (f : List Int), (∀ p ∈ ps, p ∈ P) → ps.Pairwise (fun a b => a.1 ≠ b.1) → wz (ps.foldl (outstep P) f) q.1 = (wz f q.1 + if q ∈ ps then q.2 else 0) % 31
  | [], f, _, _ => by simp [wz_mod31]
  | p :: ps, f, hs, hu => by
    rw [List.foldl_cons, fold_worth h hq ps _ (fun r hr => hs r (by simp [hr])) (List.pairwise_cons.mp hu).2, step_worth h (hs p (by simp)) hq]
    by_cases e : p = q
    · subst e
      have : p ∉ ps := fun z => (List.pairwise_cons.mp hu).1 p z rfl
      simp [this]
    · have e' : ¬ q = p := fun z => e z.symm
      simp only [e, if_false, Int.add_zero, List.mem_cons, e', false_or]
      rw [Int.add_emod, Int.emod_emod, ← Int.add_emod]
theorem wz_zeros (t : Int) : ∀ n : Nat, wz (List.replicate n 0) t = 0
  | 0 => rfl
  | n + 1 => by rw [List.replicate_succ, wz_cons, wz_zeros t n]; simp
theorem thr_worth {P : List (Int × Int)} (h : Prs P) {q : Int × Int} (hq : q ∈ P) : wz (thr P) q.1 = q.2 := by
  unfold thr
  rw [fold_worth h hq P _ (fun p hp => hp) h.un, wz_zeros, if_pos hq, Int.zero_add]
  exact Int.emod_eq_of_lt (h.rng q hq).2.1 (h.rng q hq).2.2
theorem step_len {P : List (Int × Int)} {p : Int × Int} (hp : p ∈ P) (f : List Int) (hf : f.length = P.length) : (outstep P f p).length = P.length := by
  unfold outstep
  have h1 := in_len p.1 P ([1], 1)
  have h2 : P.countP (fun q => decide (q.1 ≠ p.1)) < P.length := by
    rcases Nat.lt_or_ge (P.countP (fun q => decide (q.1 ≠ p.1))) P.length with z | z
    · exact z
    · have := List.countP_eq_length.mp (Nat.le_antisymm List.countP_le_length z) p hp
      simp at this
  have h3 : (([1], 1) : List Int × Int).1.length = 1 := rfl
  rw [h3] at h1
  simp only [sums, List.length_map, List.length_range, h1]
  omega
theorem thr_len {P : List (Int × Int)} : (thr P).length = P.length := by
  unfold thr
  suffices h : ∀ (ps : List (Int × Int)) (f : List Int), (∀ p ∈ ps, p ∈ P) → f.length = P.length → (ps.foldl (outstep P) f).length = P.length from h P _ (fun p hp => hp) (by simp)
  intro ps
  induction ps with
  | nil => intro f _ h; exact h
  | cons p ps ih => intro f hs h; rw [List.foldl_cons]; exact ih _ (fun r hr => hs r (by simp [hr])) (step_len (hs p (by simp)) f h)
theorem thr_row {P : List (Int × Int)} : Row (thr P) := by
  unfold thr
  suffices h : ∀ (ps : List (Int × Int)) (f : List Int), Row f → Row (ps.foldl (outstep P) f) from h P _ (Row.rep0 _)
  intro ps
  induction ps with
  | nil => intro f h; exact h
  | cons p ps ih => intro f _; rw [List.foldl_cons]; exact ih _ (row_sums _ _)
theorem wp_lifted {S : Sto} {xs : List Int} {o : Int} (ho : -1000 ≤ o ∧ o ≤ 1000) (hx : xs.length ≤ 10000) {Q : D → Sto → Prop} {E : Px} (q : Q (.tup ((lift xs o).map .int)) S) : Wp (LS.d_lifted [.tup (xs.map .int), .int o] S) Q E := by
  refine wp_fnP (by simp [noRefs, noRef, noRefs_int]) ?_
  unfold LS.b_lifted
  walk_at "w"
  refine vo_addT (by simp; omega) ?_
  walk_at "w"
  refine LS.wp_times (by omega) (by omega) ?_
  walk_at "w"
  rw [show [D.int 0] ++ xs.map D.int = ((0 : Int) :: xs).map D.int from rfl]
  refine LS.wp_added (by simp; omega) (by simp; omega) ?_
  walk_at "w"
  exact ⟨by simp only [noRef]; exact noRefs_int _, q⟩
theorem wp_turned {S : Sto} {b : Int} (h : 0 < b ∧ b < 31) {Q : D → Sto → Prop} {E : Px} (q : Q (.int (turn b)) S) : Wp (LS.d_turned_about [.int b] S) Q E := by
  refine wp_fnP rfl ?_
  unfold LS.b_turned_about
  walk_at "w"
  have hl : LS.tab_TURNED.length = 31 := rfl
  refine wo_ixT (d := .int (turn b)) ?_ ?_
  · rw [atI_in (by omega) (by rw [List.length_map, hl]; omega), List.getElem_map]
    unfold turn
    rw [List.getElem?_eq_getElem (by omega)]
    rfl
  · walk_at "w"
    exact ⟨rfl, q⟩
theorem noRefs_pts : ∀ P : List (Int × Int), noRefs (P.map ptD) = true
  | [] => rfl
  | p :: P => by simp [noRefs, noRef, ptD, noRefs_pts P]
theorem wp_through {S : Sto} {P : List (Int × Int)} (h : Prs P) (hn : P.length ≤ 1000) {Q : D → Sto → Prop} {E : Px} (q : Q (.tup ((thr P).map .int)) S) : Wp (LS.d_through [.lst (P.map ptD)] S) Q E := by
  refine wp_fnP (by simp [noRefs, noRef, noRefs_pts]) ?_
  unfold LS.b_through
  walk_at "w"
  rw [List.length_map]
  refine wo_mulT (by omega) (by simp; omega) ?_
  rw [rep_one, Int.toNat_natCast]
  walk_at "w"
  unfold LS.l_through_2
  refine ws_for [1, 2, 3, 4, 5, 6, 7] ?_
  walk_at "w"
  refine ⟨_, Or.inr rfl, ?_⟩
  refine ⟨fun j vs S' => S' = [] ∧ ∃ (d2 d3 d4 d5 d6 d7 : Option D), vs = [some (.tup (((P.take j).foldl (outstep P) (List.replicate P.length 0)).map .int)), d2, d3, d4, d5, d6, d7] ∧ ((P.take j).foldl (outstep P) (List.replicate P.length 0)).length = P.length, [some (.tup ((List.replicate P.length 0).map .int)), none, none, none, none, none, none], rfl, rfl, ⟨rfl, none, none, none, none, none, none, by simp, by simp⟩, ?_, ?_⟩
  · rintro j d vs S' hj hv ⟨rfl, d2, d3, d4, d5, d6, d7, rfl, hfl⟩
    rw [List.getElem?_map] at hj
    obtain ⟨p, hp, rfl⟩ := Option.map_eq_some_iff.mp hj
    have ht := foldl_take (f := outstep P) (a := List.replicate P.length 0) hp
    have hpm := List.mem_of_getElem? hp
    generalize (P.take j).foldl (outstep P) (List.replicate P.length 0) = fs at *
    have hpr := h.rng p hpm
    refine ⟨_, rfl, ?_⟩
    dsimp only [putAll, List.set_cons_zero, List.set_cons_succ]
    unfold LS.lb_through_2
    walk_at "w"
    unfold LS.l_through_1
    refine ws_for [4, 5, 6, 7] ?_
    walk_at "w"
    refine ⟨_, Or.inr rfl, ?_⟩
    refine ⟨fun i vs S' => S' = [] ∧ ∃ (e6 e7 : Option D), vs = [some (.tup ((infold p.1 (P.take i) ([1], 1)).1.map .int)), some (.int (infold p.1 (P.take i) ([1], 1)).2), e6, e7] ∧ (infold p.1 (P.take i) ([1], 1)).1.length ≤ i + 1, [some (.tup [.int 1]), some (.int 1), d6, d7], rfl, rfl, ⟨rfl, d6, d7, rfl, by simp [infold]⟩, ?_, ?_⟩
    · rintro i d vs S' hi hv ⟨rfl, e6, e7, rfl, hbl⟩
      have hi' := (List.getElem?_eq_some_iff.mp hi).1
      rw [List.length_map] at hi'
      rw [List.getElem?_map] at hi
      obtain ⟨o, ho, rfl⟩ := Option.map_eq_some_iff.mp hi
      have hom := List.mem_of_getElem? ho
      have hor := h.rng o hom
      have hstep : infold p.1 (P.take (i + 1)) ([1], 1) = instep p.1 (infold p.1 (P.take i) ([1], 1)) o := foldl_take (f := instep p.1) ho
      generalize infold p.1 (P.take i) ([1], 1) = z at *
      refine ⟨_, rfl, ?_⟩
      dsimp only [putAll, List.set_cons_zero, List.set_cons_succ]
      unfold LS.lb_through_1 LS.i_through_1
      walk_at "w"
      refine ite_nd (fun hne => ?_) (fun he => ?_)
      · walk_at "w"
        refine wp_lifted (by omega) (by omega) ?_
        walk_at "w"
        have e2 : instep p.1 z o = (lift z.1 o.1, z.2 * (p.1 - o.1) % 31) := by unfold instep; rw [if_neg hne]
        rw [e2] at hstep
        refine ⟨[_, _, _, _], rfl, rfl, rfl, some (.int o.1), some (.int o.2), ?_, ?_⟩
        · rw [hstep]
        · rw [hstep]
          simp only [lift_len]
          omega
      · walk_at "w"
        have he' : o.1 = p.1 := he
        have e2 : instep p.1 z o = z := by unfold instep; rw [if_pos he']
        rw [e2] at hstep
        refine ⟨[_, _, _, _], rfl, rfl, rfl, some (.int o.1), some (.int o.2), ?_, ?_⟩
        · rw [hstep]
        · rw [hstep]; omega
    · rintro vs S' hv ⟨rfl, e6, e7, rfl, hbl⟩
      rw [List.length_map, List.take_length] at *
      have hb := prod_own p.1 hpr.1 P 1 (fun r hr => (h.rng r hr).1) (by decide)
      rw [← in_below p.1 P ([1], 1)] at hb
      have ht2 := turn_ok hb
      have hos : outstep P fs p = sums fs ((infold p.1 P ([1], 1)).1.map fun s => s * (p.2 * turn (infold p.1 P ([1], 1)).2 % 31) % 31) := rfl
      generalize infold p.1 P ([1], 1) = z at *
      walk_at "w"
      refine wp_turned hb ?_
      walk_at "w"
      refine LS.wp_times (by omega) (by omega) ?_
      walk_at "w"
      refine LS.wp_added (by omega) (by rw [List.length_map]; omega) ?_
      walk_at "w"
      rw [← hos]
      refine ⟨[_, _, _, _, _, _, _], rfl, rfl, rfl, some (.int p.1), some (.int p.2), some (.tup (z.1.map .int)), some (.int z.2), e6, e7, ?_, ?_⟩
      · rw [ht]
      · rw [ht]
        exact step_len hpm fs hfl
  · rintro vs S' hv ⟨rfl, d2, d3, d4, d5, d6, d7, rfl, hfl⟩
    rw [List.length_map, List.take_length] at *
    walk_at "w"
    exact ⟨by simp only [noRef]; exact noRefs_int _, q⟩
end LK
set_option Elab.async false
set_option linter.all false
set_option maxRecDepth 100000
set_option maxHeartbeats 4000000
namespace LK
open DL LE LH LG
local macro_rules | `(tactic| walk_at "w1") => `(tactic| with_reducible first
  | (refine ws_then ?_; try with_reducible dsimp only [List.set_cons_zero, List.set_cons_succ]) | refine ws_seq ?_ | refine ws_asg ?_ | refine ws_expr ?_ | refine ws_ret ?_ | refine ws_if ?_ | refine ws_asgT ?_ | refine ws_skip ?_ | refine ws_retN ?_ | refine ws_brk ?_ | refine ws_cont ?_ | refine ws_thenR ?_ | refine ws_thenB ?_ | refine ws_thenC ?_ | refine fq_rt ?_ | refine fq_nx ?_ | refine un_nx ?_ | refine un_ct ?_ | refine un_bk ?_ | refine un_rt ?_ | refine ws_loopN ?_
  | (refine ws_loopC (ρ1 := ?r) ?h ?q; (case h => with_unfolding_all rfl); try with_reducible dsimp only [List.set_cons_zero, List.set_cons_succ])
  | refine wp_c ?_ | refine wp_op2 ?_ | refine wp_fn ?_ | refine wp_cons ?_ | refine wp_nil ?_ | refine wp_call ?_ | refine wp_op1 ?_
  | (refine wp_var (d := ?d) ?h ?q; (case h => with_unfolding_all rfl))
  | (refine ws_aug (d := ?d) ?h ?q; (case h => with_unfolding_all rfl))
  | refine wp_tup ?_ | refine wp_lst ?_ | refine wp_lstM ?_ | refine wp_listM ?_
  | refine wp_sl0 ?_ | refine wp_sl1 ?_ | refine wp_sl2 ?_ | refine wp_sl3 ?_
  | refine wp_tval ?_ | refine wp_tnot ?_ | refine wp_tand ?_ | refine wp_tor ?_ | refine wp_tyes ?_ | refine wp_and ?_ | refine wp_or ?_ | refine wp_not ?_ | refine wp_ifx ?_ | refine wp_chain ?_ | refine wp_meth ?_ | refine wp_meth0 ?_
  | refine wp_isi ?_ | refine wp_isis ?_ | refine wp_repr ?_ | refine wp_maxD ?_ | refine wi_rng3 ?_
  | refine ws_par ?_ | refine wp_dnew ?_ | refine wp_get2 ?_ | refine wp_reprQ ?_ | refine wp_fnK ?_ | refine wi_valsI ?_ | refine wi_itemsI ?_ | refine ws_augI ?_
  | refine wi_seq ?_ | refine wi_rng1 ?_ | refine wi_rng2 ?_ | refine wi_zip2 ?_ | refine wi_zipS ?_
  | (refine wp_fnB (ρ := ?ρ) ?he ?_; (case he => (simp only [List.map_cons, List.map_nil, List.length_cons, List.length_nil, List.replicate, List.cons_append, List.nil_append, Nat.reduceAdd, Nat.reduceSub]; rfl))))
local macro_rules | `(tactic| walk_at "w2") => `(tactic| ((with_reducible refine wo_id ?_); with_reducible first
  | refine vo_sub ?_ | refine vo_add ?_ | refine vo_lt ?_ | refine vo_le ?_ | refine vo_gt ?_ | refine vo_ge ?_ | refine vo_eq ?_ | refine vo_ne ?_ | refine vo_eqS ?_ | refine vo_neS ?_ | refine vo_eqB ?_ | refine vo_neB ?_ | refine vo_neg ?_ | refine vo_slT ?_ | refine vo_slL ?_ | refine vo_slS ?_ | refine vo_lenT ?_ | refine vo_lenL ?_ | refine vo_lenS ?_ | refine vo_revT ?_ | refine vo_revL ?_ | refine vo_min ?_ | refine vo_max ?_ | refine vo_tupL ?_ | refine vo_tupT ?_ | refine vo_lisL ?_ | refine vo_lisT ?_
  | refine vo_igAdd ?_ | refine vo_igMulR (by omega) ?_ | refine vo_igMulL (by omega) ?_ | refine vo_mod (by omega) ?_ | refine vo_div (by omega) ?_ | refine vo_mulR (by omega) ?_ | refine vo_mulL (by omega) ?_
  | refine vo_ixL0 ?_ | refine vo_ixL1 ?_ | refine vo_ixL2 ?_ | refine vo_ixL3 ?_ | refine vo_ixL4 ?_ | refine vo_ixL5 ?_ | refine vo_ixL6 ?_ | refine vo_ixT0 ?_ | refine vo_ixT1 ?_ | refine vo_ixT2 ?_ | refine vo_ixT3 ?_ | refine vo_ixT4 ?_ | refine vo_ixT5 ?_ | refine vo_ixT6 ?_
  | refine vo_inT ?_ | refine vo_ninT ?_ | refine vo_inL ?_ | refine vo_ninL ?_ | refine vo_inI ?_ | refine vo_ninI ?_ | refine vo_sortI (by first | assumption | omega) ?_ | refine vo_sortL ?_ | refine vo_lenI ?_ | refine vo_lt3 ?_ | refine vo_isNN ?_ | refine vo_is3N ?_ | refine vo_isTN ?_ | refine vo_isIN ?_ | refine vo_igAddI ?_ | refine vo_ixI (by assumption) ?_
  | refine vo_vwD1 (by assumption) ?_ | refine vo_vwDc (by assumption) ?_
  | refine wo_vw1 (by assumption) ?_ | refine wo_vw2 (by assumption) ?_ | refine vo_vwc (by assumption) ?_
  | (refine vo_isi (c := ?c) ?h ?q; (case h => with_unfolding_all rfl)) | (refine vo_isis (c := ?c) ?h ?q; (case h => with_unfolding_all rfl))))
local macro_rules | `(tactic| walk_at "w3") => `(tactic| first
  | with_reducible refine ite_f ?_ | with_reducible refine ite_nt ?_ | with_reducible refine ite_nf ?_ | with_reducible refine ite_t ?_
  | ((with_reducible refine ex_id ?_); refine ⟨_, rfl, ?_⟩) | ((with_reducible refine and_id ?_); refine ⟨Nat.le_of_ble_eq_true rfl, ?_⟩))
local macro_rules | `(tactic| walk_at "w") => `(tactic| repeat (first | walk_at "w1" | walk_at "w2" | walk_at "w3"))
structure Pts (pts : List Int) : Prop where
  rng : ∀ x ∈ pts, 0 ≤ x ∧ x < 31
  nd : pts.Nodup
theorem Pts.prs {pts : List Int} (h : Pts pts) {f : Int → Int} (hf : ∀ x ∈ pts, 0 ≤ f x ∧ f x < 31) : Prs (pts.map fun x => (x, f x)) := by
  refine ⟨fun p hp => ?_, ?_⟩
  · obtain ⟨x, hx, rfl⟩ := List.mem_map.mp hp
    exact ⟨h.rng x hx, hf x hx⟩
  · rw [List.pairwise_map]
    exact h.nd
theorem Prs.uniq {P : List (Int × Int)} (h : Prs P) {xs : List Int} (hx : Row xs) (hl : xs.length = P.length) (hw : ∀ p ∈ P, wz xs p.1 = p.2) : thr P = xs := by
  refine DL.uniq thr_row hx (thr_len.trans hl.symm) (R := P.map (·.1)) ?_ ?_ ?_ ?_
  · rw [List.nodup_iff_pairwise_ne, List.pairwise_map]
    exact h.un
  · intro x hx
    obtain ⟨p, hp, rfl⟩ := List.mem_map.mp hx
    exact (h.rng p hp).1
  · intro x hx
    obtain ⟨p, hp, rfl⟩ := List.mem_map.mp hx
    rw [thr_worth h hp, hw p hp]
  · rw [thr_len, List.length_map]; exact Nat.le_refl _
def one1 (x p : Int) : Int := if x = p then 1 else 0
def bas (pts : List Int) : List (List Int) := pts.map fun p => thr (pts.map fun x => (x, one1 x p))
theorem one1_rng (x p : Int) : 0 ≤ one1 x p ∧ one1 x p < 31 := by unfold one1; split <;> omega
theorem wp_bases {S : Sto} {pts : List Int} (h : Pts pts) (hl : pts.length ≤ 100) {Q : D → Sto → Prop} {E : Px} (q : Q (.lst ((bas pts).map rowD)) S) : Wp (d_bases [.lst (pts.map .int)] S) Q E := by
  refine wp_fnP (by simp [noRefs, noRef, noRefs_int]) ?_
  unfold b_bases
  walk_at "w"
  unfold c_bases_2
  refine wp_compM1 pts D.int (fun p => rowD (thr (pts.map fun x => (x, one1 x p)))) (by omega) ?_
  walk_at "w"
  refine ⟨_, Or.inr rfl, rfl, fun p hp => ⟨_, rfl, ?_⟩, ?_⟩
  · unfold ce_bases_2
    walk_at "w"
    unfold c_bases_1
    refine wp_compM1 pts D.int (fun x => ptD (x, one1 x p)) (by omega) ?_
    walk_at "w"
    refine ⟨_, Or.inr rfl, rfl, fun x hx => ⟨_, rfl, ?_⟩, ?_⟩
    · unfold ce_bases_1
      walk_at "w"
      refine .of (d := .int (one1 x p)) ?_ ?_
      · show intD [.bl (decide (x = p))] = _
        unfold one1
        by_cases e : x = p
        · simp [intD, e]
        · simp [intD, e]
      walk_at "w"
      exact ⟨rfl, rfl⟩
    walk_at "w"
    rw [show (pts.map fun x => ptD (x, one1 x p)) = (pts.map fun x => (x, one1 x p)).map ptD by rw [List.map_map]; rfl]
    refine wp_through (h.prs fun x _ => one1_rng x p) (by rw [List.length_map]; omega) ?_
    exact ⟨rfl, rfl⟩
  unfold bas at q
  rw [List.map_map] at q
  refine ⟨?_, q⟩
  have : ∀ ps : List Int, noRefs (ps.map fun p => rowD (thr (pts.map fun x => (x, one1 x p)))) = true := by
    intro ps
    induction ps with
    | nil => rfl
    | cons p ps ih => rw [List.map_cons, noRefs, ih]; simp [rowD, noRef, noRefs_int]
  simp only [noRef]
  exact this pts
theorem zipDs_ir (ss : List Int) (bs : List (List Int)) : zipDs (ss.map .int) (bs.map rowD) = (ss.zip bs).map fun p => .tup [.int p.1, rowD p.2] := by
  unfold zipDs
  rw [List.zip_map, List.map_map]
  rfl
def colb (bs : List (List Int)) (ss : List Int) : List Int := (List.range bs.length).map fun i => ((ss.zip bs).map fun p => p.1 * p.2[i]?.getD 0).sum % 31
theorem colb_ans (bs : List (List Int)) (ss : List Int) (hb : ∀ b ∈ bs, b.length = bs.length) (hl : ss.length = bs.length) : colb bs ss = ans0 (bs.zip ss) := by
  rw [ans0_cols]
  have hlg : lng 0 (bs.zip ss) = bs.length := by
    cases bs with
    | nil => rfl
    | cons b bs =>
      cases ss with
      | nil => simp at hl
      | cons s ss =>
        apply Nat.le_antisymm
        · exact lng_le _ 0 (Nat.zero_le _) fun p hp => Nat.le_of_eq (hb p.1 (List.of_mem_zip hp).1)
        · have h0 : b.length = (b :: bs).length := hb b (by simp)
          rw [List.zip_cons_cons]
          show _ ≤ lng (max 0 b.length) (bs.zip ss)
          rw [h0]
          have : ∀ (ps : List (List Int × Int)) (n : Nat), n ≤ lng n ps := by
            intro ps
            induction ps with
            | nil => intro n; exact Nat.le_refl _
            | cons p ps ih => intro n; exact Nat.le_trans (Nat.le_max_left _ _) (ih _)
          exact Nat.le_trans (Nat.le_max_right _ _) (this _ _)
  rw [hlg]
  unfold colb
  apply List.map_congr_left
  intro i _
  congr 1
  have : ∀ (ss : List Int) (bs : List (List Int)), ((ss.zip bs).map fun p => p.1 * p.2[i]?.getD 0) = (bs.zip ss).map fun p => p.1[i]?.getD 0 * p.2 := by
    intro ss
    induction ss with
    | nil => intro bs; simp
    | cons s ss ih =>
      intro bs
      cases bs with
      | nil => simp
      | cons b bs => rw [List.zip_cons_cons, List.zip_cons_cons, List.map_cons, List.map_cons, ih, Int.mul_comm]
  rw [this]
theorem bas_len (pts : List Int) : (bas pts).length = pts.length := by simp [bas]
theorem bas_each {pts b : List Int} (h : b ∈ bas pts) : b.length = (bas pts).length := by
  obtain ⟨p, _, rfl⟩ := List.mem_map.mp h
  rw [thr_len, List.length_map, bas_len]
theorem sum_one (x : Int) (g : Int → Int) : ∀ pts : List Int, x ∉ pts → (pts.map fun y => one1 x y * g y).sum = 0
  | [], _ => rfl
  | p :: ps, h => by
    have h' : x ≠ p ∧ x ∉ ps := by simpa using h
    rw [List.map_cons, List.sum_cons, sum_one x g ps h'.2]
    unfold one1
    rw [if_neg h'.1]
    simp
theorem sum_hit (x : Int) (g : Int → Int) : ∀ pts : List Int, pts.Nodup → x ∈ pts → (pts.map fun y => one1 x y * g y).sum = g x
  | [], _, h => by simp at h
  | p :: ps, hd, h => by
    have hd' := List.nodup_cons.mp hd
    rw [List.map_cons, List.sum_cons]
    rcases List.mem_cons.mp h with rfl | h
    · rw [sum_one x g ps hd'.1]
      simp [one1]
    · have : x ≠ p := fun e => hd'.1 (e ▸ h)
      rw [sum_hit x g ps hd'.2 h]
      simp [one1, this]
/-- the column of some points, told by a function of the points -/
theorem colb_thr {pts : List Int} (h : Pts pts) {g : Int → Int} (hg : ∀ x ∈ pts, 0 ≤ g x ∧ g x < 31) : colb (bas pts) (pts.map g) = thr (pts.map fun x => (x, g x)) := by
  have e := colb_ans (bas pts) (pts.map g) (fun b hb => bas_each hb) (by rw [bas_len, List.length_map])
  have hr : Row (colb (bas pts) (pts.map g)) := by
    rw [e]
    exact ans0_row _ [] (fun x hx => by simp at hx)
  refine (Prs.uniq (h.prs hg) hr ?_ ?_).symm
  · rw [List.length_map, colb, List.length_map, List.length_range, bas_len]
  · intro p hp
    obtain ⟨x, hx, rfl⟩ := List.mem_map.mp hp
    rw [e]
    have h2 := ans0_wz x ((bas pts).zip (pts.map g)) []
    change wz (ans0 _) x = _ at h2
    rw [h2, wz_nil, Int.zero_add]
    have h3 : ((bas pts).zip (pts.map g)) = pts.map fun y => (thr (pts.map fun x => (x, one1 x y)), g y) := by
      unfold bas
      rw [List.zip_map']
    rw [h3, List.map_map]
    have h4 : (pts.map ((fun p : List Int × Int => wz p.1 x * p.2) ∘ fun y => (thr (pts.map fun x => (x, one1 x y)), g y))) = pts.map fun y => one1 x y * g y := by
      apply List.map_congr_left
      intro y hy
      show wz (thr (pts.map fun x => (x, one1 x y))) x * g y = _
      rw [thr_worth (h.prs (f := fun x => one1 x y) fun x _ => one1_rng x y) (q := (x, one1 x y)) (List.mem_map.mpr ⟨x, hx, rfl⟩)]
    rw [h4, sum_hit x g pts h.nd hx]
    have := hg x hx
    show g x % 31 = g x
    omega
end LK
set_option Elab.async false
set_option linter.all false
set_option maxRecDepth 100000
set_option maxHeartbeats 4000000
namespace DL
open PySem
section
variable {E : Px} {ρ : Ev} {S : Sto} {t : Tg} {k e : Ex} {vs : List Nat} {it : Ix}
/-- a dict comprehension: by ints, things -/
theorem wp_compDA {α β : Type} (f : α → D) (gk : α → Int) (fv : β → D) (gv : α → β) (S1 : Sto) : ∀ (l : List α) (acc : List (Int × β)) (Q : List (D × D) → Sto → Prop), acc.length + l.length ≤ 16777216 →
    (∀ x ∈ l, ∃ ρ1, t.put (f x) (wipeD ρ vs) = some ρ1 ∧ Wp (k ρ1 S1) (fun y S2 => y = .int (gk x) ∧ S2 = S1) noX ∧ Wp (e ρ1 S1) (fun y S2 => y = fv (gv x) ∧ S2 = S1) noX) →
    Q (kA fv (l.foldl (fun a x => putA a (gk x) (gv x)) acc)) S1 → Wp (compD t tYesX k e vs (l.map f) ρ S1 (kA fv acc)) Q E
  | [], acc, Q, _, _, q => ⟨q⟩
  | x :: l, acc, Q, hl, st, q => by
    obtain ⟨ρ1, e1, h1, h2⟩ := st x (by simp)
    rw [List.map_cons]
    unfold compD
    rw [e1]
    dsimp only
    simp only [List.length_cons] at hl
    refine wp_bind (wp_nox (wp_tyes ?_))
    rw [if_pos rfl]
    refine wp_bind (wp_nox (h1.mono fun y S2 ⟨h, hS⟩ => ?_))
    subst h hS
    refine wp_bind (wp_nox (h2.mono fun y S3 ⟨h, hS⟩ => ?_))
    subst h hS
    show Wp (if (kA fv acc).length < sizeLine then _ else _) Q E
    rw [if_pos (by rw [kA_len, sizeLine_eq]; omega)]
    show Wp (compD t tYesX k e vs (l.map f) ρ _ (putD (kA fv acc) (.inl (gk x)) (fv (gv x)))) Q E
    rw [putD_A]
    have := putA_len acc (gk x) (gv x)
    exact wp_compDA f gk fv gv _ l _ Q (by omega) (fun y hy => st y (by simp [hy])) q
theorem wp_dcMA {α β : Type} {Q : D → Sto → Prop} (l : List α) (f : α → D) (gk : α → Int) (fv : β → D) (gv : α → β) (hl : l.length ≤ 16777216) (h : Wp (it ρ S) (fun xs S1 => xs = l.map f ∧
    (∀ x ∈ l, ∃ ρ1, t.put (f x) (wipeD ρ vs) = some ρ1 ∧ Wp (k ρ1 S1) (fun y S2 => y = .int (gk x) ∧ S2 = S1) noX ∧ Wp (e ρ1 S1) (fun y S2 => y = fv (gv x) ∧ S2 = S1) noX) ∧
    Q (.ref S1.length) (S1 ++ [some (.dic false (kA fv (l.foldl (fun a x => putA a (gk x) (gv x)) [])))])) E) : Wp (eDcM it t tYesX k e vs ρ S) Q E :=
  wp_bind (h.mono fun xs S1 ⟨h1, st, q⟩ => by
    subst h1
    exact wp_bind (wp_compDA f gk fv gv S1 l [] _ (by simpa using hl) st ⟨q⟩))
theorem getA_mapne {α : Type} {j i : Int} {v : α} (h : i ≠ j) : ∀ l : List (Int × α), getA (l.map fun p => if p.1 = j then (p.1, v) else p) i = getA l i
  | [] => rfl
  | p :: l => by
    rw [List.map_cons]
    have ih := getA_mapne (v := v) h l
    by_cases e : p.1 = j
    · have : ¬ p.1 = i := fun z => h (z.symm.trans e)
      rw [if_pos e]
      simp only [getA, this, if_false]
      exact ih
    · rw [if_neg e]
      simp only [getA]
      rw [ih]
theorem getA_app {α : Type} {j i : Int} {v : α} (h : i ≠ j) : ∀ l : List (Int × α), getA (l ++ [(j, v)]) i = getA l i
  | [] => by simp only [List.nil_append, getA, Ne.symm h, if_false]
  | p :: l => by
    rw [List.cons_append]
    simp only [getA]
    rw [getA_app h l]
theorem getA_put_ne {α : Type} {l : List (Int × α)} {j i : Int} {v : α} (h : i ≠ j) : getA (putA l j v) i = getA l i := by
  unfold putA
  split
  · exact getA_mapne h l
  · exact getA_app h l
theorem getA_mapself {α : Type} {j : Int} {v : α} : ∀ l : List (Int × α), j ∈ l.map (·.1) → getA (l.map fun p => if p.1 = j then (p.1, v) else p) j = some v
  | [], h => by simp at h
  | p :: l, h => by
    rw [List.map_cons]
    by_cases e : p.1 = j
    · rw [if_pos e]
      simp only [getA, e, if_true]
    · rw [if_neg e]
      simp only [getA, e, if_false]
      refine getA_mapself l ?_
      rw [List.map_cons] at h
      rcases List.mem_cons.mp h with h | h
      · exact absurd h.symm e
      · exact h
theorem getA_appself {α : Type} {j : Int} {v : α} : ∀ l : List (Int × α), j ∉ l.map (·.1) → getA (l ++ [(j, v)]) j = some v
  | [], _ => by simp [getA]
  | p :: l, h => by
    simp only [List.map_cons, List.mem_cons, not_or] at h
    rw [List.cons_append]
    simp only [getA, Ne.symm h.1, if_false]
    exact getA_appself l h.2
theorem getA_put_self {α : Type} {l : List (Int × α)} {j : Int} {v : α} : getA (putA l j v) j = some v := by
  by_cases h : j ∈ l.map (·.1)
  · unfold putA
    have : (l.any fun p => decide (p.1 = j)) = true := by
      obtain ⟨p, hp, e⟩ := List.mem_map.mp h
      exact List.any_eq_true.mpr ⟨p, hp, decide_eq_true e⟩
    rw [if_pos this]
    exact getA_mapself l h
  · rw [putA_new h]
    exact getA_appself l h
/-- a table made from its keys -/
theorem getA_made {α : Type} (g : Int → α) (j : Int) : ∀ (l : List Int) (acc : List (Int × α)), (j ∈ l ∨ getA acc j = some (g j)) → getA (l.foldl (fun a x => putA a x (g x)) acc) j = some (g j)
  | [], acc, h => by
    rcases h with h | h
    · simp at h
    · exact h
  | x :: l, acc, h => by
    rw [List.foldl_cons]
    refine getA_made g j l _ ?_
    by_cases e : j = x
    · subst e; exact .inr getA_put_self
    · rcases h with h | h
      · rcases List.mem_cons.mp h with h | h
        · exact absurd h e
        · exact .inl h
      · right; rw [getA_put_ne e]; exact h
end
end DL
namespace LK
open DL LE LH LG
local macro_rules | `(tactic| walk_at "w1") => `(tactic| with_reducible first
  | (refine ws_then ?_; try with_reducible dsimp only [List.set_cons_zero, List.set_cons_succ]) | refine ws_seq ?_ | refine ws_asg ?_ | refine ws_expr ?_ | refine ws_ret ?_ | refine ws_if ?_ | refine ws_asgT ?_ | refine ws_skip ?_ | refine ws_retN ?_ | refine ws_brk ?_ | refine ws_cont ?_ | refine ws_thenR ?_ | refine ws_thenB ?_ | refine ws_thenC ?_ | refine fq_rt ?_ | refine fq_nx ?_ | refine un_nx ?_ | refine un_ct ?_ | refine un_bk ?_ | refine un_rt ?_ | refine ws_loopN ?_
  | (refine ws_loopC (ρ1 := ?r) ?h ?q; (case h => with_unfolding_all rfl); try with_reducible dsimp only [List.set_cons_zero, List.set_cons_succ])
  | refine wp_c ?_ | refine wp_op2 ?_ | refine wp_fn ?_ | refine wp_cons ?_ | refine wp_nil ?_ | refine wp_call ?_ | refine wp_op1 ?_
  | (refine wp_var (d := ?d) ?h ?q; (case h => with_unfolding_all rfl))
  | (refine ws_aug (d := ?d) ?h ?q; (case h => with_unfolding_all rfl))
  | refine wp_tup ?_ | refine wp_lst ?_ | refine wp_lstM ?_ | refine wp_listM ?_
  | refine wp_sl0 ?_ | refine wp_sl1 ?_ | refine wp_sl2 ?_ | refine wp_sl3 ?_
  | refine wp_tval ?_ | refine wp_tnot ?_ | refine wp_tand ?_ | refine wp_tor ?_ | refine wp_tyes ?_ | refine wp_and ?_ | refine wp_or ?_ | refine wp_not ?_ | refine wp_ifx ?_ | refine wp_chain ?_ | refine wp_meth ?_ | refine wp_meth0 ?_
  | refine wp_isi ?_ | refine wp_isis ?_ | refine wp_repr ?_ | refine wp_maxD ?_ | refine wi_rng3 ?_
  | refine ws_par ?_ | refine wp_dnew ?_ | refine wp_get2 ?_ | refine wp_reprQ ?_ | refine wp_fnK ?_ | refine wi_valsI ?_ | refine wi_itemsI ?_ | refine ws_augI ?_
  | refine wi_seq ?_ | refine wi_rng1 ?_ | refine wi_rng2 ?_ | refine wi_zip2 ?_ | refine wi_zipS ?_
  | (refine wp_fnB (ρ := ?ρ) ?he ?_; (case he => (simp only [List.map_cons, List.map_nil, List.length_cons, List.length_nil, List.replicate, List.cons_append, List.nil_append, Nat.reduceAdd, Nat.reduceSub]; rfl))))
local macro_rules | `(tactic| walk_at "w2") => `(tactic| ((with_reducible refine wo_id ?_); with_reducible first
  | refine vo_sub ?_ | refine vo_add ?_ | refine vo_lt ?_ | refine vo_le ?_ | refine vo_gt ?_ | refine vo_ge ?_ | refine vo_eq ?_ | refine vo_ne ?_ | refine vo_eqS ?_ | refine vo_neS ?_ | refine vo_eqB ?_ | refine vo_neB ?_ | refine vo_neg ?_ | refine vo_slT ?_ | refine vo_slL ?_ | refine vo_slS ?_ | refine vo_lenT ?_ | refine vo_lenL ?_ | refine vo_lenS ?_ | refine vo_revT ?_ | refine vo_revL ?_ | refine vo_min ?_ | refine vo_max ?_ | refine vo_tupL ?_ | refine vo_tupT ?_ | refine vo_lisL ?_ | refine vo_lisT ?_
  | refine vo_igAdd ?_ | refine vo_igMulR (by omega) ?_ | refine vo_igMulL (by omega) ?_ | refine vo_mod (by omega) ?_ | refine vo_div (by omega) ?_ | refine vo_mulR (by omega) ?_ | refine vo_mulL (by omega) ?_
  | refine vo_ixL0 ?_ | refine vo_ixL1 ?_ | refine vo_ixL2 ?_ | refine vo_ixL3 ?_ | refine vo_ixL4 ?_ | refine vo_ixL5 ?_ | refine vo_ixL6 ?_ | refine vo_ixT0 ?_ | refine vo_ixT1 ?_ | refine vo_ixT2 ?_ | refine vo_ixT3 ?_ | refine vo_ixT4 ?_ | refine vo_ixT5 ?_ | refine vo_ixT6 ?_
  | refine vo_inT ?_ | refine vo_ninT ?_ | refine vo_inL ?_ | refine vo_ninL ?_ | refine vo_inI ?_ | refine vo_ninI ?_ | refine vo_sortI (by first | assumption | omega) ?_ | refine vo_sortL ?_ | refine vo_lenI ?_ | refine vo_lt3 ?_ | refine vo_isNN ?_ | refine vo_is3N ?_ | refine vo_isTN ?_ | refine vo_isIN ?_ | refine vo_igAddI ?_ | refine vo_ixI (by assumption) ?_
  | refine vo_vwD1 (by assumption) ?_ | refine vo_vwDc (by assumption) ?_
  | refine wo_vw1 (by assumption) ?_ | refine wo_vw2 (by assumption) ?_ | refine vo_vwc (by assumption) ?_
  | (refine vo_isi (c := ?c) ?h ?q; (case h => with_unfolding_all rfl)) | (refine vo_isis (c := ?c) ?h ?q; (case h => with_unfolding_all rfl))))
local macro_rules | `(tactic| walk_at "w3") => `(tactic| first
  | with_reducible refine ite_f ?_ | with_reducible refine ite_nt ?_ | with_reducible refine ite_nf ?_ | with_reducible refine ite_t ?_
  | ((with_reducible refine ex_id ?_); refine ⟨_, rfl, ?_⟩) | ((with_reducible refine and_id ?_); refine ⟨Nat.le_of_ble_eq_true rfl, ?_⟩))
local macro_rules | `(tactic| walk_at "w") => `(tactic| repeat (first | walk_at "w1" | walk_at "w2" | walk_at "w3"))
theorem wp_column_by {S : Sto} {bs : List (List Int)} {ss : List Int} (hb : ∀ b ∈ bs, b.length = bs.length ∧ Row b) (hl : ss.length = bs.length) (hs : Row ss) (hl2 : bs.length ≤ 100) {Q : D → Sto → Prop} {E : Px} (q : Q (.tup ((colb bs ss).map .int)) S) : Wp (d_column_by [.lst (bs.map rowD), .lst (ss.map .int)] S) Q E := by
  have hnr : noRefs (bs.map rowD) = true := by
    clear hb hl hl2 q
    induction bs with
    | nil => rfl
    | cons b bs ih => rw [List.map_cons, noRefs, ih]; simp [rowD, noRef, noRefs_int]
  refine wp_fnP (by simp [noRefs, noRef, noRefs_int, hnr]) ?_
  unfold b_column_by
  walk_at "w"
  refine wp_zipL ?_
  walk_at "w"
  refine ⟨_, _, Or.inl rfl, Or.inl rfl, by rw [List.length_map, List.length_map, hl], by rw [List.length_map]; omega, ?_⟩
  rw [zipDs_ir]
  walk_at "w"
  unfold c_column_by_2
  refine wp_compM1 (List.range bs.length) (fun (i : Nat) => .int i) (fun i => .int (((ss.zip bs).map fun p => p.1 * p.2[i]?.getD 0).sum % 31)) (by simp; omega) ?_
  walk_at "w"
  rw [List.length_map]
  refine ⟨by omega, iRng0 _, fun i hi => ⟨_, rfl, ?_⟩, ?_⟩
  · have hi' := List.mem_range.mp hi
    unfold ce_column_by_2
    walk_at "w"
    unfold c_column_by_1
    refine wp_compM1 (ss.zip bs) (fun p => .tup [.int p.1, rowD p.2]) (fun p => .int (p.1 * p.2[i]?.getD 0)) (by rw [List.length_zip]; omega) ?_
    walk_at "w"
    refine ⟨_, Or.inr rfl, rfl, fun p hp => ⟨_, rfl, ?_⟩, ?_⟩
    · have h1 := hs _ (List.of_mem_zip hp).1
      have h2 := hb _ (List.of_mem_zip hp).2
      unfold ce_column_by_1
      walk_at "w"
      refine wo_ixT (d := .int (p.2[i]?.getD 0)) ?_ ?_
      · rw [atI_in (by omega) (by rw [List.length_map]; omega), List.getElem_map, List.getElem?_eq_getElem (by omega)]
        simp
      · walk_at "w"
        exact ⟨rfl, rfl⟩
    walk_at "w"
    rw [show (ss.zip bs).map (fun p => D.int (p.1 * p.2[i]?.getD 0)) = ((ss.zip bs).map fun p => p.1 * p.2[i]?.getD 0).map D.int by rw [List.map_map]; rfl]
    refine wo_sumL ?_
    walk_at "w"
    exact ⟨rfl, rfl⟩
  walk_at "w"
  unfold colb at q
  rw [List.map_map] at q
  refine ⟨?_, q⟩
  rw [show (List.range bs.length).map (fun i => D.int (((ss.zip bs).map fun p => p.1 * p.2[i]?.getD 0).sum % 31)) = ((List.range bs.length).map fun i => ((ss.zip bs).map fun p => p.1 * p.2[i]?.getD 0).sum % 31).map D.int by rw [List.map_map]; rfl]
  simp only [noRef]
  exact noRefs_int _
def wdt (k size i : Nat) : Nat := min k (size - i * k)
def wid (k size : Nat) : List Int := (List.range (rgN 0 size k)).map fun i => (wdt k size i : Int)
theorem wp_widths {S : Sto} {n k size : Nat} (hk : 1 ≤ k ∧ k ≤ 1000) (hs : size ≤ 10000) {Q : D → Sto → Prop} {E : Px} (q : Q (.lst ((wid k size).map .int)) S) : Wp (d_widths [.tup [.int n, .int k], .int size] S) Q E := by
  refine wp_fnP rfl ?_
  unfold b_widths
  walk_at "w"
  unfold c_widths_1
  have hc := @rgN_le size k
  refine wp_compM1 (List.range (rgN 0 size k)) (fun i => .int (0 + (i : Nat) * (k : Int))) (fun i => .int (wdt k size i : Int)) (by rw [List.length_range]; omega) ?_
  walk_at "w"
  refine ⟨0, _, k, rfl, ⟨by omega, by omega, small_up (by omega) (by omega)⟩, rfl, fun i hi => ⟨_, rfl, ?_⟩, ?_⟩
  · have hi' := rgN_lt hk.1 (List.mem_range.mp hi)
    unfold ce_widths_1
    walk_at "w"
    refine ⟨?_, rfl⟩
    unfold wdt
    have e : (i : Int) * (k : Int) = ((i * k : Nat) : Int) := by simp
    rw [e]
    generalize i * k = ik at *
    congr 1
    rw [Nat.min_def]
    split <;> split <;> omega
  unfold wid at q
  rw [List.map_map] at q
  refine ⟨?_, q⟩
  rw [show (List.range (rgN 0 size k)).map (fun i => D.int (wdt k size i : Int)) = ((List.range (rgN 0 size k)).map fun i => (wdt k size i : Int)).map D.int by rw [List.map_map]; rfl]
  simp only [noRef]
  exact noRefs_int _
end LK
set_option Elab.async false
set_option linter.all false
set_option maxRecDepth 100000
set_option maxHeartbeats 4000000
namespace LK
open DL LE LH LG
local macro_rules | `(tactic| walk_at "w1") => `(tactic| with_reducible first
  | (refine ws_then ?_; try with_reducible dsimp only [List.set_cons_zero, List.set_cons_succ]) | refine ws_seq ?_ | refine ws_asg ?_ | refine ws_expr ?_ | refine ws_ret ?_ | refine ws_if ?_ | refine ws_asgT ?_ | refine ws_skip ?_ | refine ws_retN ?_ | refine ws_brk ?_ | refine ws_cont ?_ | refine ws_thenR ?_ | refine ws_thenB ?_ | refine ws_thenC ?_ | refine fq_rt ?_ | refine fq_nx ?_ | refine un_nx ?_ | refine un_ct ?_ | refine un_bk ?_ | refine un_rt ?_ | refine ws_loopN ?_
  | (refine ws_loopC (ρ1 := ?r) ?h ?q; (case h => with_unfolding_all rfl); try with_reducible dsimp only [List.set_cons_zero, List.set_cons_succ])
  | refine wp_c ?_ | refine wp_op2 ?_ | refine wp_fn ?_ | refine wp_cons ?_ | refine wp_nil ?_ | refine wp_call ?_ | refine wp_op1 ?_
  | (refine wp_var (d := ?d) ?h ?q; (case h => with_unfolding_all rfl))
  | (refine ws_aug (d := ?d) ?h ?q; (case h => with_unfolding_all rfl))
  | refine wp_tup ?_ | refine wp_lst ?_ | refine wp_lstM ?_ | refine wp_listM ?_
  | refine wp_sl0 ?_ | refine wp_sl1 ?_ | refine wp_sl2 ?_ | refine wp_sl3 ?_
  | refine wp_tval ?_ | refine wp_tnot ?_ | refine wp_tand ?_ | refine wp_tor ?_ | refine wp_tyes ?_ | refine wp_and ?_ | refine wp_or ?_ | refine wp_not ?_ | refine wp_ifx ?_ | refine wp_chain ?_ | refine wp_meth ?_ | refine wp_meth0 ?_
  | refine wp_isi ?_ | refine wp_isis ?_ | refine wp_repr ?_ | refine wp_maxD ?_ | refine wi_rng3 ?_
  | refine ws_par ?_ | refine wp_dnew ?_ | refine wp_get2 ?_ | refine wp_reprQ ?_ | refine wp_fnK ?_ | refine wi_valsI ?_ | refine wi_itemsI ?_ | refine ws_augI ?_
  | refine wi_seq ?_ | refine wi_rng1 ?_ | refine wi_rng2 ?_ | refine wi_zip2 ?_ | refine wi_zipS ?_
  | (refine wp_fnB (ρ := ?ρ) ?he ?_; (case he => (simp only [List.map_cons, List.map_nil, List.length_cons, List.length_nil, List.replicate, List.cons_append, List.nil_append, Nat.reduceAdd, Nat.reduceSub]; rfl))))
local macro_rules | `(tactic| walk_at "w2") => `(tactic| ((with_reducible refine wo_id ?_); with_reducible first
  | refine vo_sub ?_ | refine vo_add ?_ | refine vo_lt ?_ | refine vo_le ?_ | refine vo_gt ?_ | refine vo_ge ?_ | refine vo_eq ?_ | refine vo_ne ?_ | refine vo_eqS ?_ | refine vo_neS ?_ | refine vo_eqB ?_ | refine vo_neB ?_ | refine vo_neg ?_ | refine vo_slT ?_ | refine vo_slL ?_ | refine vo_slS ?_ | refine vo_lenT ?_ | refine vo_lenL ?_ | refine vo_lenS ?_ | refine vo_revT ?_ | refine vo_revL ?_ | refine vo_min ?_ | refine vo_max ?_ | refine vo_tupL ?_ | refine vo_tupT ?_ | refine vo_lisL ?_ | refine vo_lisT ?_
  | refine vo_igAdd ?_ | refine vo_igMulR (by omega) ?_ | refine vo_igMulL (by omega) ?_ | refine vo_mod (by omega) ?_ | refine vo_div (by omega) ?_ | refine vo_mulR (by omega) ?_ | refine vo_mulL (by omega) ?_
  | refine vo_ixL0 ?_ | refine vo_ixL1 ?_ | refine vo_ixL2 ?_ | refine vo_ixL3 ?_ | refine vo_ixL4 ?_ | refine vo_ixL5 ?_ | refine vo_ixL6 ?_ | refine vo_ixT0 ?_ | refine vo_ixT1 ?_ | refine vo_ixT2 ?_ | refine vo_ixT3 ?_ | refine vo_ixT4 ?_ | refine vo_ixT5 ?_ | refine vo_ixT6 ?_
  | refine vo_inT ?_ | refine vo_ninT ?_ | refine vo_inL ?_ | refine vo_ninL ?_ | refine vo_inI ?_ | refine vo_ninI ?_ | refine vo_sortI (by first | assumption | omega) ?_ | refine vo_sortL ?_ | refine vo_lenI ?_ | refine vo_lt3 ?_ | refine vo_isNN ?_ | refine vo_is3N ?_ | refine vo_isTN ?_ | refine vo_isIN ?_ | refine vo_igAddI ?_ | refine vo_ixI (by assumption) ?_
  | refine vo_vwD1 (by assumption) ?_ | refine vo_vwDc (by assumption) ?_
  | refine wo_vw1 (by assumption) ?_ | refine wo_vw2 (by assumption) ?_ | refine vo_vwc (by assumption) ?_
  | (refine vo_isi (c := ?c) ?h ?q; (case h => with_unfolding_all rfl)) | (refine vo_isis (c := ?c) ?h ?q; (case h => with_unfolding_all rfl))))
local macro_rules | `(tactic| walk_at "w3") => `(tactic| first
  | with_reducible refine ite_f ?_ | with_reducible refine ite_nt ?_ | with_reducible refine ite_nf ?_ | with_reducible refine ite_t ?_
  | ((with_reducible refine ex_id ?_); refine ⟨_, rfl, ?_⟩) | ((with_reducible refine and_id ?_); refine ⟨Nat.le_of_ble_eq_true rfl, ?_⟩))
local macro_rules | `(tactic| walk_at "w") => `(tactic| repeat (first | walk_at "w1" | walk_at "w2" | walk_at "w3"))
/-- the sign that a shard has for a column -/
def shAt (l : List (Int × List Int)) (i : Nat) (j : Int) : Int := (((getA l j).getD [])[i]?).getD 0
/-- the pairs of a column -/
def prs (l : List (Int × List Int)) (i : Nat) (ws : List Int) : List (Int × Int) := ws.map fun j => (j + 1, shAt l i j)
def pc (k size : Nat) (l : List (Int × List Int)) (ws : List Int) (i : Nat) : List Int := fil (thr (prs l i (ws.take (wdt k size i)))) (wdt k size i)
/-- the row by the shards with some numbers -/
def rby (k size : Nat) (l : List (Int × List Int)) (ws : List Int) : List Int := (List.range (rgN 0 size k)).flatMap (pc k size l ws)
theorem shAt_rng {n c : Nat} {l : List (Int × List Int)} (hl : Sm n c l) (i : Nat) (j : Int) : 0 ≤ shAt l i j ∧ shAt l i j < 31 := by
  unfold shAt
  cases e : getA l j with
  | none => simp
  | some v =>
    have hv := (hl.row _ (getA_mem e)).1
    simp only [Option.getD_some]
    cases e2 : v[i]? with
    | none => simp
    | some s => exact hv s (List.mem_of_getElem? e2)
/-- numbers of shards, unlike ones -/
structure Nums (n : Nat) (ws : List Int) : Prop where
  rng : ∀ j ∈ ws, 0 ≤ j ∧ j < n
  nd : ws.Nodup
theorem Nums.take {n : Nat} {ws : List Int} (h : Nums n ws) (m : Nat) : Nums n (ws.take m) := ⟨fun j hj => h.rng j (List.mem_of_mem_take hj), h.nd.sublist (List.take_sublist _ _)⟩
theorem Nums.pts {n : Nat} {ws : List Int} (h : Nums n ws) (hn : n ≤ 30) : Pts (ws.map (· + 1)) := by
  refine ⟨fun x hx => ?_, ?_⟩
  · obtain ⟨j, hj, rfl⟩ := List.mem_map.mp hx
    have := h.rng j hj
    omega
  · rw [List.nodup_iff_pairwise_ne, List.pairwise_map]
    exact h.nd.imp fun {a b} hab e => hab (by omega)
theorem Nums.prs {n c : Nat} {ws : List Int} (h : Nums n ws) (hn : n ≤ 30) {l : List (Int × List Int)} (hl : Sm n c l) (i : Nat) : Prs (prs l i ws) := by
  have := (h.pts hn).prs (f := fun x => shAt l i (x - 1)) fun x _ => shAt_rng hl i _
  rw [List.map_map] at this
  have e : (ws.map ((fun x => (x, shAt l i (x - 1))) ∘ fun x => x + 1)) = LK.prs l i ws := by
    apply List.map_congr_left
    intro j _
    show (j + 1, shAt l i (j + 1 - 1)) = (j + 1, shAt l i j)
    rw [Int.add_sub_cancel]
  rw [← e]
  exact this
theorem prs_len (l : List (Int × List Int)) (i : Nat) (ws : List Int) : (prs l i ws).length = ws.length := by simp [prs]
theorem pc_len {k size i : Nat} {l : List (Int × List Int)} {ws : List Int} : (pc k size l ws i).length = wdt k size i := by
  unfold pc
  rw [fil_len]
  rw [thr_len, prs_len, List.length_take]
  omega
theorem pc_row {k size i : Nat} {l : List (Int × List Int)} {ws : List Int} : Row (pc k size l ws i) := by
  unfold pc fil
  exact thr_row.app (Row.rep0 _)
theorem rby_row {k size : Nat} {l : List (Int × List Int)} {ws : List Int} : Row (rby k size l ws) := fun x hx => by
  obtain ⟨i, _, h⟩ := List.mem_flatMap.mp hx
  exact pc_row x h
/-- the widths sum to the size -/
theorem wdt_sum {k size : Nat} (hk : 1 ≤ k) (f : Nat → List Int) (hf : ∀ i, (f i).length = wdt k size i) : ∀ m, m ≤ rgN 0 size k → ((List.range m).flatMap f).length = min (m * k) size
  | 0, _ => by simp
  | m + 1, h => by
    have h1 := rgN_lt hk (show m < rgN 0 size k by omega)
    rw [List.range_succ, List.flatMap_append, List.length_append, wdt_sum hk f hf m (by omega)]
    simp only [List.flatMap_cons, List.flatMap_nil, List.append_nil]
    rw [hf, Nat.succ_mul]
    unfold wdt
    generalize m * k = mk at *
    omega
theorem rgN_ge {s k : Nat} (hk : 1 ≤ k) : s ≤ rgN 0 s k * k := by
  unfold rgN PySem.Builtin.Range.rangeSize
  rw [if_pos (show (k : Int) > 0 by omega)]
  split
  · rename_i hs
    have h2 := Int.lt_mul_ediv_self_add (show (0 : Int) < k by omega) (x := (s : Int) - 0 - 1)
    have h3 : 0 ≤ ((s : Int) - 0 - 1) / (k : Int) := Int.ediv_nonneg (by omega) (by omega)
    have h4 : ((((((s : Int) - 0 - 1) / (k : Int) + 1).toNat) * k : Nat) : Int) = (((s : Int) - 0 - 1) / (k : Int) + 1) * (k : Int) := by
      rw [Int.natCast_mul, Int.toNat_of_nonneg (by omega)]
    have h5 : (((s : Int) - 0 - 1) / (k : Int) + 1) * (k : Int) = (k : Int) * (((s : Int) - 0 - 1) / (k : Int)) + k := by
      rw [Int.add_mul, Int.one_mul, Int.mul_comm]
    omega
  · rename_i hs
    omega
theorem rby_len {k size : Nat} (hk : 1 ≤ k) {l : List (Int × List Int)} {ws : List Int} : (rby k size l ws).length = size := by
  unfold rby
  rw [wdt_sum hk _ (fun i => pc_len) _ (Nat.le_refl _)]
  have := rgN_ge (s := size) hk
  omega
def basD (bs : List (List Int)) : D := .lst (bs.map rowD)
theorem shAt_at {l : List (Int × List Int)} {i : Nat} {j : Int} {v : List Int} (h : getA l j = some v) (hi : i < v.length) : L2.atI (v.map D.int) (i : Nat) = some (.int (shAt l i j)) := by
  rw [atI_in (by omega) (by rw [List.length_map]; omega), List.getElem_map]
  unfold shAt
  rw [h]
  simp [List.getElem?_eq_getElem hi]
theorem wp_row_by {S : Sto} {n k size : Nat} {l : List (Int × List Int)} {ws : List Int} (hk : 1 ≤ k ∧ k ≤ 8) (hn : n ≤ 8) (hs : size ≤ 1300) (hr : rgN 0 size k < 4000) (hl : Sm n (rgN 0 size k) l) (hw : ∀ j ∈ ws, j ∈ l.map (·.1)) (hd : ws.Nodup) {Q : D → Sto → Prop} {E : Px}
    (q : Q (.tup ((rby k size l ws).map .int)) S) : Wp (d_row_by [.tup [.int n, .int k], .int size, dA rowD l, .lst (ws.map .int)] S) Q E := by
  have hnums : Nums n ws := ⟨fun j hj => by
    obtain ⟨v, hv⟩ := getA_has (hw j hj)
    exact hl.key _ (getA_mem hv), hd⟩
  refine wp_fnP (by simp [noRefs, noRef, noRefs_int, noRef_A]) ?_
  unfold b_row_by
  walk_at "w"
  refine wp_widths (by omega) (by omega) ?_
  walk_at "w"
  unfold c_row_by_2
  have hwl : (wid k size).length = rgN 0 size k := by simp [wid]
  have hwr : ∀ w ∈ wid k size, 0 ≤ w ∧ w ≤ 8 := fun w hw' => by
    obtain ⟨i, _, rfl⟩ := List.mem_map.mp hw'
    unfold wdt
    omega
  have hsl := su_len (wid k size)
  refine wp_dcMA (suI (wid k size)) D.int (fun x => x) basD (fun x => bas ((ws.take x.toNat).map (· + 1))) (by omega) ?_
  walk_at "w"
  refine wp_sortSet2 ?_
  walk_at "w"
  have hsf := su_few (ns := wid k size) (lo := 0) (hi := 9) fun w hw' => by have := hwr w hw'; omega
  refine ⟨wid k size, Or.inl rfl, by omega, by omega, ?_⟩
  refine ⟨_, Or.inr rfl, rfl, fun x hx => ?_, ?_⟩
  · have hx2 := hwr x (su_mem.mp hx)
    refine ⟨_, rfl, ?_, ?_⟩
    · unfold ck_row_by_1
      walk_at "w"
      exact ⟨rfl, rfl⟩
    · unfold ce_row_by_2
      walk_at "w"
      unfold c_row_by_1
      refine wp_compM1 (ws.take x.toNat) D.int (fun j => .int (j + 1)) ?_ ?_
      · rw [List.length_take]; omega
      walk_at "w"
      rw [cut_map, cutL_take _ _ hx2.1]
      refine ⟨_, Or.inr rfl, rfl, fun j hj => ⟨_, rfl, ?_⟩, ?_⟩
      · unfold ce_row_by_1
        walk_at "w"
        exact ⟨rfl, rfl⟩
      walk_at "w"
      rw [show ((ws.take x.toNat).map fun j => D.int (j + 1)) = ((ws.take x.toNat).map (· + 1)).map D.int by rw [List.map_map]; rfl]
      exact wp_bases ((hnums.take _).pts (by omega)) (by rw [List.length_map, List.length_take]; omega) ⟨rfl, rfl⟩
  have hget : ∀ w ∈ wid k size, getA ((suI (wid k size)).foldl (fun a x => putA a x (bas ((ws.take x.toNat).map (· + 1)))) []) w = some (bas ((ws.take w.toNat).map (· + 1))) := fun w hw' =>
    getA_made (fun x => bas ((ws.take x.toNat).map (· + 1))) w _ [] (.inl (su_mem.mpr hw'))
  generalize ((suI (wid k size)).foldl (fun a x => putA a x (bas ((ws.take x.toNat).map (· + 1)))) []) = tb at *
  have e0 : ([] ++ [some (Ob.dic false (kA basD tb))] : Sto) = [some (Ob.dic false (kA basD tb))] := rfl
  rw [e0]
  walk_at "w"
  unfold l_row_by_1
  refine ws_for [7, 8, 9] ?_
  refine wi_enum ?_
  walk_at "w"
  refine ⟨fun j vs S' => S' = [some (.dic false (kA basD tb)), some (.lst (((List.range j).flatMap (pc k size l ws)).map .int))], [none, none, none], rfl, rfl, rfl, ?_, ?_⟩
  · rintro i d vs S' hi hv rfl
    obtain ⟨v7, v8, v9, rfl⟩ := len3 hv
    have hi' := (List.getElem?_eq_some_iff.mp hi).1
    rw [enum_len, List.length_map, hwl] at hi'
    rw [enum_at (by rw [List.length_map, hwl]; exact hi'), List.getElem_map] at hi
    have hwm : (wid k size)[i]'(by rw [hwl]; exact hi') = (wdt k size i : Int) := by simp [wid]
    rw [hwm] at hi
    cases hi
    refine ⟨_, rfl, ?_⟩
    dsimp only [putAll, List.set_cons_zero, List.set_cons_succ]
    have hwin : (wdt k size i : Int) ∈ wid k size := List.mem_map.mpr ⟨i, List.mem_range.mpr hi', rfl⟩
    have hwle : wdt k size i ≤ k := by unfold wdt; omega
    have hflen := wdt_sum hk.1 (pc k size l ws) (fun i => pc_len) i (by omega)
    unfold lb_row_by_1
    walk_at "w"
    refine vo_vwA1 (l := tb) (f := basD) rfl ?_
    refine vo_ixA (hget _ hwin) ?_
    walk_at "w"
    unfold c_row_by_3
    rw [Int.toNat_natCast]
    refine wp_compM1 (ws.take (wdt k size i)) D.int (fun j => .int (shAt l i j)) (by rw [List.length_take]; omega) ?_
    walk_at "w"
    rw [cut_map, cutL_take _ _ (by omega), Int.toNat_natCast]
    refine ⟨_, Or.inr rfl, rfl, fun j hj => ⟨_, rfl, ?_⟩, ?_⟩
    · obtain ⟨v, hv⟩ := getA_has (hw j (List.mem_of_mem_take hj))
      have hvl := (hl.row _ (getA_mem hv)).2
      unfold ce_row_by_3
      walk_at "w"
      refine vo_ixA hv ?_
      walk_at "w"
      refine wo_ixT (shAt_at hv (by rw [hvl]; exact hi')) ?_
      exact ⟨rfl, rfl⟩
    walk_at "w"
    rw [show ((ws.take (wdt k size i)).map fun j => D.int (shAt l i j)) = ((((ws.take (wdt k size i)).map (· + 1)).map fun x => shAt l i (x - 1))).map D.int by
      rw [List.map_map, List.map_map]
      apply List.map_congr_left
      intro j _
      show _ = D.int (shAt l i (j + 1 - 1))
      rw [Int.add_sub_cancel]]
    have hpt := (hnums.take (wdt k size i)).pts (by omega)
    have hll : (ws.take (wdt k size i)).length ≤ 8 := by rw [List.length_take]; omega
    refine wp_column_by (fun b hb => ⟨bas_each hb, by
      obtain ⟨p, _, rfl⟩ := List.mem_map.mp hb
      exact thr_row⟩) (by rw [bas_len, List.length_map]) (fun s hs' => by
      obtain ⟨x, _, rfl⟩ := List.mem_map.mp hs'
      exact shAt_rng hl i _) (by rw [bas_len, List.length_map]; omega) ?_
    rw [colb_thr hpt fun x _ => shAt_rng hl i _]
    have hpr : (((ws.take (wdt k size i)).map (· + 1)).map fun x => (x, shAt l i (x - 1))) = prs l i (ws.take (wdt k size i)) := by
      rw [List.map_map]
      apply List.map_congr_left
      intro j _
      show (j + 1, shAt l i (j + 1 - 1)) = (j + 1, shAt l i j)
      rw [Int.add_sub_cancel]
    rw [hpr]
    have htl : (thr (prs l i (ws.take (wdt k size i)))).length ≤ 8 := by rw [thr_len, prs_len]; exact hll
    walk_at "w"
    refine ⟨rfl, ?_⟩
    walk_at "w"
    rw [List.length_map]
    refine wo_mulT (by omega) (by simp; omega) ?_
    rw [rep_one]
    refine vo_addT (by simp; omega) ?_
    rw [← List.map_append]
    walk_at "w"
    have hfil : thr (prs l i (ws.take (wdt k size i))) ++ List.replicate ((wdt k size i : Int) - (thr (prs l i (ws.take (wdt k size i)))).length).toNat 0 = pc k size l ws i := by
      unfold pc fil
      congr 2
      omega
    rw [hfil]
    refine ⟨_, _, _, rfl, gExtT ?_, ?_⟩
    · rw [List.length_map, List.length_map, hflen, pc_len]; omega
    refine ⟨[_, _, _], rfl, rfl, ?_⟩
    rw [← List.map_append, List.range_succ, List.flatMap_append]
    simp
  · rintro vs S' hv rfl
    obtain ⟨v7, v8, v9, rfl⟩ := len3 hv
    rw [enum_len, List.length_map, hwl]
    walk_at "w"
    exact ⟨by simp only [noRef]; exact noRefs_int _, q⟩
end LK
set_option Elab.async false
set_option linter.all false
set_option maxRecDepth 100000
set_option maxHeartbeats 4000000
namespace LK
open DL LE LH LG
local macro_rules | `(tactic| walk_at "w1") => `(tactic| with_reducible first
  | (refine ws_then ?_; try with_reducible dsimp only [List.set_cons_zero, List.set_cons_succ]) | refine ws_seq ?_ | refine ws_asg ?_ | refine ws_expr ?_ | refine ws_ret ?_ | refine ws_if ?_ | refine ws_asgT ?_ | refine ws_skip ?_ | refine ws_retN ?_ | refine ws_brk ?_ | refine ws_cont ?_ | refine ws_thenR ?_ | refine ws_thenB ?_ | refine ws_thenC ?_ | refine fq_rt ?_ | refine fq_nx ?_ | refine un_nx ?_ | refine un_ct ?_ | refine un_bk ?_ | refine un_rt ?_ | refine ws_loopN ?_
  | (refine ws_loopC (ρ1 := ?r) ?h ?q; (case h => with_unfolding_all rfl); try with_reducible dsimp only [List.set_cons_zero, List.set_cons_succ])
  | refine wp_c ?_ | refine wp_op2 ?_ | refine wp_fn ?_ | refine wp_cons ?_ | refine wp_nil ?_ | refine wp_call ?_ | refine wp_op1 ?_
  | (refine wp_var (d := ?d) ?h ?q; (case h => with_unfolding_all rfl))
  | (refine ws_aug (d := ?d) ?h ?q; (case h => with_unfolding_all rfl))
  | refine wp_tup ?_ | refine wp_lst ?_ | refine wp_lstM ?_ | refine wp_listM ?_
  | refine wp_sl0 ?_ | refine wp_sl1 ?_ | refine wp_sl2 ?_ | refine wp_sl3 ?_
  | refine wp_tval ?_ | refine wp_tnot ?_ | refine wp_tand ?_ | refine wp_tor ?_ | refine wp_tyes ?_ | refine wp_and ?_ | refine wp_or ?_ | refine wp_not ?_ | refine wp_ifx ?_ | refine wp_chain ?_ | refine wp_meth ?_ | refine wp_meth0 ?_
  | refine wp_isi ?_ | refine wp_isis ?_ | refine wp_repr ?_ | refine wp_maxD ?_ | refine wi_rng3 ?_
  | refine ws_par ?_ | refine wp_dnew ?_ | refine wp_get2 ?_ | refine wp_reprQ ?_ | refine wp_fnK ?_ | refine wi_valsI ?_ | refine wi_itemsI ?_ | refine ws_augI ?_
  | refine wi_seq ?_ | refine wi_rng1 ?_ | refine wi_rng2 ?_ | refine wi_zip2 ?_ | refine wi_zipS ?_
  | (refine wp_fnB (ρ := ?ρ) ?he ?_; (case he => (simp only [List.map_cons, List.map_nil, List.length_cons, List.length_nil, List.replicate, List.cons_append, List.nil_append, Nat.reduceAdd, Nat.reduceSub]; rfl))))
local macro_rules | `(tactic| walk_at "w2") => `(tactic| ((with_reducible refine wo_id ?_); with_reducible first
  | refine vo_sub ?_ | refine vo_add ?_ | refine vo_lt ?_ | refine vo_le ?_ | refine vo_gt ?_ | refine vo_ge ?_ | refine vo_eq ?_ | refine vo_ne ?_ | refine vo_eqS ?_ | refine vo_neS ?_ | refine vo_eqB ?_ | refine vo_neB ?_ | refine vo_neg ?_ | refine vo_slT ?_ | refine vo_slL ?_ | refine vo_slS ?_ | refine vo_lenT ?_ | refine vo_lenL ?_ | refine vo_lenS ?_ | refine vo_revT ?_ | refine vo_revL ?_ | refine vo_min ?_ | refine vo_max ?_ | refine vo_tupL ?_ | refine vo_tupT ?_ | refine vo_lisL ?_ | refine vo_lisT ?_
  | refine vo_igAdd ?_ | refine vo_igMulR (by omega) ?_ | refine vo_igMulL (by omega) ?_ | refine vo_mod (by omega) ?_ | refine vo_div (by omega) ?_ | refine vo_mulR (by omega) ?_ | refine vo_mulL (by omega) ?_
  | refine vo_ixL0 ?_ | refine vo_ixL1 ?_ | refine vo_ixL2 ?_ | refine vo_ixL3 ?_ | refine vo_ixL4 ?_ | refine vo_ixL5 ?_ | refine vo_ixL6 ?_ | refine vo_ixT0 ?_ | refine vo_ixT1 ?_ | refine vo_ixT2 ?_ | refine vo_ixT3 ?_ | refine vo_ixT4 ?_ | refine vo_ixT5 ?_ | refine vo_ixT6 ?_
  | refine vo_inT ?_ | refine vo_ninT ?_ | refine vo_inL ?_ | refine vo_ninL ?_ | refine vo_inI ?_ | refine vo_ninI ?_ | refine vo_sortI (by first | assumption | omega) ?_ | refine vo_sortL ?_ | refine vo_lenI ?_ | refine vo_lt3 ?_ | refine vo_isNN ?_ | refine vo_is3N ?_ | refine vo_isTN ?_ | refine vo_isIN ?_ | refine vo_igAddI ?_ | refine vo_ixI (by assumption) ?_
  | refine vo_vwD1 (by assumption) ?_ | refine vo_vwDc (by assumption) ?_
  | refine wo_vw1 (by assumption) ?_ | refine wo_vw2 (by assumption) ?_ | refine vo_vwc (by assumption) ?_
  | (refine vo_isi (c := ?c) ?h ?q; (case h => with_unfolding_all rfl)) | (refine vo_isis (c := ?c) ?h ?q; (case h => with_unfolding_all rfl))))
local macro_rules | `(tactic| walk_at "w3") => `(tactic| first
  | with_reducible refine ite_f ?_ | with_reducible refine ite_nt ?_ | with_reducible refine ite_nf ?_ | with_reducible refine ite_t ?_
  | ((with_reducible refine ex_id ?_); refine ⟨_, rfl, ?_⟩) | ((with_reducible refine and_id ?_); refine ⟨Nat.le_of_ble_eq_true rfl, ?_⟩))
local macro_rules | `(tactic| walk_at "w") => `(tactic| repeat (first | walk_at "w1" | walk_at "w2" | walk_at "w3"))
def col (k : Nat) (xs : List Int) (i : Nat) : List Int := (xs.drop (i * k)).take k
theorem cut_mid {xs : List Int} {a b : Nat} (h : a ≤ b) : cutL xs (some (a : Int)) (some (b : Int)) = (xs.drop a).take (b - a) := by
  unfold cutL
  simp only [HT.sIx]
  rw [if_neg (by omega), if_neg (by omega)]
  simp only [Int.toNat_natCast]
  rcases Nat.lt_or_ge a xs.length with h1 | h1
  · rw [Nat.min_eq_left (by omega : a ≤ xs.length)]
    rcases Nat.lt_or_ge b xs.length with h2 | h2
    · rw [Nat.min_eq_left (by omega : b ≤ xs.length)]
    · rw [Nat.min_eq_right (by omega : xs.length ≤ b), List.take_of_length_le (by rw [List.length_drop]; omega), List.take_of_length_le (by rw [List.length_drop]; omega)]
  · rw [Nat.min_eq_right h1, List.drop_eq_nil_of_le (Nat.le_refl _), List.drop_eq_nil_of_le h1]
    simp
theorem cols_col (k : Nat) (xs : List Int) : cols k xs = (List.range (rgN 0 xs.length k)).map (col k xs) := by
  unfold cols
  apply List.map_congr_left
  intro i _
  have e1 : 0 + (i : Int) * (k : Int) = ((i * k : Nat) : Int) := by simp
  have e2 : 0 + (i : Int) * (k : Int) + k = ((i * k + k : Nat) : Int) := by simp
  rw [e2, e1, cut_mid (by omega), Nat.add_sub_cancel_left]
  rfl
theorem col_len {k : Nat} {xs : List Int} {i : Nat} : (col k xs i).length = wdt k xs.length i := by
  unfold col wdt
  rw [List.length_take, List.length_drop]
theorem col_row {k : Nat} {xs : List Int} (h : Row xs) {i : Nat} : Row (col k xs i) := fun x hx => h x (List.mem_of_mem_drop (List.mem_of_mem_take hx))
theorem cols_join (k : Nat) (xs : List Int) : ∀ m, (List.range m).flatMap (col k xs) = xs.take (m * k)
  | 0 => by simp
  | m + 1 => by
    rw [List.range_succ, List.flatMap_append, cols_join k xs m]
    simp only [List.flatMap_cons, List.flatMap_nil, List.append_nil]
    unfold col
    rw [Nat.succ_mul, List.take_add]
theorem join_all {k : Nat} (hk : 1 ≤ k) (xs : List Int) : (List.range (rgN 0 xs.length k)).flatMap (col k xs) = xs := by
  rw [cols_join]
  have := rgN_ge (s := xs.length) hk
  exact List.take_of_length_le this
theorem cols_uniq {k : Nat} (hk : 1 ≤ k) {xs ys : List Int} (hl : xs.length = ys.length) (h : ∀ i < rgN 0 xs.length k, col k xs i = col k ys i) : xs = ys := by
  rw [← join_all hk xs, ← join_all hk ys, ← hl]
  have : ∀ m, m ≤ rgN 0 xs.length k → (List.range m).flatMap (col k xs) = (List.range m).flatMap (col k ys) := by
    intro m
    induction m with
    | zero => intro _; rfl
    | succ m ih =>
      intro hm
      rw [List.range_succ, List.flatMap_append, List.flatMap_append, ih (by omega)]
      simp only [List.flatMap_cons, List.flatMap_nil, List.append_nil]
      rw [h m (by omega)]
  exact this _ (Nat.le_refl _)
theorem shs_get {n k : Nat} {xs : List Int} {j : Int} (hj : 0 ≤ j ∧ j < n) : (shs n k xs)[j.toNat]? = some ((List.range (rgN 0 xs.length k)).map fun i => wz (col k xs i) (j + 1)) := by
  unfold shs
  rw [List.getElem?_map, List.getElem?_range (by omega), cols_col]
  simp only [Option.map_some, List.map_map]
  congr 1
  apply List.map_congr_left
  intro i _
  show wz (col k xs i) ((j.toNat : Nat) + 1) = _
  rw [Int.toNat_of_nonneg hj.1]
/-- rows that agree at as many numbers as the need -/
theorem shs_uniq {n k : Nat} (hk : 1 ≤ k) (hn : n ≤ 30) {xs ys R : List Int} (hx : Row xs) (hy : Row ys) (hl : xs.length = ys.length) (hR : Nums n R) (hm : min k xs.length ≤ R.length) (h : ∀ j ∈ R, (shs n k xs)[j.toNat]? = (shs n k ys)[j.toNat]?) : xs = ys := by
  refine cols_uniq hk hl fun i hi => ?_
  have hp := hR.pts hn
  refine DL.uniq (col_row hx) (col_row hy) (by rw [col_len, col_len, hl]) hp.nd hp.rng ?_ ?_
  · intro x hx'
    obtain ⟨j, hj, rfl⟩ := List.mem_map.mp hx'
    have e := h j hj
    rw [shs_get (hR.rng j hj), shs_get (hR.rng j hj), ← hl, Option.some.injEq] at e
    have e2 := congrArg (fun z => z[i]?) e
    simpa [hi] using e2
  · rw [col_len, List.length_map]
    unfold wdt
    omega
/-- the row by right shards is the row -/
theorem rby_uniq {n k size : Nat} {l : List (Int × List Int)} {ws : List Int} (hk : 1 ≤ k) (hn : n ≤ 30) (hl : Sm n (rgN 0 size k) l) (hw : Nums n ws) (hwl : min k size ≤ ws.length) {xs : List Int} (hx : Row xs) (hs : xs.length = size)
    (h : ∀ j ∈ ws.take (min k size), getA l j = (shs n k xs)[j.toNat]?) : rby k size l ws = xs := by
  subst hs
  refine Eq.trans ?_ (join_all hk xs)
  unfold rby
  have : ∀ m, m ≤ rgN 0 xs.length k → (List.range m).flatMap (pc k xs.length l ws) = (List.range m).flatMap (col k xs) := by
    intro m
    induction m with
    | zero => intro _; rfl
    | succ m ih =>
      intro hm
      rw [List.range_succ, List.flatMap_append, List.flatMap_append, ih (by omega)]
      simp only [List.flatMap_cons, List.flatMap_nil, List.append_nil]
      congr 1
      have hwd : wdt k xs.length m ≤ min k xs.length := by unfold wdt; omega
      have hlen : (col k xs m).length = (prs l m (ws.take (wdt k xs.length m))).length := by
        rw [col_len, prs_len, List.length_take]
        omega
      have e := ((hw.take (wdt k xs.length m)).prs hn hl m).uniq (col_row hx) hlen (fun p hp => by
        obtain ⟨j, hj, rfl⟩ := List.mem_map.mp hp
        have hj2 : j ∈ ws.take (min k xs.length) := by
          have := List.take_subset_take_left ws hwd
          exact this hj
        have hjr := hw.rng j (List.mem_of_mem_take hj)
        have e := h j hj2
        rw [shs_get hjr] at e
        show wz (col k xs m) (j + 1) = shAt l m j
        unfold shAt
        rw [e]
        simp [show m < rgN 0 xs.length k by omega])
      unfold pc
      rw [e]
      unfold fil
      rw [col_len, Nat.sub_self]
      simp
  exact this _ (Nat.le_refl _)
def ext (one : List Int) (j : Int) : Bool := match one.getLast? with
  | none => true
  | some z => decide (z < j)
def chs (nums : List Int) : Nat → List (List Int)
  | 0 => [[]]
  | t + 1 => (chs nums t).flatMap fun one => (nums.filter (ext one)).map fun j => one ++ [j]
theorem chs_len (nums : List Int) : ∀ t, (chs nums t).length ≤ nums.length ^ t
  | 0 => by simp [chs]
  | t + 1 => by
    have ih := chs_len nums t
    unfold chs
    have : ∀ L : List (List Int), (L.flatMap fun one => (nums.filter (ext one)).map fun j => one ++ [j]).length ≤ L.length * nums.length := by
      intro L
      induction L with
      | nil => simp
      | cons a L ih =>
        rw [List.flatMap_cons, List.length_append, List.length_map, List.length_cons, Nat.succ_mul]
        have := List.length_filter_le (ext a) nums
        omega
    refine Nat.le_trans (this _) ?_
    rw [Nat.pow_succ]
    exact Nat.mul_le_mul_right _ ih
theorem chs_ok {nums : List Int} : ∀ {t : Nat} {c : List Int}, c ∈ chs nums t → c.length = t ∧ c.Pairwise (· < ·) ∧ ∀ j ∈ c, j ∈ nums
  | 0, c, h => by
    simp [chs] at h
    subst h
    simp
  | t + 1, c, h => by
    unfold chs at h
    obtain ⟨one, ho, h⟩ := List.mem_flatMap.mp h
    obtain ⟨j, hj, rfl⟩ := List.mem_map.mp h
    obtain ⟨h1, h2, h3⟩ := chs_ok ho
    have hj' := List.mem_filter.mp hj
    refine ⟨by simp [h1], ?_, ?_⟩
    · rw [List.pairwise_append]
      refine ⟨h2, by simp, fun a ha b hb => ?_⟩
      simp at hb
      subst hb
      have he := hj'.2
      unfold ext at he
      cases e : one.getLast? with
      | none =>
        rw [List.getLast?_eq_none_iff] at e
        rw [e] at ha
        simp at ha
      | some z =>
        rw [e] at he
        have hz : z < b := of_decide_eq_true he
        rcases List.eq_nil_or_concat one with q | ⟨pre, y, q⟩
        · rw [q] at ha; simp at ha
        · rw [List.concat_eq_append] at q
          subst q
          rw [List.getLast?_append] at e
          simp at e
          subst e
          rcases List.mem_append.mp ha with ha | ha
          · have := (List.pairwise_append.mp h2).2.2 a ha y (by simp)
            omega
          · simp at ha
            omega
    · intro a ha
      rcases List.mem_append.mp ha with ha | ha
      · exact h3 a ha
      · simp at ha
        subst ha
        exact hj'.1
theorem chs_all {nums : List Int} : ∀ (t : Nat) (R : List Int), R.length = t → R.Pairwise (· < ·) → (∀ j ∈ R, j ∈ nums) → R ∈ chs nums t
  | 0, R, h, _, _ => by
    rw [List.length_eq_zero_iff.mp h]
    simp [chs]
  | t + 1, R, h, hp, hm => by
    rcases List.eq_nil_or_concat R with q | ⟨pre, y, q⟩
    · rw [q] at h; simp at h
    · rw [List.concat_eq_append] at q
      subst q
      have hp' := List.pairwise_append.mp hp
      unfold chs
      refine List.mem_flatMap.mpr ⟨pre, chs_all t pre (by simpa using h) hp'.1 fun j hj => hm j (by simp [hj]), List.mem_map.mpr ⟨y, List.mem_filter.mpr ⟨hm y (by simp), ?_⟩, rfl⟩⟩
      unfold ext
      cases e : pre.getLast? with
      | none => rfl
      | some z =>
        have hz : z ∈ pre := List.mem_of_getLast? e
        exact decide_eq_true (hp'.2.2 z hz y (by simp))
def rowL (c : List Int) : D := .lst (c.map .int)
theorem atI_last {one : List Int} {z : Int} (h : one.getLast? = some z) : L2.atI (one.map D.int) (-1) = some (.int z) := by
  rcases List.eq_nil_or_concat one with q | ⟨pre, y, q⟩
  · rw [q] at h; simp at h
  · rw [List.concat_eq_append] at q
    subst q
    rw [List.getLast?_append] at h
    simp at h
    subst h
    unfold L2.atI L2.ixN
    rw [if_neg (by omega), if_pos (by simp; omega)]
    simp only [List.map_append, List.map_cons, List.map_nil, List.length_append, List.length_map, List.length_cons, List.length_nil]
    rw [show (-1 + ((pre.length + (0 + 1) : Nat) : Int)).toNat = pre.length by omega]
    simp
theorem noRefs_rowL : ∀ cs : List (List Int), noRefs (cs.map rowL) = true
  | [] => rfl
  | c :: cs => by simp [noRefs, noRef, rowL, noRefs_int, noRefs_rowL cs]
theorem wp_choices {S : Sto} {nums : List Int} {m : Nat} (hm : m ≤ 8) (hl : nums.length ≤ 8) {Q : D → Sto → Prop} {E : Px} (q : Q (.lst ((chs nums m).map rowL)) S) : Wp (d_choices [.lst (nums.map .int), .int m] S) Q E := by
  refine wp_fnP (by simp [noRefs, noRef, noRefs_int]) ?_
  unfold b_choices
  walk_at "w"
  unfold l_choices_1
  refine ws_for [2, 3] ?_
  walk_at "w"
  refine ⟨by omega, ?_⟩
  have hlen : (iRng 0 (m : Int)).length = m := by rw [iRng_len]; omega
  refine ⟨fun t vs S' => S' = [] ∧ ∃ d3, vs = [some (.lst ((chs nums t).map rowL)), d3], [some (.lst [.lst []]), none], rfl, rfl, ⟨rfl, none, rfl⟩, ?_, ?_⟩
  · rintro t d vs S' ht hv ⟨rfl, d3, rfl⟩
    have ht' : t < m := by rw [← hlen]; exact (List.getElem?_eq_some_iff.mp ht).1
    refine ⟨_, rfl, ?_⟩
    dsimp only [putAll, List.set_cons_zero, List.set_cons_succ]
    unfold lb_choices_1
    walk_at "w"
    unfold c_choices_1
    have hc := chs_len nums t
    have hb : ((chs nums t).flatMap fun _ => nums).length ≤ 16777216 := by
      have e : ∀ L : List (List Int), (L.flatMap fun _ => nums).length = L.length * nums.length := by
        intro L
        induction L with
        | nil => simp
        | cons a L ih => rw [List.flatMap_cons, List.length_append, ih, List.length_cons, Nat.succ_mul]; omega
      rw [e]
      have h1 : (chs nums t).length * nums.length ≤ nums.length ^ t * nums.length := Nat.mul_le_mul_right _ hc
      have h0 : nums.length ^ (t + 1) = nums.length ^ t * nums.length := Nat.pow_succ _ _
      have h2 : nums.length ^ (t + 1) ≤ 8 ^ (t + 1) := Nat.pow_le_pow_left hl _
      have h3 : 8 ^ (t + 1) ≤ 8 ^ 8 := Nat.pow_le_pow_right (by omega) (by omega)
      have h4 : 8 ^ 8 = 16777216 := rfl
      omega
    refine wp_comp2 (chs nums t) rowL (fun _ => nums) D.int ext (fun one j => rowL (one ++ [j])) hb ?_
    walk_at "w"
    refine ⟨_, Or.inr rfl, rfl, fun one ho => ⟨_, rfl, ?_, fun j hj => ⟨_, rfl, ?_, fun _ => ?_⟩⟩, ?_⟩
    · unfold ci_choices_1
      walk_at "w"
      exact ⟨_, Or.inr rfl, rfl, rfl⟩
    · have hl1 := (chs_ok ho).1
      unfold ct_choices_1
      walk_at "w"
      refine .of (eqD_lstI one []) ?_
      cases e : one.getLast? with
      | none =>
        rw [List.getLast?_eq_none_iff] at e
        subst e
        refine ⟨_, rfl, fun _ => ⟨rfl, rfl⟩, fun h => by simp at h⟩
      | some z =>
        have hne : one ≠ [] := fun h => by rw [h] at e; simp at e
        refine ⟨_, rfl, fun h => absurd (of_decide_eq_true h) hne, fun _ => ?_⟩
        walk_at "w"
        refine wo_ixL (atI_last e) ?_
        walk_at "w"
        refine ⟨?_, rfl⟩
        unfold ext
        rw [e]
    · have hl1 := (chs_ok ho).1
      unfold ce_choices_1
      walk_at "w"
      refine vo_addL (by rw [List.length_map]; simp; omega) ?_
      refine ⟨?_, rfl⟩
      unfold rowL
      rw [List.map_append]
      rfl
    walk_at "w"
    refine ⟨[_, _], rfl, rfl, rfl, some d, ?_⟩
    rw [show chs nums (t + 1) = (chs nums t).flatMap fun one => (nums.filter (ext one)).map fun j => one ++ [j] from rfl, List.map_flatMap]
    simp only [List.map_map]
    rfl
  · rintro vs S' hv ⟨rfl, d3, rfl⟩
    rw [hlen]
    walk_at "w"
    exact ⟨by simp only [noRef]; exact noRefs_rowL _, q⟩
end LK
set_option Elab.async false
set_option linter.all false
set_option maxRecDepth 100000
set_option maxHeartbeats 4000000
namespace LK
open DL LE LH LG
local macro_rules | `(tactic| walk_at "w1") => `(tactic| with_reducible first
  | (refine ws_then ?_; try with_reducible dsimp only [List.set_cons_zero, List.set_cons_succ]) | refine ws_seq ?_ | refine ws_asg ?_ | refine ws_expr ?_ | refine ws_ret ?_ | refine ws_if ?_ | refine ws_asgT ?_ | refine ws_skip ?_ | refine ws_retN ?_ | refine ws_brk ?_ | refine ws_cont ?_ | refine ws_thenR ?_ | refine ws_thenB ?_ | refine ws_thenC ?_ | refine fq_rt ?_ | refine fq_nx ?_ | refine un_nx ?_ | refine un_ct ?_ | refine un_bk ?_ | refine un_rt ?_ | refine ws_loopN ?_
  | (refine ws_loopC (ρ1 := ?r) ?h ?q; (case h => with_unfolding_all rfl); try with_reducible dsimp only [List.set_cons_zero, List.set_cons_succ])
  | refine wp_c ?_ | refine wp_op2 ?_ | refine wp_fn ?_ | refine wp_cons ?_ | refine wp_nil ?_ | refine wp_call ?_ | refine wp_op1 ?_
  | (refine wp_var (d := ?d) ?h ?q; (case h => with_unfolding_all rfl))
  | (refine ws_aug (d := ?d) ?h ?q; (case h => with_unfolding_all rfl))
  | refine wp_tup ?_ | refine wp_lst ?_ | refine wp_lstM ?_ | refine wp_listM ?_
  | refine wp_sl0 ?_ | refine wp_sl1 ?_ | refine wp_sl2 ?_ | refine wp_sl3 ?_
  | refine wp_tval ?_ | refine wp_tnot ?_ | refine wp_tand ?_ | refine wp_tor ?_ | refine wp_tyes ?_ | refine wp_and ?_ | refine wp_or ?_ | refine wp_not ?_ | refine wp_ifx ?_ | refine wp_chain ?_ | refine wp_meth ?_ | refine wp_meth0 ?_
  | refine wp_isi ?_ | refine wp_isis ?_ | refine wp_repr ?_ | refine wp_maxD ?_ | refine wi_rng3 ?_
  | refine ws_par ?_ | refine wp_dnew ?_ | refine wp_get2 ?_ | refine wp_reprQ ?_ | refine wp_fnK ?_ | refine wi_valsI ?_ | refine wi_itemsI ?_ | refine ws_augI ?_
  | refine wi_seq ?_ | refine wi_rng1 ?_ | refine wi_rng2 ?_ | refine wi_zip2 ?_ | refine wi_zipS ?_
  | (refine wp_fnB (ρ := ?ρ) ?he ?_; (case he => (simp only [List.map_cons, List.map_nil, List.length_cons, List.length_nil, List.replicate, List.cons_append, List.nil_append, Nat.reduceAdd, Nat.reduceSub]; rfl))))
local macro_rules | `(tactic| walk_at "w2") => `(tactic| ((with_reducible refine wo_id ?_); with_reducible first
  | refine vo_sub ?_ | refine vo_add ?_ | refine vo_lt ?_ | refine vo_le ?_ | refine vo_gt ?_ | refine vo_ge ?_ | refine vo_eq ?_ | refine vo_ne ?_ | refine vo_eqS ?_ | refine vo_neS ?_ | refine vo_eqB ?_ | refine vo_neB ?_ | refine vo_neg ?_ | refine vo_slT ?_ | refine vo_slL ?_ | refine vo_slS ?_ | refine vo_lenT ?_ | refine vo_lenL ?_ | refine vo_lenS ?_ | refine vo_revT ?_ | refine vo_revL ?_ | refine vo_min ?_ | refine vo_max ?_ | refine vo_tupL ?_ | refine vo_tupT ?_ | refine vo_lisL ?_ | refine vo_lisT ?_
  | refine vo_igAdd ?_ | refine vo_igMulR (by omega) ?_ | refine vo_igMulL (by omega) ?_ | refine vo_mod (by omega) ?_ | refine vo_div (by omega) ?_ | refine vo_mulR (by omega) ?_ | refine vo_mulL (by omega) ?_
  | refine vo_ixL0 ?_ | refine vo_ixL1 ?_ | refine vo_ixL2 ?_ | refine vo_ixL3 ?_ | refine vo_ixL4 ?_ | refine vo_ixL5 ?_ | refine vo_ixL6 ?_ | refine vo_ixT0 ?_ | refine vo_ixT1 ?_ | refine vo_ixT2 ?_ | refine vo_ixT3 ?_ | refine vo_ixT4 ?_ | refine vo_ixT5 ?_ | refine vo_ixT6 ?_
  | refine vo_inT ?_ | refine vo_ninT ?_ | refine vo_inL ?_ | refine vo_ninL ?_ | refine vo_inI ?_ | refine vo_ninI ?_ | refine vo_sortI (by first | assumption | omega) ?_ | refine vo_sortL ?_ | refine vo_lenI ?_ | refine vo_lt3 ?_ | refine vo_isNN ?_ | refine vo_is3N ?_ | refine vo_isTN ?_ | refine vo_isIN ?_ | refine vo_igAddI ?_ | refine vo_ixI (by assumption) ?_
  | refine vo_vwD1 (by assumption) ?_ | refine vo_vwDc (by assumption) ?_
  | refine wo_vw1 (by assumption) ?_ | refine wo_vw2 (by assumption) ?_ | refine vo_vwc (by assumption) ?_
  | (refine vo_isi (c := ?c) ?h ?q; (case h => with_unfolding_all rfl)) | (refine vo_isis (c := ?c) ?h ?q; (case h => with_unfolding_all rfl))))
local macro_rules | `(tactic| walk_at "w3") => `(tactic| first
  | with_reducible refine ite_f ?_ | with_reducible refine ite_nt ?_ | with_reducible refine ite_nf ?_ | with_reducible refine ite_t ?_
  | ((with_reducible refine ex_id ?_); refine ⟨_, rfl, ?_⟩) | ((with_reducible refine and_id ?_); refine ⟨Nat.le_of_ble_eq_true rfl, ?_⟩))
local macro_rules | `(tactic| walk_at "w") => `(tactic| repeat (first | walk_at "w1" | walk_at "w2" | walk_at "w3"))
def vanR (ws : List Int) : List Int := ws.foldl (fun f j => lift f (j + 1)) [1]
theorem vanR_len (ws : List Int) : (vanR ws).length = ws.length + 1 := by
  unfold vanR
  suffices h : ∀ (ws f : List Int), (ws.foldl (fun f j => lift f (j + 1)) f).length = f.length + ws.length by
    rw [h]; simp; omega
  intro ws
  induction ws with
  | nil => intro f; simp
  | cons j ws ih => intro f; rw [List.foldl_cons, ih, lift_len, List.length_cons]; omega
theorem wp_vanishing {S : Sto} {ws : List Int} (hw : ∀ j ∈ ws, 0 ≤ j ∧ j < 100) (hl : ws.length ≤ 100) {Q : D → Sto → Prop} {E : Px} (q : Q (.tup ((vanR ws).map .int)) S) : Wp (d_vanishing [.lst (ws.map .int)] S) Q E := by
  refine wp_fnP (by simp [noRefs, noRef, noRefs_int]) ?_
  unfold b_vanishing
  walk_at "w"
  unfold l_vanishing_1
  refine ws_for [1, 2] ?_
  walk_at "w"
  refine ⟨_, Or.inr rfl, ?_⟩
  refine ⟨fun t vs S' => S' = [] ∧ ∃ d2, vs = [some (.tup ((vanR (ws.take t)).map .int)), d2], [some (.tup [.int 1]), none], rfl, rfl, ⟨rfl, none, by simp [vanR]⟩, ?_, ?_⟩
  · rintro t d vs S' ht hv ⟨rfl, d2, rfl⟩
    have ht' := (List.getElem?_eq_some_iff.mp ht).1
    rw [List.length_map] at ht'
    rw [List.getElem?_map] at ht
    obtain ⟨j, hj, rfl⟩ := Option.map_eq_some_iff.mp ht
    have hjr := hw j (List.mem_of_getElem? hj)
    have hst : vanR (ws.take (t + 1)) = lift (vanR (ws.take t)) (j + 1) := foldl_take (f := fun f j => lift f (j + 1)) hj
    have hvl := vanR_len (ws.take t)
    rw [List.length_take] at hvl
    refine ⟨_, rfl, ?_⟩
    dsimp only [putAll, List.set_cons_zero, List.set_cons_succ]
    unfold lb_vanishing_1
    walk_at "w"
    refine wp_lifted (by omega) (by omega) ?_
    walk_at "w"
    refine ⟨[_, _], rfl, rfl, rfl, some (.int j), ?_⟩
    rw [hst]
  · rintro vs S' hv ⟨rfl, d2, rfl⟩
    rw [List.length_map, List.take_length] at *
    walk_at "w"
    exact ⟨by simp only [noRef]; exact noRefs_int _, q⟩
def nums (l : List (Int × List Int)) : List Int := isI (l.map (·.1))
theorem nums_len (l : List (Int × List Int)) : (nums l).length = l.length := by unfold nums; rw [isI_len, List.length_map]
theorem nums_mem {l : List (Int × List Int)} {j : Int} : j ∈ nums l ↔ j ∈ l.map (·.1) := (isI_perm _).mem_iff
theorem nums_nd {l : List (Int × List Int)} (h : (l.map (·.1)).Nodup) : (nums l).Nodup := (isI_perm _).nodup_iff.mpr h
theorem nums_nums {n c : Nat} {l : List (Int × List Int)} (hl : Sm n c l) (h : (l.map (·.1)).Nodup) : Nums n (nums l) := ⟨fun j hj => by
  obtain ⟨v, hv⟩ := getA_has (nums_mem.mp hj)
  exact hl.key _ (getA_mem hv), nums_nd h⟩
/-- few shards -/
def fewD (n k size : Nat) (l : List (Int × List Int)) : D :=
  if wrongL n k (rby k size l (nums l)) l = [] then .tup [.str "few", rowD (rby k size l (nums l)), rowD (sums (rby k size l (nums l)) (vanR (nums l)))] else .tup [.str "doubt"]
def okR (n k size : Nat) (l : List (Int × List Int)) (r : List Int) : Bool := decide (2 * (wrongL n k r l).length + min k size ≤ l.length)
def toldF (n k size : Nat) (l : List (Int × List Int)) : Option (List Int) :=
  if wrongL n k (rby k size l ((nums l).take (min k size))) l = [] then some (rby k size l ((nums l).take (min k size)))
  else ((chs (nums l) (min k size)).map (rby k size l)).find? (okR n k size l)
def toldD (n k size : Nat) (l : List (Int × List Int)) : D :=
  if l.length < min k size then fewD n k size l else match toldF n k size l with
    | some r => .tup [.str "row", rowD r, .lst ((wrongL n k r l).map .int)]
    | none => .tup [.str "doubt"]
theorem wp_few_by {S : Sto} {n k size : Nat} {l : List (Int × List Int)} (hk : 1 ≤ k ∧ k ≤ 8) (hn : n ≤ 8) (hs : size ≤ 1300) (hr : rgN 0 size k < 4000) (hl : Sm n (rgN 0 size k) l) (hnd : (l.map (·.1)).Nodup) {Q : D → Sto → Prop} {E : Px}
    (q : Q (fewD n k size l) S) : Wp (d_few_by [.tup [.int n, .int k], .int size, dA rowD l] S) Q E := by
  have hll := hl.len
  have hnn := nums_nums hl hnd
  have hnl := nums_len l
  refine wp_fnP (by simp [noRefs, noRef, noRef_A]) ?_
  unfold b_few_by
  walk_at "w"
  refine vo_sortA (by omega) ?_
  walk_at "w"
  rw [show isI (l.map (·.1)) = nums l from rfl]
  refine wp_row_by hk hn hs hr hl (fun j hj => nums_mem.mp hj) hnn.nd ?_
  have hrl := rby_len (size := size) hk.1 (l := l) (ws := nums l)
  unfold fewD at q
  generalize rby k size l (nums l) = r at *
  walk_at "w"
  unfold i_few_by_1
  walk_at "w"
  refine wp_wrong_in (by omega) hn (by omega) hl ?_
  walk_at "w"
  refine .of (neD_of (eqD_lstI (wrongL n k r l) [])) ?_
  walk_at "w"
  refine ite_nd (fun h => ?_) (fun h => ?_)
  · rw [if_neg h] at q
    walk_at "w"
    exact ⟨rfl, q⟩
  · rw [if_pos h] at q
    walk_at "w"
    refine wp_vanishing (fun j hj => by have := hnn.rng j hj; omega) (by omega) ?_
    walk_at "w"
    refine LS.wp_added (by omega) (by rw [vanR_len]; omega) ?_
    walk_at "w"
    exact ⟨by simp [noRef, noRefs, noRefs_int], q⟩
theorem wp_told_by {S : Sto} {n k size : Nat} {l : List (Int × List Int)} (hk : 1 ≤ k ∧ k ≤ 8) (hn : n ≤ 8) (hs : size ≤ 1300) (hr : rgN 0 size k < 4000) (hl : Sm n (rgN 0 size k) l) (hnd : (l.map (·.1)).Nodup) {Q : D → Sto → Prop} {E : Px}
    (q : Q (toldD n k size l) S) : Wp (d_told_by [.tup [.int n, .int k], .int size, dA rowD l] S) Q E := by
  have hll := hl.len
  have hnn := nums_nums hl hnd
  have hnl := nums_len l
  refine wp_fnP (by simp [noRefs, noRef, noRef_A]) ?_
  unfold b_told_by
  walk_at "w"
  refine wp_need ?_
  have hnd2 : (if (size : Int) < (k : Int) then (size : Int) else (k : Int)) = ((min k size : Nat) : Int) := by rw [Nat.min_def]; split <;> split <;> omega
  rw [hnd2]
  generalize hm : min k size = m at *
  walk_at "w"
  unfold i_told_by_1
  walk_at "w"
  refine vo_lenA ?_
  walk_at "w"
  refine ite_d (fun h => ?_) (fun h => ?_)
  · walk_at "w"
    refine wp_few_by hk hn hs hr hl hnd ?_
    walk_at "w"
    unfold toldD at q
    rw [hm, if_pos (by omega)] at q
    refine ⟨?_, q⟩
    unfold fewD
    split
    · simp [noRef, noRefs, rowD, noRefs_int]
    · rfl
  · walk_at "w"
    unfold toldD at q
    rw [hm, if_neg (by omega)] at q
    refine vo_sortA (by omega) ?_
    rw [show isI (l.map (·.1)) = nums l from rfl]
    walk_at "w"
    rw [cut_map, cutL_take _ _ (by omega), Int.toNat_natCast]
    refine wp_row_by hk hn hs hr hl (fun j hj => nums_mem.mp (List.mem_of_mem_take hj)) (hnn.take _).nd ?_
    have hrl := rby_len (size := size) hk.1 (l := l) (ws := (nums l).take m)
    unfold toldF at q
    rw [hm] at q
    generalize rby k size l ((nums l).take m) = r at *
    walk_at "w"
    unfold i_told_by_2
    walk_at "w"
    refine wp_wrong_in (by omega) hn (by omega) hl ?_
    walk_at "w"
    refine .of (eqD_lstI (wrongL n k r l) []) ?_
    walk_at "w"
    refine ite_d (fun h => ?_) (fun h => ?_)
    · rw [if_pos h] at q
      dsimp only at q
      rw [h] at q
      walk_at "w"
      exact ⟨by simp [noRef, noRefs, noRefs_int], q⟩
    · rw [if_neg h] at q
      walk_at "w"
      unfold l_told_by_1
      refine ws_for [4, 5, 6] ?_
      walk_at "w"
      refine vo_sortA (by omega) ?_
      rw [show isI (l.map (·.1)) = nums l from rfl]
      walk_at "w"
      refine wp_choices (by omega) (by omega) ?_
      walk_at "w"
      refine ⟨_, Or.inr rfl, ?_⟩
      refine ⟨fun t vs S' => S' = [] ∧ ∃ (d4 d5 d6 : Option D), vs = [d4, d5, d6] ∧ (((chs (nums l) m).take t).map (rby k size l)).find? (okR n k size l) = none, [some (.tup (r.map .int)), none, none], rfl, rfl, ⟨rfl, _, none, none, rfl, by simp⟩, ?_, ?_⟩
      · rintro t d vs S' ht hv ⟨rfl, d4, d5, d6, rfl, hno⟩
        rw [List.getElem?_map] at ht
        obtain ⟨c, hc, rfl⟩ := Option.map_eq_some_iff.mp ht
        have htk : (chs (nums l) m).take (t + 1) = (chs (nums l) m).take t ++ [c] := by rw [List.take_succ, hc]; rfl
        have hcm := List.mem_of_getElem? hc
        obtain ⟨c1, c2, c3⟩ := chs_ok hcm
        refine ⟨_, rfl, ?_⟩
        dsimp only [putAll, List.set_cons_zero, List.set_cons_succ]
        unfold lb_told_by_1
        walk_at "w"
        refine wp_row_by hk hn hs hr hl (fun j hj => nums_mem.mp (c3 j hj)) (c2.imp fun {a b} hab e => by omega) ?_
        have hrl2 := rby_len (size := size) hk.1 (l := l) (ws := c)
        have hok : okR n k size l (rby k size l c) = decide (2 * (wrongL n k (rby k size l c) l).length + m ≤ l.length) := by unfold okR; rw [hm]
        have hfind : okR n k size l (rby k size l c) = true → ((chs (nums l) m).map (rby k size l)).find? (okR n k size l) = some (rby k size l c) := fun ho => by
          have e : chs (nums l) m = (chs (nums l) m).take t ++ (c :: (chs (nums l) m).drop (t + 1)) := by
            have h1 := (List.take_append_drop t (chs (nums l) m)).symm
            rw [List.drop_eq_getElem_cons (List.getElem?_eq_some_iff.mp hc).1, (List.getElem?_eq_some_iff.mp hc).2] at h1
            exact h1
          rw [e, List.map_append, List.find?_append, hno, List.map_cons, List.find?_cons, ho]
          rfl
        have hnext : okR n k size l (rby k size l c) = false → (((chs (nums l) m).take (t + 1)).map (rby k size l)).find? (okR n k size l) = none := fun ho => by
          rw [htk, List.map_append, List.find?_append, hno, List.map_singleton, List.find?_cons, ho]
          rfl
        generalize rby k size l c = r2 at *
        walk_at "w"
        refine wp_wrong_in (by omega) hn (by omega) hl ?_
        walk_at "w"
        unfold i_told_by_3
        have hwl : (wrongL n k r2 l).length ≤ 8 := by
          have := List.length_filter_le (fun j => !decide (getA l j = (shs n k r2)[j.toNat]?)) (isI (l.map (·.1)))
          unfold wrongL
          rw [isI_len, List.length_map] at this
          omega
        walk_at "w"
        refine vo_lenA ?_
        walk_at "w"
        rw [List.length_map]
        refine ite_d (fun h => ?_) (fun h => ?_)
        · have ho : okR n k size l r2 = true := by rw [hok]; exact decide_eq_true (by omega)
          rw [hfind ho] at q
          walk_at "w"
          exact ⟨by simp [noRef, noRefs, noRefs_int], q⟩
        · have ho : okR n k size l r2 = false := by rw [hok]; exact decide_eq_false (by omega)
          walk_at "w"
          exact ⟨[_, _, _], rfl, rfl, rfl, some (.tup (r2.map .int)), some (rowL c), some (.lst ((wrongL n k r2 l).map .int)), rfl, hnext ho⟩
      · rintro vs S' hv ⟨rfl, d4, d5, d6, rfl, hno⟩
        rw [List.length_map, List.take_length] at hno
        rw [hno] at q
        walk_at "w"
        exact ⟨rfl, q⟩
end LK
set_option Elab.async false
set_option linter.all false
set_option maxRecDepth 100000
set_option maxHeartbeats 4000000
namespace LK
open DL LE LH LG
theorem filter_two {α : Type} (p q : α → Bool) : ∀ L : List α, L.length ≤ (L.filter fun x => p x && q x).length + (L.filter fun x => !p x).length + (L.filter fun x => !q x).length
  | [] => by simp
  | x :: L => by
    have ih := filter_two p q L
    rw [List.filter_cons, List.filter_cons, List.filter_cons]
    cases p x <;> cases q x <;> simp <;> omega
theorem filter_one {α : Type} (p : α → Bool) : ∀ L : List α, L.length = (L.filter p).length + (L.filter fun x => !p x).length
  | [] => by simp
  | x :: L => by
    have ih := filter_one p L
    rw [List.filter_cons, List.filter_cons]
    cases p x <;> simp <;> omega
/-- where a row has the shards -/
def agr (n k : Nat) (xs : List Int) (l : List (Int × List Int)) (j : Int) : Bool := decide (getA l j = (shs n k xs)[j.toNat]?)
theorem wrong_agr (n k : Nat) (xs : List Int) (l : List (Int × List Int)) : wrongL n k xs l = (nums l).filter fun j => !agr n k xs l j := rfl
theorem ok_uniq {n k size c : Nat} {l : List (Int × List Int)} (hk : 1 ≤ k) (hn : n ≤ 30) (hl : Sm n c l) (hnd : (l.map (·.1)).Nodup) {xs ys : List Int} (hx : Row xs) (hxs : xs.length = size) (hy : Row ys) (hys : ys.length = size)
    (h1 : okR n k size l xs = true) (h2 : okR n k size l ys = true) : xs = ys := by
  have h1 := of_decide_eq_true h1
  have h2 := of_decide_eq_true h2
  rw [wrong_agr] at h1 h2
  have hnn := nums_nums hl hnd
  have hf := filter_two (agr n k xs l) (agr n k ys l) (nums l)
  rw [nums_len] at hf
  refine shs_uniq hk hn hx hy (hxs.trans hys.symm) (R := (nums l).filter fun x => agr n k xs l x && agr n k ys l x) ⟨fun j hj => hnn.rng j (List.mem_filter.mp hj).1, hnn.nd.sublist List.filter_sublist⟩ (by rw [hxs]; omega) ?_
  intro j hj
  have := (List.mem_filter.mp hj).2
  simp only [Bool.and_eq_true, agr, decide_eq_true_eq] at this
  rw [← this.1, ← this.2]
theorem nums_lt {l : List (Int × List Int)} (h : (l.map (·.1)).Nodup) : (nums l).Pairwise (· < ·) := by
  have h1 : (nums l).Pairwise (· ≤ ·) := isI_pw _
  have h2 : (nums l).Pairwise (· ≠ ·) := nums_nd h
  exact (h1.and h2).imp fun {a b} h => by omega
theorem told_ok {n k size : Nat} {l : List (Int × List Int)} (hk : 1 ≤ k) (hn : n ≤ 30) (hl : Sm n (rgN 0 size k) l) (hnd : (l.map (·.1)).Nodup) {r : List Int} (hm : min k size ≤ l.length) (h : toldF n k size l = some r) : okR n k size l r = true ∧ Row r ∧ r.length = size := by
  unfold toldF at h
  split at h
  · rename_i h0
    cases h
    exact ⟨by unfold okR; rw [h0]; exact decide_eq_true (by simpa using hm), rby_row, rby_len hk⟩
  · have h1 := List.find?_some h
    have h2 := List.mem_of_find?_eq_some h
    obtain ⟨c, _, rfl⟩ := List.mem_map.mp h2
    exact ⟨h1, rby_row, rby_len hk⟩
/-- the right row is told -/
theorem told_good {n k size : Nat} {l : List (Int × List Int)} (hk : 1 ≤ k) (hn : n ≤ 30) (hl : Sm n (rgN 0 size k) l) (hnd : (l.map (·.1)).Nodup) {xs : List Int} (hx : Row xs) (hxs : xs.length = size) (h1 : okR n k size l xs = true) : toldF n k size l = some xs := by
  have hm : min k size ≤ l.length := by have := of_decide_eq_true h1; omega
  cases h : toldF n k size l with
  | some r =>
    obtain ⟨a, b, c⟩ := told_ok hk hn hl hnd hm h
    rw [ok_uniq hk hn hl hnd b c hx hxs a h1]
  | none =>
    exfalso
    have hnn := nums_nums hl hnd
    unfold toldF at h
    split at h
    · cases h
    · have h2 := List.find?_eq_none.mp h
      have h3 := of_decide_eq_true h1
      rw [wrong_agr] at h3
      have h4 := filter_one (agr n k xs l) (nums l)
      rw [nums_len] at h4
      have hc := chs_all (nums := nums l) (min k size) (((nums l).filter (agr n k xs l)).take (min k size)) (by rw [List.length_take]; omega) ((nums_lt hnd).sublist ((List.take_sublist _ _).trans List.filter_sublist)) fun j hj => (List.mem_filter.mp (List.mem_of_mem_take hj)).1
      have hr : rby k size l (((nums l).filter (agr n k xs l)).take (min k size)) = xs := by
        refine rby_uniq hk hn hl ⟨fun j hj => hnn.rng j (List.mem_filter.mp (List.mem_of_mem_take hj)).1, hnn.nd.sublist ((List.take_sublist _ _).trans List.filter_sublist)⟩ (by rw [List.length_take]; omega) hx hxs fun j hj => ?_
        have := (List.mem_filter.mp (List.mem_of_mem_take (List.mem_of_mem_take hj))).2
        exact of_decide_eq_true this
      exact h2 _ (List.mem_map.mpr ⟨_, hc, hr⟩) h1
theorem told_row {n k size : Nat} {l : List (Int × List Int)} (hk : 1 ≤ k) (hn : n ≤ 30) (hl : Sm n (rgN 0 size k) l) (hnd : (l.map (·.1)).Nodup) {xs : List Int} (hx : Row xs) (hxs : xs.length = size) (h1 : okR n k size l xs = true) : toldD n k size l = .tup [.str "row", rowD xs, .lst ((wrongL n k xs l).map .int)] := by
  have hm : min k size ≤ l.length := by have := of_decide_eq_true h1; omega
  unfold toldD
  rw [if_neg (by omega), told_good hk hn hl hnd hx hxs h1]
end LK
set_option Elab.async false
set_option linter.all false
set_option maxRecDepth 100000
set_option maxHeartbeats 4000000
namespace LG
open DL LE LH
local macro_rules | `(tactic| walk_at "w1") => `(tactic| with_reducible first
  | (refine ws_then ?_; try with_reducible dsimp only [List.set_cons_zero, List.set_cons_succ]) | refine ws_seq ?_ | refine ws_asg ?_ | refine ws_expr ?_ | refine ws_ret ?_ | refine ws_if ?_ | refine ws_asgT ?_ | refine ws_skip ?_ | refine ws_retN ?_ | refine ws_brk ?_ | refine ws_cont ?_ | refine ws_thenR ?_ | refine ws_thenB ?_ | refine ws_thenC ?_ | refine fq_rt ?_ | refine fq_nx ?_ | refine un_nx ?_ | refine un_ct ?_ | refine un_bk ?_ | refine un_rt ?_ | refine ws_loopN ?_
  | (refine ws_loopC (ρ1 := ?r) ?h ?q; (case h => with_unfolding_all rfl); try with_reducible dsimp only [List.set_cons_zero, List.set_cons_succ])
  | refine wp_c ?_ | refine wp_op2 ?_ | refine wp_fn ?_ | refine wp_cons ?_ | refine wp_nil ?_ | refine wp_call ?_ | refine wp_op1 ?_
  | (refine wp_var (d := ?d) ?h ?q; (case h => with_unfolding_all rfl))
  | (refine ws_aug (d := ?d) ?h ?q; (case h => with_unfolding_all rfl))
  | refine wp_tup ?_ | refine wp_lst ?_ | refine wp_lstM ?_ | refine wp_listM ?_
  | refine wp_sl0 ?_ | refine wp_sl1 ?_ | refine wp_sl2 ?_ | refine wp_sl3 ?_
  | refine wp_tval ?_ | refine wp_tnot ?_ | refine wp_tand ?_ | refine wp_tor ?_ | refine wp_tyes ?_ | refine wp_and ?_ | refine wp_or ?_ | refine wp_not ?_ | refine wp_ifx ?_ | refine wp_chain ?_ | refine wp_meth ?_ | refine wp_meth0 ?_
  | refine wp_isi ?_ | refine wp_isis ?_ | refine wp_repr ?_ | refine wp_maxD ?_ | refine wi_rng3 ?_
  | refine ws_par ?_ | refine wp_dnew ?_ | refine wp_get2 ?_ | refine wp_reprQ ?_ | refine wp_fnK ?_ | refine wi_valsI ?_ | refine wi_itemsI ?_ | refine ws_augI ?_
  | refine wi_seq ?_ | refine wi_rng1 ?_ | refine wi_rng2 ?_ | refine wi_zip2 ?_ | refine wi_zipS ?_
  | (refine wp_fnB (ρ := ?ρ) ?he ?_; (case he => (simp only [List.map_cons, List.map_nil, List.length_cons, List.length_nil, List.replicate, List.cons_append, List.nil_append, Nat.reduceAdd, Nat.reduceSub]; rfl))))
local macro_rules | `(tactic| walk_at "w2") => `(tactic| ((with_reducible refine wo_id ?_); with_reducible first
  | refine vo_sub ?_ | refine vo_add ?_ | refine vo_lt ?_ | refine vo_le ?_ | refine vo_gt ?_ | refine vo_ge ?_ | refine vo_eq ?_ | refine vo_ne ?_ | refine vo_eqS ?_ | refine vo_neS ?_ | refine vo_eqB ?_ | refine vo_neB ?_ | refine vo_neg ?_ | refine vo_slT ?_ | refine vo_slL ?_ | refine vo_slS ?_ | refine vo_lenT ?_ | refine vo_lenL ?_ | refine vo_lenS ?_ | refine vo_revT ?_ | refine vo_revL ?_ | refine vo_min ?_ | refine vo_max ?_ | refine vo_tupL ?_ | refine vo_tupT ?_ | refine vo_lisL ?_ | refine vo_lisT ?_
  | refine vo_igAdd ?_ | refine vo_igMulR (by omega) ?_ | refine vo_igMulL (by omega) ?_ | refine vo_mod (by omega) ?_ | refine vo_div (by omega) ?_ | refine vo_mulR (by omega) ?_ | refine vo_mulL (by omega) ?_
  | refine vo_ixL0 ?_ | refine vo_ixL1 ?_ | refine vo_ixL2 ?_ | refine vo_ixL3 ?_ | refine vo_ixL4 ?_ | refine vo_ixL5 ?_ | refine vo_ixL6 ?_ | refine vo_ixT0 ?_ | refine vo_ixT1 ?_ | refine vo_ixT2 ?_ | refine vo_ixT3 ?_ | refine vo_ixT4 ?_ | refine vo_ixT5 ?_ | refine vo_ixT6 ?_
  | refine vo_inT ?_ | refine vo_ninT ?_ | refine vo_inL ?_ | refine vo_ninL ?_ | refine vo_inI ?_ | refine vo_ninI ?_ | refine vo_sortI (by first | assumption | omega) ?_ | refine vo_sortL ?_ | refine vo_lenI ?_ | refine vo_lt3 ?_ | refine vo_isNN ?_ | refine vo_is3N ?_ | refine vo_isTN ?_ | refine vo_isIN ?_ | refine vo_igAddI ?_ | refine vo_ixI (by assumption) ?_
  | refine vo_vwD1 (by assumption) ?_ | refine vo_vwDc (by assumption) ?_
  | refine wo_vw1 (by assumption) ?_ | refine wo_vw2 (by assumption) ?_ | refine vo_vwc (by assumption) ?_
  | (refine vo_isi (c := ?c) ?h ?q; (case h => with_unfolding_all rfl)) | (refine vo_isis (c := ?c) ?h ?q; (case h => with_unfolding_all rfl))))
local macro_rules | `(tactic| walk_at "w3") => `(tactic| first
  | with_reducible refine ite_f ?_ | with_reducible refine ite_nt ?_ | with_reducible refine ite_nf ?_ | with_reducible refine ite_t ?_
  | ((with_reducible refine ex_id ?_); refine ⟨_, rfl, ?_⟩) | ((with_reducible refine and_id ?_); refine ⟨Nat.le_of_ble_eq_true rfl, ?_⟩))
local macro_rules | `(tactic| walk_at "w") => `(tactic| repeat (first | walk_at "w1" | walk_at "w2" | walk_at "w3"))
theorem lt_of_at {α : Type} {l : List α} {i : Nat} {x : α} (h : l[i]? = some x) : i < l.length := (List.getElem?_eq_some_iff.mp h).1
end LG
set_option Elab.async false
set_option linter.all false
set_option maxRecDepth 100000
set_option maxHeartbeats 4000000
namespace DL
open PySem
structure QD (r : Nat → Option PyData) (d : D) (p : PyData) (w h : Nat) : Prop where
  e : toQr r d = some p
  s : smP p = true
  w : wtP p ≤ w
  h : p.depth ≤ h
structure QDs (r : Nat → Option PyData) (ds : List D) (ps : List PyData) (w h : Nat) : Prop where
  e : toQrs r ds = some ps
  s : smPs ps = true
  w : wtPs ps ≤ w
  h : PyData.depthAll ps ≤ h
structure QDk (r : Nat → Option PyData) (kvs : List (D × D)) (ps : List (PyData × PyData)) (w h : Nat) : Prop where
  e : toQrk r kvs = some ps
  s : smPk ps = true
  w : wtPk ps ≤ w
  h : PyData.depthKv ps ≤ h
section
variable {r : Nat → Option PyData}
theorem QD.mono {d : D} {p : PyData} {w h w' h' : Nat} (q : QD r d p w h) (hw : w ≤ w') (hh : h ≤ h') : QD r d p w' h' := ⟨q.e, q.s, Nat.le_trans q.w hw, Nat.le_trans q.h hh⟩
theorem QDs.mono {d : List D} {p : List PyData} {w h w' h' : Nat} (q : QDs r d p w h) (hw : w ≤ w') (hh : h ≤ h') : QDs r d p w' h' := ⟨q.e, q.s, Nat.le_trans q.w hw, Nat.le_trans q.h hh⟩
theorem QD.non : QD r .non .none 1 0 := ⟨by simp only [toQr], rfl, by simp [wtP], by simp [PyData.depth]⟩
theorem QD.bl (b : Bool) : QD r (.bl b) (.bool b) 1 0 := ⟨by simp only [toQr], rfl, by simp [wtP], by simp [PyData.depth]⟩
theorem QD.int {i : Int} (h : -1000000000000000000000000000000000000000000 ≤ i ∧ i ≤ 1000000000000000000000000000000000000000000) : QD r (.int i) (.int i) 1 0 := ⟨by simp only [toQr], by simp only [smP]; exact decide_eq_true (by omega), by simp [wtP], by simp [PyData.depth]⟩
theorem QD.str {x : Str} (h : (reprText x).length ≤ 14) : QD r (.str x) (.str x) 1 0 := ⟨by simp only [toQr], by simp only [smP], by simp only [wtP]; omega, by simp [PyData.depth]⟩
theorem QD.tup {ds : List D} {ps : List PyData} {w h : Nat} (q : QDs r ds ps w h) : QD r (.tup ds) (.tuple ps) (1 + w) (h + 1) := ⟨by simp only [toQr, q.e, Option.map_some], by simp only [smP]; exact q.s, by have := q.w; simp only [wtP]; omega, by have := q.h; simp only [PyData.depth]; omega⟩
theorem QD.lst {ds : List D} {ps : List PyData} {w h : Nat} (q : QDs r ds ps w h) : QD r (.lst ds) (.list ps) (1 + w) (h + 1) := ⟨by simp only [toQr, q.e, Option.map_some], by simp only [smP]; exact q.s, by have := q.w; simp only [wtP]; omega, by have := q.h; simp only [PyData.depth]; omega⟩
theorem QD.dic {ds : List (D × D)} {ps : List (PyData × PyData)} {w h : Nat} (q : QDk r ds ps w h) : QD r (.dic false ds) (.dict ps) (1 + w) (h + 1) := ⟨by simp only [toQr, q.e, Option.map_some], by simp only [smP]; exact q.s, by have := q.w; simp only [wtP]; omega, by have := q.h; simp only [PyData.depth]; omega⟩
theorem QDs.nil {h : Nat} : QDs r [] [] 0 h := ⟨by simp only [toQrs], rfl, by simp [wtPs], by simp [PyData.depthAll]⟩
theorem QDs.cons {d : D} {p : PyData} {ds : List D} {ps : List PyData} {w w' h : Nat} (q : QD r d p w h) (q' : QDs r ds ps w' h) : QDs r (d :: ds) (p :: ps) (w + w') h :=
  ⟨by simp only [toQrs, q.e, q'.e], by simp only [smPs, q.s, q'.s, Bool.and_self], by have := q.w; have := q'.w; simp only [wtPs]; omega, by have := q.h; have := q'.h; simp only [PyData.depthAll]; omega⟩
theorem QDk.nil {h : Nat} : QDk r [] [] 0 h := ⟨by simp only [toQrk], rfl, by simp [wtPk], by simp [PyData.depthKv]⟩
theorem QDk.cons {k d : D} {kp p : PyData} {ds : List (D × D)} {ps : List (PyData × PyData)} {w w' h : Nat} (hk : keyP k = some kp) (hks : smP kp = true) (hkw : wtP kp ≤ 1) (hkd : kp.depth ≤ h) (q : QD r d p w h) (q' : QDk r ds ps w' h) : QDk r ((k, d) :: ds) ((kp, p) :: ps) (1 + w + w') h :=
  ⟨by simp only [toQrk, hk, q.e, q'.e], by simp only [smPk, hks, q.s, q'.s, Bool.and_self], by have := q.w; have := q'.w; simp only [wtPk]; omega, by have := q.h; have := q'.h; simp only [PyData.depthKv]; omega⟩
/-- things alike -/
theorem QDs.map {α : Type} (f : α → D) (g : α → PyData) (w h : Nat) : ∀ l : List α, (∀ x ∈ l, QD r (f x) (g x) w h) → QDs r (l.map f) (l.map g) (w * l.length) h
  | [], _ => QDs.nil.mono (by simp) (Nat.le_refl _)
  | x :: l, q => (QDs.cons (q x (by simp)) (QDs.map f g w h l fun y hy => q y (by simp [hy]))).mono (by simp only [List.length_cons, Nat.mul_succ]; omega) (Nat.le_refl _)
theorem QDs.ints {xs : List Int} (h : ∀ x ∈ xs, -1000000000000000000000000000000000000000000 ≤ x ∧ x ≤ 1000000000000000000000000000000000000000000) : QDs r (xs.map .int) (xs.map .int) xs.length 0 := (QDs.map D.int PyData.int 1 0 xs fun x hx => QD.int (h x hx)).mono (by omega) (Nat.le_refl _)
theorem QDs.row {xs : List Int} (h : Row xs) : QDs r (xs.map .int) (xs.map .int) xs.length 0 := QDs.ints fun x hx => by have := h x hx; omega
theorem QD.row {xs : List Int} (h : Row xs) : QD r (rowD xs) (.tuple (xs.map .int)) (1 + xs.length) 1 := QD.tup (QDs.row h)
end
/-- a live list, a live dict -/
theorem QD.refL {S : Sto} {n : Nat} {xs : List D} {ps : List PyData} {w h : Nat} (e : S[n]? = some (some (.lst xs))) (q : QDs (fun _ => none) xs ps w h) : QD (rdQ S) (.ref n) (.list ps) (1 + w) (h + 1) :=
  ⟨by simp only [toQr, rdQ, e, q.e, Option.map_some], by simp only [smP]; exact q.s, by have := q.w; simp only [wtP]; omega, by have := q.h; simp only [PyData.depth]; omega⟩
theorem ex_q {S : Sto} {d : D} {p : PyData} {w k : Nat} {P : PyData → Prop} (q : QD (rdQ S) d p w k) (h : P p) (hw : w ≤ 200000 := by omega) (hk : k ≤ 40 := by omega) : ∃ p, toQ S d = some p ∧ smP p = true ∧ wtP p ≤ 200000 ∧ p.depth ≤ 40 ∧ P p :=
  ⟨p, q.e, q.s, Nat.le_trans q.w hw, Nat.le_trans q.h hk, h⟩
end DL
set_option Elab.async false
set_option linter.all false
set_option maxRecDepth 100000
set_option maxHeartbeats 4000000
namespace LK
open DL LE LH LG
theorem right_at {n k : Nat} {xs : List Int} {l : List (Int × List Int)} (h : ∀ p ∈ l, (shs n k xs)[p.1.toNat]? = some p.2) {j : Int} (hj : j ∈ l.map (·.1)) : getA l j = (shs n k xs)[j.toNat]? := by
  obtain ⟨v, hv⟩ := getA_has hj
  have := h _ (getA_mem hv)
  simp only at this
  rw [hv, this]
theorem wrong_none {n k : Nat} {xs : List Int} {l : List (Int × List Int)} (h : ∀ p ∈ l, (shs n k xs)[p.1.toNat]? = some p.2) : wrongL n k xs l = [] := by
  rw [wrong_agr, List.filter_eq_nil_iff]
  intro j hj
  simp [agr, right_at h (nums_mem.mp hj)]
theorem wrong_harmed {n k : Nat} {xs fs : List Int} {l l' : List (Int × List Int)} (h : ∀ p ∈ l, (shs n k xs)[p.1.toNat]? = some p.2) (hnd : (l.map (·.1)).Nodup) (hk : l'.map (·.1) = l.map (·.1)) (hf : fs.Nodup) (hm : ∀ j ∈ fs, j ∈ l.map (·.1)) (h1 : ∀ j ∈ l.map (·.1), j ∈ fs → getA l' j ≠ getA l j) (h2 : ∀ j, j ∉ fs → getA l' j = getA l j) : wrongL n k xs l' = isI fs := by
  have hnl : nums l' = nums l := by unfold nums; rw [hk]
  rw [wrong_agr, hnl]
  apply isI_uniq
  · refine (List.perm_ext_iff_of_nodup ((nums_nd hnd).sublist List.filter_sublist) hf).mpr fun j => ?_
    rw [List.mem_filter]
    constructor
    · rintro ⟨a, b⟩
      refine Classical.byContradiction fun hj => ?_
      simp [agr, h2 j hj, right_at h (nums_mem.mp a)] at b
    · intro hj
      have hjm := hm j hj
      refine ⟨nums_mem.mpr hjm, ?_⟩
      have := h1 j hjm hj
      rw [right_at h hjm] at this
      simp [agr, this]
  · exact (isI_pw _).sublist List.filter_sublist
theorem reprRow : (PySem.reprText "row").length ≤ 14 := by decide +kernel
def toldP (xs ws : List Int) : PySem.PyData := .tuple [.str "row", .tuple (xs.map .int), .list (ws.map .int)]
end LK
set_option Elab.async false
set_option linter.all false
set_option maxRecDepth 100000
set_option maxHeartbeats 4000000
namespace LK
open DL LE LH LG
local macro_rules | `(tactic| walk_at "w1") => `(tactic| with_reducible first
  | (refine ws_then ?_; try with_reducible dsimp only [List.set_cons_zero, List.set_cons_succ]) | refine ws_seq ?_ | refine ws_asg ?_ | refine ws_expr ?_ | refine ws_ret ?_ | refine ws_if ?_ | refine ws_asgT ?_ | refine ws_skip ?_ | refine ws_retN ?_ | refine ws_brk ?_ | refine ws_cont ?_ | refine ws_thenR ?_ | refine ws_thenB ?_ | refine ws_thenC ?_ | refine fq_rt ?_ | refine fq_nx ?_ | refine un_nx ?_ | refine un_ct ?_ | refine un_bk ?_ | refine un_rt ?_ | refine ws_loopN ?_
  | (refine ws_loopC (ρ1 := ?r) ?h ?q; (case h => with_unfolding_all rfl); try with_reducible dsimp only [List.set_cons_zero, List.set_cons_succ])
  | refine wp_c ?_ | refine wp_op2 ?_ | refine wp_fn ?_ | refine wp_cons ?_ | refine wp_nil ?_ | refine wp_call ?_ | refine wp_op1 ?_
  | (refine wp_var (d := ?d) ?h ?q; (case h => with_unfolding_all rfl))
  | (refine ws_aug (d := ?d) ?h ?q; (case h => with_unfolding_all rfl))
  | refine wp_tup ?_ | refine wp_lst ?_ | refine wp_lstM ?_ | refine wp_listM ?_
  | refine wp_sl0 ?_ | refine wp_sl1 ?_ | refine wp_sl2 ?_ | refine wp_sl3 ?_
  | refine wp_tval ?_ | refine wp_tnot ?_ | refine wp_tand ?_ | refine wp_tor ?_ | refine wp_tyes ?_ | refine wp_and ?_ | refine wp_or ?_ | refine wp_not ?_ | refine wp_ifx ?_ | refine wp_chain ?_ | refine wp_meth ?_ | refine wp_meth0 ?_
  | refine wp_isi ?_ | refine wp_isis ?_ | refine wp_repr ?_ | refine wp_maxD ?_ | refine wi_rng3 ?_
  | refine ws_par ?_ | refine wp_dnew ?_ | refine wp_get2 ?_ | refine wp_reprQ ?_ | refine wp_fnK ?_ | refine wi_valsI ?_ | refine wi_itemsI ?_ | refine ws_augI ?_
  | refine wi_seq ?_ | refine wi_rng1 ?_ | refine wi_rng2 ?_ | refine wi_zip2 ?_ | refine wi_zipS ?_
  | (refine wp_fnB (ρ := ?ρ) ?he ?_; (case he => (simp only [List.map_cons, List.map_nil, List.length_cons, List.length_nil, List.replicate, List.cons_append, List.nil_append, Nat.reduceAdd, Nat.reduceSub]; rfl))))
local macro_rules | `(tactic| walk_at "w2") => `(tactic| ((with_reducible refine wo_id ?_); with_reducible first
  | refine vo_sub ?_ | refine vo_add ?_ | refine vo_lt ?_ | refine vo_le ?_ | refine vo_gt ?_ | refine vo_ge ?_ | refine vo_eq ?_ | refine vo_ne ?_ | refine vo_eqS ?_ | refine vo_neS ?_ | refine vo_eqB ?_ | refine vo_neB ?_ | refine vo_neg ?_ | refine vo_slT ?_ | refine vo_slL ?_ | refine vo_slS ?_ | refine vo_lenT ?_ | refine vo_lenL ?_ | refine vo_lenS ?_ | refine vo_revT ?_ | refine vo_revL ?_ | refine vo_min ?_ | refine vo_max ?_ | refine vo_tupL ?_ | refine vo_tupT ?_ | refine vo_lisL ?_ | refine vo_lisT ?_
  | refine vo_igAdd ?_ | refine vo_igMulR (by omega) ?_ | refine vo_igMulL (by omega) ?_ | refine vo_mod (by omega) ?_ | refine vo_div (by omega) ?_ | refine vo_mulR (by omega) ?_ | refine vo_mulL (by omega) ?_
  | refine vo_ixL0 ?_ | refine vo_ixL1 ?_ | refine vo_ixL2 ?_ | refine vo_ixL3 ?_ | refine vo_ixL4 ?_ | refine vo_ixL5 ?_ | refine vo_ixL6 ?_ | refine vo_ixT0 ?_ | refine vo_ixT1 ?_ | refine vo_ixT2 ?_ | refine vo_ixT3 ?_ | refine vo_ixT4 ?_ | refine vo_ixT5 ?_ | refine vo_ixT6 ?_
  | refine vo_inT ?_ | refine vo_ninT ?_ | refine vo_inL ?_ | refine vo_ninL ?_ | refine vo_inI ?_ | refine vo_ninI ?_ | refine vo_sortI (by first | assumption | omega) ?_ | refine vo_sortL ?_ | refine vo_lenI ?_ | refine vo_lt3 ?_ | refine vo_isNN ?_ | refine vo_is3N ?_ | refine vo_isTN ?_ | refine vo_isIN ?_ | refine vo_igAddI ?_ | refine vo_ixI (by assumption) ?_
  | refine vo_vwD1 (by assumption) ?_ | refine vo_vwDc (by assumption) ?_
  | refine wo_vw1 (by assumption) ?_ | refine wo_vw2 (by assumption) ?_ | refine vo_vwc (by assumption) ?_
  | (refine vo_isi (c := ?c) ?h ?q; (case h => with_unfolding_all rfl)) | (refine vo_isis (c := ?c) ?h ?q; (case h => with_unfolding_all rfl))))
local macro_rules | `(tactic| walk_at "w3") => `(tactic| first
  | with_reducible refine ite_f ?_ | with_reducible refine ite_nt ?_ | with_reducible refine ite_nf ?_ | with_reducible refine ite_t ?_
  | ((with_reducible refine ex_id ?_); refine ⟨_, rfl, ?_⟩) | ((with_reducible refine and_id ?_); refine ⟨Nat.le_of_ble_eq_true rfl, ?_⟩))
local macro_rules | `(tactic| walk_at "w") => `(tactic| repeat (first | walk_at "w1" | walk_at "w2" | walk_at "w3"))
end LK
set_option Elab.async false
set_option linter.all false
set_option maxRecDepth 100000
set_option maxHeartbeats 4000000
namespace LK
open DL LE LH LG
local macro_rules | `(tactic| walk_at "w1") => `(tactic| with_reducible first
  | (refine ws_then ?_; try with_reducible dsimp only [List.set_cons_zero, List.set_cons_succ]) | refine ws_seq ?_ | refine ws_asg ?_ | refine ws_expr ?_ | refine ws_ret ?_ | refine ws_if ?_ | refine ws_asgT ?_ | refine ws_skip ?_ | refine ws_retN ?_ | refine ws_brk ?_ | refine ws_cont ?_ | refine ws_thenR ?_ | refine ws_thenB ?_ | refine ws_thenC ?_ | refine fq_rt ?_ | refine fq_nx ?_ | refine un_nx ?_ | refine un_ct ?_ | refine un_bk ?_ | refine un_rt ?_ | refine ws_loopN ?_
  | (refine ws_loopC (ρ1 := ?r) ?h ?q; (case h => with_unfolding_all rfl); try with_reducible dsimp only [List.set_cons_zero, List.set_cons_succ])
  | refine wp_c ?_ | refine wp_op2 ?_ | refine wp_fn ?_ | refine wp_cons ?_ | refine wp_nil ?_ | refine wp_call ?_ | refine wp_op1 ?_
  | (refine wp_var (d := ?d) ?h ?q; (case h => with_unfolding_all rfl))
  | (refine ws_aug (d := ?d) ?h ?q; (case h => with_unfolding_all rfl))
  | refine wp_tup ?_ | refine wp_lst ?_ | refine wp_lstM ?_ | refine wp_listM ?_
  | refine wp_sl0 ?_ | refine wp_sl1 ?_ | refine wp_sl2 ?_ | refine wp_sl3 ?_
  | refine wp_tval ?_ | refine wp_tnot ?_ | refine wp_tand ?_ | refine wp_tor ?_ | refine wp_tyes ?_ | refine wp_and ?_ | refine wp_or ?_ | refine wp_not ?_ | refine wp_ifx ?_ | refine wp_chain ?_ | refine wp_meth ?_ | refine wp_meth0 ?_
  | refine wp_isi ?_ | refine wp_isis ?_ | refine wp_repr ?_ | refine wp_maxD ?_ | refine wi_rng3 ?_
  | refine ws_par ?_ | refine wp_dnew ?_ | refine wp_get2 ?_ | refine wp_reprQ ?_ | refine wp_fnK ?_ | refine wi_valsI ?_ | refine wi_itemsI ?_ | refine ws_augI ?_
  | refine wi_seq ?_ | refine wi_rng1 ?_ | refine wi_rng2 ?_ | refine wi_zip2 ?_ | refine wi_zipS ?_
  | (refine wp_fnB (ρ := ?ρ) ?he ?_; (case he => (simp only [List.map_cons, List.map_nil, List.length_cons, List.length_nil, List.replicate, List.cons_append, List.nil_append, Nat.reduceAdd, Nat.reduceSub]; rfl))))
local macro_rules | `(tactic| walk_at "w2") => `(tactic| ((with_reducible refine wo_id ?_); with_reducible first
  | refine vo_sub ?_ | refine vo_add ?_ | refine vo_lt ?_ | refine vo_le ?_ | refine vo_gt ?_ | refine vo_ge ?_ | refine vo_eq ?_ | refine vo_ne ?_ | refine vo_eqS ?_ | refine vo_neS ?_ | refine vo_eqB ?_ | refine vo_neB ?_ | refine vo_neg ?_ | refine vo_slT ?_ | refine vo_slL ?_ | refine vo_slS ?_ | refine vo_lenT ?_ | refine vo_lenL ?_ | refine vo_lenS ?_ | refine vo_revT ?_ | refine vo_revL ?_ | refine vo_min ?_ | refine vo_max ?_ | refine vo_tupL ?_ | refine vo_tupT ?_ | refine vo_lisL ?_ | refine vo_lisT ?_
  | refine vo_igAdd ?_ | refine vo_igMulR (by omega) ?_ | refine vo_igMulL (by omega) ?_ | refine vo_mod (by omega) ?_ | refine vo_div (by omega) ?_ | refine vo_mulR (by omega) ?_ | refine vo_mulL (by omega) ?_
  | refine vo_ixL0 ?_ | refine vo_ixL1 ?_ | refine vo_ixL2 ?_ | refine vo_ixL3 ?_ | refine vo_ixL4 ?_ | refine vo_ixL5 ?_ | refine vo_ixL6 ?_ | refine vo_ixT0 ?_ | refine vo_ixT1 ?_ | refine vo_ixT2 ?_ | refine vo_ixT3 ?_ | refine vo_ixT4 ?_ | refine vo_ixT5 ?_ | refine vo_ixT6 ?_
  | refine vo_inT ?_ | refine vo_ninT ?_ | refine vo_inL ?_ | refine vo_ninL ?_ | refine vo_inI ?_ | refine vo_ninI ?_ | refine vo_sortI (by first | assumption | omega) ?_ | refine vo_sortL ?_ | refine vo_lenI ?_ | refine vo_lt3 ?_ | refine vo_isNN ?_ | refine vo_is3N ?_ | refine vo_isTN ?_ | refine vo_isIN ?_ | refine vo_igAddI ?_ | refine vo_ixI (by assumption) ?_
  | refine vo_vwD1 (by assumption) ?_ | refine vo_vwDc (by assumption) ?_
  | refine wo_vw1 (by assumption) ?_ | refine wo_vw2 (by assumption) ?_ | refine vo_vwc (by assumption) ?_
  | (refine vo_isi (c := ?c) ?h ?q; (case h => with_unfolding_all rfl)) | (refine vo_isis (c := ?c) ?h ?q; (case h => with_unfolding_all rfl))))
local macro_rules | `(tactic| walk_at "w3") => `(tactic| first
  | with_reducible refine ite_f ?_ | with_reducible refine ite_nt ?_ | with_reducible refine ite_nf ?_ | with_reducible refine ite_t ?_
  | ((with_reducible refine ex_id ?_); refine ⟨_, rfl, ?_⟩) | ((with_reducible refine and_id ?_); refine ⟨Nat.le_of_ble_eq_true rfl, ?_⟩))
local macro_rules | `(tactic| walk_at "w") => `(tactic| repeat (first | walk_at "w1" | walk_at "w2" | walk_at "w3"))
theorem sums_hi {xs ys : List Int} (hx : Row xs) (hl : ys.length ≤ xs.length) (i : Nat) (hi : ys.length ≤ i) : (sums xs ys)[i]? = xs[i]? := by
  by_cases h : i < xs.length
  · have h2 := sums_get xs ys i
    rw [List.getElem?_eq_none (show ys.length ≤ i from hi), List.getElem?_eq_getElem h, List.getElem?_eq_getElem (show i < (sums xs ys).length by rw [sums_len]; omega)] at h2
    simp only [Option.getD_some, Option.getD_none, Int.add_zero] at h2
    have := hx _ (List.getElem_mem h)
    rw [List.getElem?_eq_getElem h, List.getElem?_eq_getElem (show i < (sums xs ys).length by rw [sums_len]; omega), h2]
    congr 1
    omega
  · rw [List.getElem?_eq_none (show (sums xs ys).length ≤ i by rw [sums_len]; omega), List.getElem?_eq_none (show xs.length ≤ i by omega)]
theorem col_sums_hi {k : Nat} {xs ys : List Int} (hx : Row xs) (hl : ys.length ≤ xs.length) (hk : ys.length ≤ k) {i : Nat} (hi : 1 ≤ i) : col k (sums xs ys) i = col k xs i := by
  have hik : k ≤ i * k := Nat.le_mul_of_pos_left k hi
  unfold col
  congr 1
  apply List.ext_getElem?
  intro j
  rw [List.getElem?_drop, List.getElem?_drop]
  exact sums_hi hx hl _ (by omega)
theorem col_sums_lo {k : Nat} {xs ys : List Int} (hl : ys.length ≤ xs.length) (hk : ys.length ≤ k) : col k (sums xs ys) 0 = sums (col k xs 0) ys := by
  unfold col
  rw [Nat.zero_mul, List.drop_zero, List.drop_zero]
  unfold sums
  rw [← List.map_take, List.take_range]
  have : min k (max xs.length ys.length) = max (xs.take k).length ys.length := by rw [List.length_take]; omega
  rw [this]
  apply List.map_congr_left
  intro i hi
  have hi := List.mem_range.mp hi
  rw [List.length_take] at hi
  congr 2
  rw [List.getElem?_take]
  rw [if_pos (by omega)]
theorem van_wz {ws : List Int} {j : Int} (hj : j ∈ ws) : wz (vanR ws) (j + 1) = 0 := by
  unfold vanR
  suffices h : ∀ (ws f : List Int), (j ∈ ws ∨ wz f (j + 1) = 0) → wz (ws.foldl (fun f j => lift f (j + 1)) f) (j + 1) = 0 from h ws [1] (.inl hj)
  intro ws
  induction ws with
  | nil =>
    intro f h
    rcases h with h | h
    · simp at h
    · exact h
  | cons w ws ih =>
    intro f h
    rw [List.foldl_cons]
    refine ih _ ?_
    rcases h with h | h
    · rcases List.mem_cons.mp h with e | h
      · right
        rw [wz_lift, e, Int.sub_self]
        simp
      · exact .inl h
    · right
      rw [wz_lift, h]
      simp
theorem lift_top (f : List Int) (o : Int) (hf : 0 < f.length) : (lift f o)[f.length]?.getD 0 = f[f.length - 1]?.getD 0 % 31 := by
  unfold lift
  rw [sums_get, List.getElem?_eq_none (show (f.map fun s => s * (-o % 31) % 31).length ≤ f.length by simp)]
  obtain ⟨m, hm⟩ : ∃ m, f.length = m + 1 := ⟨f.length - 1, by omega⟩
  rw [hm, List.getElem?_cons_succ]
  simp
theorem van_top (ws : List Int) : (vanR ws)[ws.length]?.getD 0 = 1 := by
  unfold vanR
  suffices h : ∀ (ws f : List Int), 0 < f.length → f[f.length - 1]?.getD 0 = 1 → (ws.foldl (fun f j => lift f (j + 1)) f)[f.length - 1 + ws.length]?.getD 0 = 1 by
    have := h ws [1] (by simp) rfl
    simpa using this
  intro ws
  induction ws with
  | nil => intro f _ h; simpa using h
  | cons w ws ih =>
    intro f h0 h
    rw [List.foldl_cons, List.length_cons]
    have e := ih (lift f (w + 1)) (by rw [lift_len]; omega) (by rw [lift_len, Nat.add_sub_cancel, lift_top f _ h0, h]; rfl)
    rw [lift_len] at e
    rw [show f.length - 1 + (ws.length + 1) = f.length + 1 - 1 + ws.length by omega]
    exact e
theorem sums_ne {xs ws : List Int} (hx : Row xs) (hl : ws.length < xs.length) : xs ≠ sums xs (vanR ws) := by
  intro e
  have h1 := sums_get xs (vanR ws) ws.length
  rw [← e, van_top, List.getElem?_eq_getElem hl] at h1
  simp only [Option.getD_some] at h1
  have := hx _ (List.getElem_mem hl)
  omega
theorem few_other {n k : Nat} (hk : 1 ≤ k) (hn : n ≤ 30) {xs ws : List Int} (hx : Row xs) (hw : Nums n ws) (hl : ws.length < min k xs.length) {j : Int} (hj : j ∈ ws) : (shs n k (sums xs (vanR ws)))[j.toNat]? = (shs n k xs)[j.toNat]? := by
  have hvl := vanR_len ws
  have hsl : (sums xs (vanR ws)).length = xs.length := by rw [sums_len, hvl]; omega
  rw [shs_get (hw.rng j hj), shs_get (hw.rng j hj), hsl]
  congr 1
  apply List.map_congr_left
  intro i _
  rcases Nat.eq_zero_or_pos i with h | h
  · subst h
    rw [col_sums_lo (by omega) (by omega), wz_sums, van_wz hj, Int.add_zero, wz_mod31]
  · rw [col_sums_hi hx (by omega) (by omega) h]
theorem wrong_same {n k : Nat} {xs ys : List Int} {l : List (Int × List Int)} (h : ∀ j ∈ nums l, (shs n k ys)[j.toNat]? = (shs n k xs)[j.toNat]?) : wrongL n k ys l = wrongL n k xs l := by
  rw [wrong_agr, wrong_agr]
  apply List.filter_congr
  intro j hj
  unfold agr
  rw [h j hj]
end LK
set_option Elab.async false
set_option linter.all false
set_option maxRecDepth 100000
set_option maxHeartbeats 4000000
namespace DL
open PySem PySem.Spec PyProof.Rows L2
def eFrz (f : Ex) : Ex := fun ρ S => (f ρ S).bind fun d S => match d with
  | .ref n => match S[n]? with
    | some (some (.lst xs)) => .ok (.lst xs) (S.set n none)
    | some (some (.dic false kvs)) => .ok (.dic false kvs) (S.set n none)
    | _ => .bad
  | _ => .bad
section
variable {X : Cx} {W : WX} {e : Expr} {fe : Ex}
theorem ev_frzE (h : EV X W e fe) : EV X W e (eFrz fe) := by
  refine ⟨fun pins s σ H Q I q => ?_⟩
  obtain ⟨B, m, ρ, S, r, re, f⟩ := q
  refine thn (h.run pins s σ H _ I ⟨B, m, ρ, S, r, re, fin.bind f⟩) fun u s1 ⟨v, H1, I1, rv, q1⟩ => ?_
  obtain ⟨m1, S1, d, p, rd, f1⟩ := q1
  have r1 := p.rl
  split at f1
  · rename_i n
    split at f1
    · rename_i xs ex
      cases rd with
      | ref ha =>
        rename_i a
        cases r1.obj _ _ _ ha ex with
        | lst h z q =>
          have kp : Kp H1 H1 (Fo B m1 S1) (Fo B m1 (S1.set n none)) m1 m1 := kp_anti fun a z => z.imp id liv_kill'
          have nf : ¬ Fo B m1 (S1.set n none) a := by
            rintro (b | l)
            · exact r1.nb a ⟨n, _, ha, ex⟩ b
            · rcases liv_kill l with ⟨_, z⟩ | ⟨_, k, hk, hk2⟩
              · exact z ha
              · obtain ⟨l1, g1⟩ := List.getElem?_eq_some_iff.mp hk2
                obtain ⟨l2, g2⟩ := List.getElem?_eq_some_iff.mp ha
                exact hk ((List.getElem_inj r1.nod).mp (g1.trans g2.symm))
          exact ⟨_, H1, I1, rv, f1 m1 H1 _ (Post.unkill (Post.refl r1.kill)) (.lst h nf z (q.kp kp))⟩
    · rename_i kvs ex
      cases rd with
      | ref ha =>
        rename_i a
        cases r1.obj _ _ _ ha ex with
        | @dK kv _ h z e q =>
          obtain ⟨od, I2⟩ := I1.lock h trivial
          obtain ⟨r', kp, un⟩ := r1.lockD (u := .frz od (.dK kv)) ha ex
          exact ⟨_, _, I2, rv, f1 m1 _ _ (un _ _ _ (Post.refl r')) (.dK ⟨od, upd_same⟩ z e (q.kp kp))⟩
    · exact f1.elim
  · exact f1.elim
end
section
variable {E : Px} {ρ : Ev} {S : Sto} {Q : D → Sto → Prop} {f : Ex}
theorem wp_frzD (h : Wp (f ρ S) (fun d S1 => ∃ n kvs, d = .ref n ∧ S1[n]? = some (some (.dic false kvs)) ∧ Q (.dic false kvs) (S1.set n none)) E) : Wp (eFrz f ρ S) Q E :=
  wp_bind (h.mono fun d S1 ⟨n, kvs, e, h, q⟩ => by
    subst e
    simp only [h]
    exact ⟨q⟩)
end
end DL
set_option Elab.async false
set_option linter.all false
set_option maxRecDepth 100000
set_option maxHeartbeats 4000000
namespace LP
open PySem PySem.Spec PyProof.Rows L2 DL
/-- _law_pprime: 0:_law_at 1:_law_some -/
def b_pprime : Sx :=
  (sSeq (sAsg 1 (eLst [(eC (.int 2147483563)), (eC (.int 2147483647)), (eC (.int 2147483587)), (eC (.int 2147483497)), (eC (.int 2147483629)), (eC (.int 2147483543)), (eC (.int 2147483477))]))
    (sRet (eOp2 ixD (eOp2 addD (eVar 1) (eLst [(eC (.int 2147483489)), (eC (.int 2147483579)), (eC (.int 2147483549))])) (eOp2 modD (eVar 0) (eC (.int 10))))))
def d_pprime : Fn := fnP (fnB 2 b_pprime)
def i_pfresh_1 : Sx := sIf (tVal (eOp2 gtD (eCall lenD [(eOp2 ixD (eVar 0) (eC (.int 0)))]) (eC (.int 0)))) (sAsg 2 (eOp2 addD (eOp2 mulD (eOp2 modD (eOp2 ixD (eOp2 ixD (eVar 0) (eC (.int 0))) (eOp2 modD (eOp2 mulD (eVar 1) (eC (.int 5))) (eCall lenD [(eOp2 ixD (eVar 0) (eC (.int 0)))]))) (eC (.int 1000037))) (eOp2 addD (eVar 1) (eC (.int 3)))) (eVar 1))) sSkip
def i_pfresh_2 : Sx := sIf (tVal (eOp2 ltD (eVar 1) (eCall lenD [(eOp2 ixD (eVar 0) (eC (.int 0)))]))) (sAsg 2 (eOp2 ixD (eOp2 ixD (eVar 0) (eC (.int 0))) (eVar 1))) i_pfresh_1
def i_pfresh_3 : Sx := sIf (tAndX (tVal (eOp2 ltD (eVar 1) (eCall lenD [(eOp2 ixD (eVar 0) (eC (.int 0)))]))) (tVal (eOp2 geD (eVar 2) (eOp2 powD (eC (.int 10)) (eC (.int 18)))))) (sRet (eVar 2)) sSkip
/-- _law_pfresh: 0:_law_tape 1:_law_at 2:_law_cell 3:_law_one 4:_law_two 5:_law_three -/
def b_pfresh : Sx :=
  (sSeq (sAsg 1 (eOp2 ixD (eVar 0) (eC (.int 1))))
    (sSeq (sSetIx (eVar 0) (eC (.int 1)) (eOp2 addD (eVar 1) (eC (.int 1))))
    (sSeq (sAsg 2 (eOp2 addD (eOp2 mulD (eC (.int 17)) (eVar 1)) (eC (.int 11))))
    (sSeq i_pfresh_2
    (sSeq i_pfresh_3
    (sSeq (sAsg 3 (eOp2 modD (eOp2 powD (eOp2 addD (eOp2 addD (eOp2 mulD (eOp2 modD (eVar 2) (eC (.int 2147483423))) (eOp2 addD (eVar 1) (eC (.int 5)))) (eOp2 mulD (eC (.int 150001)) (eVar 1))) (eC (.int 31))) (eC (.int 3))) (eFn d_pprime [(eVar 1)])))
    (sSeq (sAsg 4 (eOp2 modD (eOp2 powD (eOp2 addD (eOp2 addD (eOp2 mulD (eVar 3) (eOp2 addD (eVar 1) (eC (.int 11)))) (eOp2 modD (eVar 2) (eC (.int 65519)))) (eC (.int 7))) (eC (.int 5))) (eFn d_pprime [(eOp2 addD (eVar 1) (eC (.int 3)))])))
    (sSeq (sAsg 5 (eOp2 modD (eOp2 addD (eOp2 addD (eOp2 mulD (eVar 3) (eVar 3)) (eVar 4)) (eVar 1)) (eFn d_pprime [(eOp2 addD (eVar 1) (eC (.int 6)))])))
    (sRet (eOp2 addD (eOp2 mulD (eOp2 addD (eOp2 mulD (eVar 3) (eC (.int 2147483647))) (eVar 4)) (eC (.int 2147483629))) (eVar 5)))))))))))
def d_pfresh : Fn := fnB 6 b_pfresh
def i_pdraw_1 : Sx := sIf (tVal (eOp2 ltD (eOp2 ixD (eVar 0) (eC (.int 2))) (eVar 1))) (sSetIx (eVar 0) (eC (.int 2)) (eFn d_pfresh [(eVar 0)])) sSkip
/-- _law_pdraw: 0:_law_tape 1:_law_often 2:_law_drawn -/
def b_pdraw : Sx :=
  (sSeq i_pdraw_1
    (sSeq (sAsg 2 (eOp2 modD (eOp2 ixD (eVar 0) (eC (.int 2))) (eVar 1)))
    (sSeq (sSetIx (eVar 0) (eC (.int 2)) (eOp2 divD (eOp2 ixD (eVar 0) (eC (.int 2))) (eVar 1)))
    (sRet (eVar 2)))))
def d_pdraw : Fn := fnB 3 b_pdraw
def ce_plong_1 : Ex := (eFn d_pdraw [(eVar 0), (eC (.int 31))])
def c_plong_1 : Ex := eComp (iRng1X (eOp2 addD (eC (.int 1)) (eFn d_pdraw [(eVar 0), (eC (.int 40))]))) (.nm 5) tYesX ce_plong_1 [5]
def ce_plong_2 : Ex := (eOp2 modD (eOp2 addD (eOp2 ixD (eVar 2) (eOp2 modD (eVar 5) (eCall lenD [(eVar 2)]))) (eOp2 mulD (eOp2 divD (eVar 5) (eCall lenD [(eVar 2)])) (eVar 3))) (eC (.int 31)))
def c_plong_2 : Ex := eCompM (iRng1X (eVar 1)) (.nm 5) tYesX ce_plong_2 [5]
def lb_plong_1 : Sx := (sSetIx (eVar 4) (eFn d_pdraw [(eVar 0), (eVar 1)]) (eFn d_pdraw [(eVar 0), (eC (.int 31))]))
def l_plong_1 : Sx := sFor (iRng1X (eFn d_pdraw [(eVar 0), (eC (.int 9))])) (.nm 5) lb_plong_1
/-- _law_plong: 0:_law_tape 1:_law_size 2:_law_block 3:_law_step 4:_law_found 5:_law_k -/
def b_plong : Sx :=
  (sSeq (sAsg 2 c_plong_1)
    (sSeq (sAsg 3 (eOp2 ixD (eLst [(eC (.int 0)), (eC (.int 0)), (eC (.int 1)), (eFn d_pdraw [(eVar 0), (eC (.int 31))])]) (eFn d_pdraw [(eVar 0), (eC (.int 4))])))
    (sSeq (sAsg 4 c_plong_2)
    (sSeq l_plong_1
    (sRet (eCall tupleD [(eVar 4)]))))))
def d_plong : Fn := fnB 6 b_plong
def lb_pworth_1 : Sx := (sAsg 2 (eOp2 modD (eOp2 addD (eOp2 mulD (eVar 2) (eVar 1)) (eVar 3)) (eC (.int 31))))
def l_pworth_1 : Sx := sFor (iSeq (eOp1 revD (eVar 0))) (.nm 3) lb_pworth_1
/-- _law_pworth: 0:_law_row 1:_law_x 2:_law_found 3:_law_sign -/
def b_pworth : Sx :=
  (sSeq (sAsg 2 (eC (.int 0)))
    (sSeq l_pworth_1
    (sRet (eVar 2))))
def d_pworth : Fn := fnP (fnB 4 b_pworth)
end LP
set_option Elab.async false
set_option linter.all false
set_option maxRecDepth 100000
set_option maxHeartbeats 4000000
namespace LP
open DL
local macro_rules | `(tactic| walk_at "w1") => `(tactic| with_reducible first
  | (refine ws_then ?_; try with_reducible dsimp only [List.set_cons_zero, List.set_cons_succ]) | refine ws_seq ?_ | refine ws_asg ?_ | refine ws_expr ?_ | refine ws_ret ?_ | refine ws_if ?_ | refine ws_asgT ?_ | refine ws_setIx ?_ | refine ws_skip ?_ | refine ws_retN ?_ | refine ws_brk ?_ | refine ws_cont ?_ | refine ws_thenR ?_ | refine ws_thenB ?_ | refine ws_thenC ?_ | refine fq_rt ?_ | refine fq_nx ?_ | refine un_nx ?_ | refine un_ct ?_ | refine un_bk ?_ | refine un_rt ?_ | refine ws_loopN ?_
  | (refine ws_loopC (ρ1 := ?r) ?h ?q; (case h => with_unfolding_all rfl); try with_reducible dsimp only [List.set_cons_zero, List.set_cons_succ])
  | refine wp_c ?_ | refine wp_op2 ?_ | refine wp_fn ?_ | refine wp_cons ?_ | refine wp_nil ?_ | refine wp_call ?_ | refine wp_op1 ?_
  | (refine wp_var (d := ?d) ?h ?q; (case h => with_unfolding_all rfl))
  | (refine ws_aug (d := ?d) ?h ?q; (case h => with_unfolding_all rfl))
  | refine wp_tup ?_ | refine wp_lst ?_ | refine wp_lstM ?_ | refine wp_listM ?_
  | refine wp_sl0 ?_ | refine wp_sl1 ?_ | refine wp_sl2 ?_ | refine wp_sl3 ?_
  | refine wp_tval ?_ | refine wp_tnot ?_ | refine wp_tand ?_ | refine wp_tor ?_ | refine wp_tyes ?_ | refine wp_and ?_ | refine wp_or ?_ | refine wp_not ?_ | refine wp_ifx ?_ | refine wp_chain ?_ | refine wp_meth ?_ | refine wp_meth0 ?_
  | refine wp_isi ?_ | refine wp_isis ?_ | refine wp_repr ?_ | refine wp_maxD ?_ | refine wi_rng3 ?_
  | refine wi_seq ?_ | refine wi_rng1 ?_ | refine wi_rng2 ?_ | refine wi_zip2 ?_ | refine wi_zipS ?_
  | (refine wp_fnB (ρ := ?ρ) ?he ?_; (case he => (simp only [List.map_cons, List.map_nil, List.length_cons, List.length_nil, List.replicate, List.cons_append, List.nil_append, Nat.reduceAdd, Nat.reduceSub]; rfl))))
local macro_rules | `(tactic| walk_at "w2") => `(tactic| ((with_reducible refine wo_id ?_); with_reducible first
  | refine vo_sub ?_ | refine vo_add ?_ | refine vo_lt ?_ | refine vo_le ?_ | refine vo_gt ?_ | refine vo_ge ?_ | refine vo_eq ?_ | refine vo_ne ?_ | refine vo_eqS ?_ | refine vo_neS ?_ | refine vo_eqB ?_ | refine vo_neB ?_ | refine vo_neg ?_ | refine vo_slT ?_ | refine vo_slL ?_ | refine vo_slS ?_ | refine vo_lenT ?_ | refine vo_lenL ?_ | refine vo_lenS ?_ | refine vo_revT ?_ | refine vo_revL ?_ | refine vo_min ?_ | refine vo_max ?_ | refine vo_tupL ?_ | refine vo_tupT ?_ | refine vo_lisL ?_ | refine vo_lisT ?_
  | refine vo_igAdd ?_ | refine vo_igMulR (by omega) ?_ | refine vo_igMulL (by omega) ?_ | refine vo_mod (by omega) ?_ | refine vo_div (by omega) ?_ | refine vo_mulR (by omega) ?_ | refine vo_mulL (by omega) ?_
  | refine vo_ixL0 ?_ | refine vo_ixL1 ?_ | refine vo_ixL2 ?_ | refine vo_ixL3 ?_ | refine vo_ixL4 ?_ | refine vo_ixL5 ?_ | refine vo_ixL6 ?_ | refine vo_ixT0 ?_ | refine vo_ixT1 ?_ | refine vo_ixT2 ?_ | refine vo_ixT3 ?_ | refine vo_ixT4 ?_ | refine vo_ixT5 ?_ | refine vo_ixT6 ?_
  | refine wo_vw1 (by assumption) ?_ | refine wo_vw2 (by assumption) ?_ | refine vo_vwc (by assumption) ?_
  | (refine vo_isi (c := ?c) ?h ?q; (case h => with_unfolding_all rfl)) | (refine vo_isis (c := ?c) ?h ?q; (case h => with_unfolding_all rfl))))
local macro_rules | `(tactic| walk_at "w3") => `(tactic| first
  | with_reducible refine ite_f ?_ | with_reducible refine ite_nt ?_ | with_reducible refine ite_nf ?_ | with_reducible refine ite_t ?_
  | ((with_reducible refine ex_id ?_); refine ⟨_, rfl, ?_⟩) | ((with_reducible refine and_id ?_); refine ⟨Nat.le_of_ble_eq_true rfl, ?_⟩))
local macro_rules | `(tactic| walk_at "w") => `(tactic| repeat (first | walk_at "w1" | walk_at "w2" | walk_at "w3"))
theorem pick_lt {zs : List Int} {i : Int} (h : 0 ≤ i ∧ i < zs.length) : ∃ z ∈ zs, L2.atI (zs.map D.int) i = some (.int z) := ⟨zs[i.toNat]'(by omega), List.getElem_mem _, by rw [atI_in h.1 (by rw [List.length_map]; omega), List.getElem_map]⟩
theorem wp_pprime {S : Sto} {i : Int} {Q : D → Sto → Prop} {E : Px} (q : ∀ p : Int, 2147483423 ≤ p ∧ p ≤ 2147483647 → Q (.int p) S) : Wp (d_pprime [.int i] S) Q E := by
  refine wp_fnP rfl ?_
  unfold b_pprime
  walk_at "w"
  refine vo_addL (by decide) ?_
  walk_at "w"
  have h1 : 0 ≤ i % 10 := Int.emod_nonneg _ (by decide)
  have h2 : i % 10 < 10 := Int.emod_lt_of_pos _ (by decide)
  refine wo_pick (zs := [2147483563, 2147483647, 2147483587, 2147483497, 2147483629, 2147483543, 2147483477, 2147483489, 2147483579, 2147483549]) rfl ⟨h1, by simp; omega⟩ fun z hz => ?_
  have hz' : 2147483423 ≤ z ∧ z ≤ 2147483647 := by simp at hz; omega
  exact ⟨rfl, q z hz'⟩
theorem wp_pfresh {S : Sto} {n : Nat} {cells : List Int} {t r : Int} {Q : D → Sto → Prop} {E : Px} (h : S[n]? = some (some (.lst [.lst (cells.map .int), .int t, .int r]))) (t0 : 0 ≤ t) (t1 : t ≤ 1000000000)
    (q : ∀ v S', S'[n]? = some (some (.lst [.lst (cells.map .int), .int (t + 1), .int r])) → Only n S S' → Q (.int v) S') : Wp (d_pfresh [.ref n] S) Q E := by
  unfold d_pfresh b_pfresh
  walk_at "w"
  refine ⟨n, _, 1, 1, rfl, rfl, h, rfl, ?_⟩
  refine set_gen h fun S1 h1 o1 => ?_
  have h1 : S1[n]? = some (some (.lst [.lst (cells.map .int), .int (t + 1), .int r])) := h1
  have hll : (cells.map D.int).length = cells.length := List.length_map ..
  walk_at "w"
  refine ws_midT (fun f S' => ∃ cell : Int, f = .nx [some (.ref n), some (.int t), some (.int cell), none, none, none] ∧ S1 = S') ?_ ?_
  · unfold i_pfresh_2
    walk_at "w"
    refine ite_d (fun hlt => ?_) (fun _ => ?_)
    · walk_at "w"
      obtain ⟨z, _, hz⟩ := pick_lt (zs := cells) (i := t) ⟨t0, by rw [← hll]; exact hlt⟩
      refine wo_ixL hz ?_
      walk_at "w"
      rfl
    · unfold i_pfresh_1
      walk_at "w"
      refine ite_d (fun hp => ?_) (fun _ => ?_)
      · walk_at "w"
        obtain ⟨z, _, hz⟩ := pick_lt (zs := cells) (i := t * 5 % ((cells.map D.int).length : Int)) ⟨Int.emod_nonneg _ (by omega), by rw [← hll]; exact Int.emod_lt_of_pos _ (by omega)⟩
        refine wo_ixL hz ?_
        walk_at "w"
        rfl
      · walk_at "w"
        rfl
  rintro f S' ⟨cell, rfl, rfl⟩
  walk_at "w"
  have rest : ∀ {Q' : Fl → Sto → Prop}, (∀ v, Q' (.rt (.int v)) S1) → Ws ((sSeq (sAsg 3 (eOp2 modD (eOp2 powD (eOp2 addD (eOp2 addD (eOp2 mulD (eOp2 modD (eVar 2) (eC (.int 2147483423))) (eOp2 addD (eVar 1) (eC (.int 5)))) (eOp2 mulD (eC (.int 150001)) (eVar 1))) (eC (.int 31))) (eC (.int 3))) (eFn d_pprime [(eVar 1)])))
    (sSeq (sAsg 4 (eOp2 modD (eOp2 powD (eOp2 addD (eOp2 addD (eOp2 mulD (eVar 3) (eOp2 addD (eVar 1) (eC (.int 11)))) (eOp2 modD (eVar 2) (eC (.int 65519)))) (eC (.int 7))) (eC (.int 5))) (eFn d_pprime [(eOp2 addD (eVar 1) (eC (.int 3)))])))
    (sSeq (sAsg 5 (eOp2 modD (eOp2 addD (eOp2 addD (eOp2 mulD (eVar 3) (eVar 3)) (eVar 4)) (eVar 1)) (eFn d_pprime [(eOp2 addD (eVar 1) (eC (.int 6)))])))
    (sRet (eOp2 addD (eOp2 mulD (eOp2 addD (eOp2 mulD (eVar 3) (eC (.int 2147483647))) (eVar 4)) (eC (.int 2147483629))) (eVar 5)))))) [some (.ref n), some (.int t), some (.int cell), none, none, none] S1) Q' (fun c p _ S => E c p S) := by
    intro Q' hq
    walk_at "w"
    have b0 : 0 ≤ cell % 2147483423 ∧ cell % 2147483423 ≤ 2147483422 := by omega
    have b1 := mulB b0.1 b0.2 (show 0 ≤ t + 5 by omega) (show t + 5 ≤ 1000000005 by omega)
    refine .of (powD_k (by decide) (by decide) (by omega)) ?_
    walk_at "w"
    refine wp_pprime fun p hp => ?_
    walk_at "w"
    generalize ho1 : (cell % 2147483423 * (t + 5) + 150001 * t + 31) ^ (3 : Int).toNat % p = one
    have c1 : 0 ≤ one ∧ one ≤ 2147483647 := by rw [← ho1]; exact modR _ p hp
    have b2 := mulB c1.1 c1.2 (show 0 ≤ t + 11 by omega) (show t + 11 ≤ 1000000011 by omega)
    have b3 : 0 ≤ cell % 65519 ∧ cell % 65519 ≤ 65518 := by omega
    refine .of (powD_k (by decide) (by decide) (by omega)) ?_
    walk_at "w"
    refine wp_pprime fun p2 hp2 => ?_
    walk_at "w"
    generalize ho2 : (one * (t + 11) + cell % 65519 + 7) ^ (5 : Int).toNat % p2 = two
    walk_at "w"
    refine wp_pprime fun p3 hp3 => ?_
    walk_at "w"
    exact hq _
  refine ws_midT (fun f S' => (∃ v, f = .rt (.int v) ∧ S1 = S') ∨ (f = .nx [some (.ref n), some (.int t), some (.int cell), none, none, none] ∧ S1 = S')) ?_ ?_
  · unfold i_pfresh_3
    walk_at "w"
    refine ite_d (fun hlt => ?_) (fun _ => ?_)
    · walk_at "w"
      refine .of pow1018 ?_
      walk_at "w"
      refine ite_d (fun _ => ?_) (fun _ => ?_)
      · walk_at "w"
        exact .inl ⟨_, rfl, rfl⟩
      · walk_at "w"
        exact .inr ⟨rfl, rfl⟩
    · walk_at "w"
      exact .inr ⟨rfl, rfl⟩
  rintro f S' (⟨v, rfl, rfl⟩ | ⟨rfl, rfl⟩)
  · exact q _ _ h1 o1
  · refine ws_then ?_
    exact rest fun v => q v S1 h1 o1
theorem wp_pdraw {S : Sto} {n : Nat} {k many : Int} {Q : D → Sto → Prop} {E : Px} (h : JarS S n k) (hk : k ≤ 1000000000) (hm : 0 < many ∧ many < 1073741824)
    (q : ∀ v S', 0 ≤ v → v < many → JarS S' n (k + 1) → Only n S S' → Q (.int v) S') : Wp (d_pdraw [.ref n, .int many] S) Q E := by
  obtain ⟨cells, t, r, h0, t0, t1⟩ := h
  unfold Jar at h0
  unfold d_pdraw b_pdraw
  walk_at "w1"
  refine ws_mid (fun f S1 => f = .nx [some (.ref n), some (.int many), none] ∧ ∃ t' r' : Int, S1[n]? = some (some (.lst [.lst (cells.map .int), .int t', .int r'])) ∧ 0 ≤ t' ∧ t' ≤ k + 1 ∧ Only n S S1) ?_ ?_
  · unfold i_pdraw_1
    walk_at "w"
    refine ite_d (fun _ => ?_) (fun _ => ?_)
    · walk_at "w"
      refine wp_pfresh h0 t0 (by omega) fun v S1 h1 o1 => ?_
      walk_at "w"
      refine ⟨n, _, 2, 2, rfl, rfl, h1, rfl, ?_⟩
      exact ⟨rfl, t + 1, v, set_at h1, by omega, by omega, o1.trans .set⟩
    · walk_at "w"
      exact ⟨rfl, t, r, h0, t0, by omega, .refl⟩
  rintro f S1 ⟨rfl, t', r', h1, t0', t1', o1⟩
  walk_at "w"
  refine ⟨n, _, 2, 2, rfl, rfl, h1, rfl, ?_⟩
  refine set_gen h1 fun S2 h2 o2 => ?_
  walk_at "w"
  exact q _ S2 (Int.emod_nonneg _ (by omega)) (Int.emod_lt_of_pos _ hm.1) ⟨cells, t', _, h2, t0', t1'⟩ (o1.trans o2)
theorem wp_pworth {S : Sto} {xs : List Int} {x : Int} (hx : -1000 ≤ x ∧ x ≤ 1000) {Q : D → Sto → Prop} {E : Px} (q : Q (.int (wz xs x)) S) : Wp (d_pworth [.tup (xs.map .int), .int x] S) Q E := by
  refine wp_fnP (by simp [noRefs, noRef, noRefs_int]) ?_
  unfold b_pworth
  walk_at "w"
  unfold l_pworth_1
  refine ws_for [2, 3] ?_
  walk_at "w"
  refine ⟨_, Or.inl rfl, ?_⟩
  refine ⟨fun j vs S => S = [] ∧ ∃ w d, vs = [some (.int w), d] ∧ w = (xs.reverse.take j).foldl (fun w s => (w * x + s) % 31) 0, [some (.int 0), none], rfl, rfl, ⟨rfl, 0, none, rfl, by simp⟩, ?_, ?_⟩
  · rintro j d vs S hj hv ⟨rfl, w, d3, rfl, hw⟩
    rw [← List.map_reverse, List.getElem?_map] at hj
    obtain ⟨s, hs, rfl⟩ := Option.map_eq_some_iff.mp hj
    refine ⟨_, rfl, ?_⟩
    unfold lb_pworth_1
    walk_at "w"
    exact ⟨[some (.int ((w * x + s) % 31)), some (.int s)], rfl, rfl, rfl, _, _, rfl, by rw [foldl_take hs, ← hw]⟩
  · rintro vs S1 hv ⟨rfl, w, d, rfl, hw⟩
    rw [List.length_reverse, List.length_map, List.take_of_length_le (by simp)] at hw
    walk_at "w"
    refine ⟨rfl, ?_⟩
    show Q (.int w) S
    rw [hw]
    exact q
/-- a long row -/
theorem wp_plong {S : Sto} {k : Int} {size : Nat} {Q : D → Sto → Prop} {E : Px} (h : JarS S 0 k) (hk : k ≤ 900000000) (hs : 1 ≤ size ∧ size ≤ 10000)
    (q : ∀ (xs : List Int) S', Row xs → xs.length = size → JarS S' 0 (k + 100) → Q (.tup (xs.map .int)) S') : Wp (d_plong [.ref 0, .int size] S) Q E := by
  unfold d_plong b_plong
  walk_at "w"
  unfold c_plong_1
  refine wp_compG D.int ?_
  walk_at "w"
  refine wp_pdraw h (by omega) (by omega) fun v1 S1 a1 b1 j1 o1 => ?_
  walk_at "w"
  refine ⟨by omega, ?_⟩
  refine ⟨fun j as S' => Row as ∧ JarS S' 0 (k + 1 + j), by rw [iRng_len]; omega, ⟨fun x hx => by simp at hx, j1.mono (by omega)⟩, ?_, ?_⟩
  · rintro j d as S2 hj hal ⟨hr, p2⟩
    have hj' := (List.getElem?_eq_some_iff.mp hj).1
    rw [iRng_len] at hj'
    refine ⟨_, rfl, ?_⟩
    unfold ce_plong_1
    walk_at "w"
    refine wp_pdraw p2 (by omega) (by omega) fun v S3 v0 v1 p3 o3 => ?_
    exact ⟨v, rfl, hr.app (fun x hx => by simp at hx; omega), p3.mono (by omega)⟩
  rintro as S2 hal ⟨hr, p2⟩
  rw [iRng_len] at hal p2
  walk_at "w"
  refine wp_pdraw p2 (by omega) (by omega) fun v2 S3 a2 b2 p3 o3 => ?_
  walk_at "w"
  refine wp_pdraw p3 (by omega) (by omega) fun v3 S4 a3 b3 p4 o4 => ?_
  refine wo_pick (zs := [0, 0, 1, v2]) rfl ⟨by omega, by simp; omega⟩ fun st hst => ?_
  have hst' : 0 ≤ st ∧ st ≤ 30 := by simp at hst; omega
  walk_at "w"
  unfold c_plong_2
  have ha0 : 0 < as.length := by omega
  refine wp_compM1M (List.range size) (fun (j : Nat) => .int j) (fun (j : Nat) => .int ((as[j % as.length]?.getD 0 + (j : Int) / as.length * st) % 31)) (by simp; omega) ?_
  walk_at "w"
  refine ⟨by omega, iRng0 size, fun j hj => ⟨_, rfl, ?_⟩, ?_⟩
  · have hjl := List.mem_range.mp hj
    unfold ce_plong_2
    walk_at "w"
    rw [List.length_map]
    refine vo_mod (by omega) ?_
    have hm : (j : Int) % (as.length : Int) = ((j % as.length : Nat) : Int) := by omega
    rw [hm]
    have hlt : j % as.length < as.length := Nat.mod_lt _ ha0
    refine wo_ixL (d := .int (as[j % as.length]?.getD 0)) (by rw [List.getElem?_eq_getElem hlt, atI_in (by omega) (by rw [List.length_map]; omega), List.getElem_map]; rfl) ?_
    walk_at "w"
    rw [List.length_map]
    refine vo_div (by omega) ?_
    walk_at "w"
    exact ⟨rfl, rfl⟩
  rw [show (List.range size).map (fun (j : Nat) => D.int ((as[j % as.length]?.getD 0 + (j : Int) / as.length * st) % 31)) = ((List.range size).map fun (j : Nat) => (as[j % as.length]?.getD 0 + (j : Int) / as.length * st) % 31).map D.int by rw [List.map_map]; rfl]
  have hx : Row ((List.range size).map fun (j : Nat) => (as[j % as.length]?.getD 0 + (j : Int) / as.length * st) % 31) := fun y hy => by
    obtain ⟨j, _, rfl⟩ := List.mem_map.mp hy
    exact ⟨Int.emod_nonneg _ (by decide), Int.emod_lt_of_pos _ (by decide)⟩
  have hxl : ((List.range size).map fun (j : Nat) => (as[j % as.length]?.getD 0 + (j : Int) / as.length * st) % 31).length = size := by simp
  generalize (List.range size).map (fun (j : Nat) => (as[j % as.length]?.getD 0 + (j : Int) / as.length * st) % 31) = xs at hx hxl ⊢
  have h4 : (S4 ++ [some (.lst (xs.map D.int))])[S4.length]? = some (some (.lst (xs.map .int))) := app_at
  have p5 : JarS (S4 ++ [some (.lst (xs.map D.int))]) 0 (k + 45) := (p4.ext .app).mono (by omega)
  have hn : S4.length ≠ 0 := by have := p4.lt; omega
  generalize S4 ++ [some (.lst (xs.map D.int))] = T at *
  generalize S4.length = n at *
  walk_at "w"
  unfold l_plong_1
  refine ws_for [5] ?_
  walk_at "w"
  refine wp_pdraw p5 (by omega) (by omega) fun v5 S5 a5 b5 p6 o6 => ?_
  refine ⟨_, rfl, by omega, ?_⟩
  have h5 := (o6.2 n hn).trans h4
  refine ⟨fun j _ S' => JarS S' 0 (k + 46 + 2 * j) ∧ ∃ ys : List Int, Row ys ∧ ys.length = size ∧ S'[n]? = some (some (.lst (ys.map .int))), [none], rfl, rfl, ⟨p6.mono (by omega), xs, hx, hxl, h5⟩, ?_, ?_⟩
  · rintro j d vs S' hj hv ⟨p7, ys, hy, hyl, hS⟩
    obtain ⟨v, rfl⟩ := len1 hv
    have hj' := (List.getElem?_eq_some_iff.mp hj).1
    rw [iRng_len] at hj'
    refine ⟨_, rfl, ?_⟩
    unfold lb_plong_1
    walk_at "w"
    refine wp_pdraw p7 (by omega) (by omega) fun v8 S8 a8 b8 p8 o8 => ?_
    walk_at "w"
    refine wp_pdraw p8 (by omega) (by omega) fun v9 S9 a9 b9 p9 o9 => ?_
    have h9 := (o9.2 n hn).trans ((o8.2 n hn).trans hS)
    refine ⟨n, _, v9, v9.toNat, rfl, rfl, h9, ixN_in a9 (by rw [List.length_map]; omega), ?_⟩
    refine ⟨[_], rfl, rfl, (p9.only .set (Ne.symm hn)).mono (by omega), ys.set v9.toNat v8, fun y hy2 => ?_, by simp [hyl], ?_⟩
    · rcases List.mem_or_eq_of_mem_set hy2 with hy2 | rfl
      · exact hy y hy2
      · omega
    · rw [List.map_set]
      exact set_at h9
  · rintro vs S' hv ⟨p7, ys, hy, hyl, hS⟩
    obtain ⟨v, rfl⟩ := len1 hv
    rw [iRng_len] at p7
    walk_at "w"
    exact q ys S' hy hyl (p7.mono (by omega))
end LP
set_option Elab.async false
set_option linter.all false
set_option maxRecDepth 100000
set_option maxHeartbeats 4000000
namespace C12
open PySem PySem.Spec PyProof.Rows L2 DL
def ce_pshards_1 : Ex := (eFn LP.d_pworth [(eSl (eVar 1) (some (eVar 4)) (some (eOp2 addD (eVar 4) (eOp2 ixD (eVar 0) (eC (.int 1)))))), (eOp2 addD (eVar 3) (eC (.int 1)))])
def c_pshards_1 : Ex := eComp (iRng3X (eC (.int 0)) (eCall lenD [(eVar 1)]) (eOp2 ixD (eVar 0) (eC (.int 1)))) (.nm 4) tYesX ce_pshards_1 [4]
def lb_pshards_1 : Sx := (sExpr (eMeth gAppend (eVar 2) [(eCall tupleD [c_pshards_1])]))
def l_pshards_1 : Sx := sFor (iRng1X (eOp2 ixD (eVar 0) (eC (.int 0)))) (.nm 3) lb_pshards_1
/-- _law_pshards: 0:_law_code 1:_law_row 2:_law_found 3:_law_j 4:_law_at -/
def b_pshards : Sx :=
  (sSeq (sAsg 2 (eLstM []))
    (sSeq l_pshards_1
    (sRet (eVar 2))))
def d_pshards : Fn := fnB 5 b_pshards
def lb_psome_1 : Sx := (sSeq (sAsg 6 (eMeth gPopAt (eVar 3) [(eFn LP.d_pdraw [(eVar 0), (eCall lenD [(eVar 3)])])]))
    (sSetIx (eVar 4) (eVar 6) (eOp2 ixD (eVar 1) (eVar 6))))
def l_psome_1 : Sx := sFor (iRng1X (eVar 2)) (.nm 5) lb_psome_1
/-- _law_psome: 0:_law_tape 1:_law_right 2:_law_many 3:_law_left 4:_law_found 5:_law_k 6:_law_j -/
def b_psome : Sx :=
  (sSeq (sAsg 3 (eLstRgM (eC (.int 0)) (eCall lenD [(eVar 1)])))
    (sSeq (sAsg 4 eDNew)
    (sSeq l_psome_1
    (sRet (eVar 4)))))
def d_psome : Fn := fnB 7 b_psome
def i_pfew_right_1 : Sx := sIf (tOrX (tNotX (tVal (eIsi .tuple (eVar 3)))) (tOrX (tVal (eOp2 neD (eCall lenD [(eVar 3)]) (eC (.int 3)))) (tOrX (tVal (eOp2 neD (eOp2 ixD (eVar 3) (eC (.int 0))) (eC (.str "few")))) (tVal (eOp2 eqD (eOp2 ixD (eVar 3) (eC (.int 1))) (eOp2 ixD (eVar 3) (eC (.int 2)))))))) (sRet (eC (.bl false))) sSkip
def i_pfew_right_2 : Sx := sIf (tOrX (tNotX (tVal (eIsi .tuple (eVar 4)))) (tVal (eOp2 neD (eCall lenD [(eVar 4)]) (eCall lenD [(eVar 1)])))) (sRet (eC (.bl false))) sSkip
def ce_pfew_right_1 : Ex := (eAndX (eIsi .int (eVar 6)) (eAndX (eNotX (eIsi .bool (eVar 6))) (eChain leD ltD (eC (.int 0)) (eVar 6) (eC (.int 31)))))
def c_pfew_right_1 : Ex := eComp (iSeq (eVar 4)) (.nm 6) tYesX ce_pfew_right_1 [6]
def i_pfew_right_3 : Sx := sIf (tNotX (tVal (eCall allD [c_pfew_right_1]))) (sRet (eC (.bl false))) sSkip
def ce_pfew_right_2 : Ex := (eOp2 eqD (eOp2 ixD (eVar 5) (eVar 7)) (eOp2 ixD (eVar 2) (eVar 7)))
def c_pfew_right_2 : Ex := eComp (iSeq (eVar 2)) (.nm 7) tYesX ce_pfew_right_2 [7]
def i_pfew_right_4 : Sx := sIf (tNotX (tVal (eCall allD [c_pfew_right_2]))) (sRet (eC (.bl false))) sSkip
def lb_pfew_right_1 : Sx := (sSeq i_pfew_right_2
    (sSeq i_pfew_right_3
    (sSeq (sAsg 5 (eFn d_pshards [(eVar 0), (eVar 4)]))
    i_pfew_right_4)))
def l_pfew_right_1 : Sx := sFor (iSeq (eSl (eVar 3) (some (eC (.int 1))) none)) (.nm 4) lb_pfew_right_1
def i_pfew_right_5 : Sx := sIf (tVal (eOp2 isntBD (eFn LG.d_are_ghosts [(eVar 0), (eCall lenD [(eVar 1)]), (eVar 2), (eOp2 ixD (eVar 3) (eC (.int 1))), (eOp2 ixD (eVar 3) (eC (.int 1)))]) (eC (.bl false)))) (sRet (eC (.bl false))) sSkip
/-- _law_pfew_right: 0:_law_code 1:_law_row 2:_law_some 3:_law_found 4:_law_one 5:_law_right 6:_law_sign 7:_law_j -/
def b_pfew_right : Sx :=
  (sSeq (sAsg 3 (eFn LK.d_told_by [(eVar 0), (eCall lenD [(eVar 1)]), (eVar 2)]))
    (sSeq i_pfew_right_1
    (sSeq l_pfew_right_1
    (sSeq i_pfew_right_5
    (sRet (eOp2 isBD (eFn LG.d_are_ghosts [(eVar 0), (eCall lenD [(eVar 1)]), (eVar 2), (eOp2 ixD (eVar 3) (eC (.int 1))), (eOp2 ixD (eVar 3) (eC (.int 2)))]) (eC (.bl true))))))))
def d_pfew_right : Fn := fnB 8 b_pfew_right
def i_pchanged_right_1 : Sx := sIf (tVal (eOp2 ltD (eVar 4) (eC (.int 1)))) (sRet (eC (.bl true))) sSkip
def i_pchanged_right_2 : Sx := sIf (tVal (eOp2 gtD (eOp2 ixD (eVar 1) (eC (.int 0))) (eC (.int 4)))) (sSeq (sAsg 2 (eSl (eVar 2) none (some (eOp2 addD (eC (.int 61)) (eFn LP.d_pdraw [(eVar 0), (eC (.int 240))])))))
    (sAsg 3 (eFn d_pshards [(eVar 1), (eVar 2)]))) sSkip
def i_pchanged_right_3 : Sx := sIf (tVal (eOp2 ninD (eVar 8) (eVar 6))) (sSeq (sAsg 9 (eFn LP.d_pdraw [(eVar 0), (eCall lenD [(eOp2 ixD (eVar 3) (eVar 8))])]))
    (sSeq (sAsg 10 (eOp2 modD (eOp2 addD (eOp2 addD (eOp2 ixD (eOp2 ixD (eVar 3) (eVar 8)) (eVar 9)) (eC (.int 1))) (eFn LP.d_pdraw [(eVar 0), (eC (.int 30))])) (eC (.int 31))))
    (sSeq (sSetIx (eVar 5) (eVar 8) (eOp2 addD (eOp2 addD (eSl (eOp2 ixD (eVar 3) (eVar 8)) none (some (eVar 9))) (eTup [(eVar 10)])) (eSl (eOp2 ixD (eVar 3) (eVar 8)) (some (eOp2 addD (eVar 9) (eC (.int 1)))) none)))
    (sExpr (eMeth gAppend (eVar 6) [(eVar 8)]))))) sSkip
def lb_pchanged_right_1 : Sx := (sSeq (sAsg 8 (eFn LP.d_pdraw [(eVar 0), (eOp2 ixD (eVar 1) (eC (.int 0)))]))
    i_pchanged_right_3)
def l_pchanged_right_1 : Sx := sFor (iRng1X (eOp2 addD (eC (.int 1)) (eFn LP.d_pdraw [(eVar 0), (eVar 4)]))) (.nm 7) lb_pchanged_right_1
/-- _law_pchanged_right: 0:_law_tape 1:_law_code 2:_law_row 3:_law_right 4:_law_most 5:_law_some 6:_law_wrong 7:_law_turn 8:_law_j 9:_law_at 10:_law_sign -/
def b_pchanged_right : Sx :=
  (sSeq (sAsg 4 (eOp2 divD (eOp2 subD (eOp2 ixD (eVar 1) (eC (.int 0))) (eOp2 ixD (eVar 1) (eC (.int 1)))) (eC (.int 2))))
    (sSeq i_pchanged_right_1
    (sSeq i_pchanged_right_2
    (sSeq (sAsg 5 (eFn d_psome [(eVar 0), (eVar 3), (eOp2 ixD (eVar 1) (eC (.int 0)))]))
    (sSeq (sAsg 6 (eLstM []))
    (sSeq l_pchanged_right_1
    (sFrz 5 (sRet (eOp2 eqD (eReprQ (eFn LK.d_told_by [(eVar 1), (eCall lenD [(eVar 2)]), (eVar 5)])) (eReprQ (eTup [(eC (.str "row")), (eVar 2), (eCall sortD [(eVar 6)])])))))))))))
def d_pchanged_right : Fn := fnB 11 b_pchanged_right
def i_law_1 : Sx := sIf (tOrX (tVal (eOp2 neD (eReprQ (eFn LH.d_shards [(eVar 4), (eVar 5)])) (eReprQ (eVar 6)))) (tVal (eOp2 neD (eReprQ (eFn LH.d_need_of [(eVar 4), (eCall lenD [(eVar 5)])])) (eReprQ (eOp2 ixD (eVar 4) (eC (.int 1))))))) (sRet (eC (.bl false))) sSkip
def i_law_2 : Sx := sIf (tVal (eOp2 neD (eReprQ (eFn LK.d_told_by [(eVar 4), (eCall lenD [(eVar 5)]), (eFrz (eFn d_psome [(eVar 1), (eVar 6), (eVar 7)]))])) (eReprQ (eTup [(eC (.str "row")), (eVar 5), (eLst [])])))) (sRet (eC (.bl false))) sSkip
def lb_law_1 : Sx := i_law_2
def l_law_1 : Sx := sFor (iSeq (eTup [(eOp2 ixD (eVar 4) (eC (.int 1))), (eOp2 ixD (eVar 4) (eC (.int 0)))])) (.nm 7) lb_law_1
def i_law_3 : Sx := sIf (tNotX (tVal (eFn d_pfew_right [(eVar 4), (eVar 5), (eFrz (eFn d_psome [(eVar 1), (eVar 6), (eOp2 subD (eOp2 ixD (eVar 4) (eC (.int 1))) (eC (.int 1)))]))]))) (sRet (eC (.bl false))) sSkip
def i_law_4 : Sx := sIf (tNotX (tVal (eFn d_pchanged_right [(eVar 1), (eVar 4), (eVar 5), (eVar 6)]))) (sRet (eC (.bl false))) sSkip
def lb_law_2 : Sx := (sSeq (sAsg 3 (eOp2 ixD (eLst [(eOp2 addD (eC (.int 1)) (eFn LP.d_pdraw [(eVar 1), (eC (.int 8))])), (eC (.int 3)), (eC (.int 4))]) (eFn LP.d_pdraw [(eVar 1), (eC (.int 3))])))
    (sSeq (sAsg 4 (eTup [(eVar 3), (eOp2 addD (eC (.int 1)) (eFn LP.d_pdraw [(eVar 1), (eVar 3)]))]))
    (sSeq (sAsg 5 (eFn LP.d_plong [(eVar 1), (eOp2 ixD (eLst [(eC (.int 1200)), (eC (.int 1199)), (eOp2 addD (eC (.int 61)) (eFn LP.d_pdraw [(eVar 1), (eC (.int 1140))]))]) (eFn LP.d_pdraw [(eVar 1), (eC (.int 3))]))]))
    (sSeq (sAsg 6 (eFn d_pshards [(eVar 4), (eVar 5)]))
    (sSeq i_law_1
    (sSeq l_law_1
    (sSeq i_law_3
    i_law_4)))))))
def l_law_2 : Sx := sFor (iRng1X (eC (.int 2))) (.nm 2) lb_law_2
/-- law: 0:_law_script 1:_law_tape 2:_law_turn 3:_law_n 4:_law_code 5:_law_row 6:_law_right 7:_law_many -/
def b_law : Sx :=
  (sSeq (sAsg 1 (eLstM [(eCall listD [(eSl (eVar 0) none (some (eC (.int 63))))]), (eC (.int 0)), (eC (.int 0))]))
    (sSeq l_law_2
    (sRet (eC (.bl true)))))
def d_law : Fn := fnB 8 b_law
end C12
set_option Elab.async false
set_option linter.all false
set_option maxRecDepth 100000
set_option maxHeartbeats 4000000
namespace LK
open DL LE LH LG
theorem wz_app_zeros (m : Nat) (x : Int) : ∀ xs : List Int, wz (xs ++ List.replicate m 0) x = wz xs x
  | [] => by rw [List.nil_append, wz_zeros]; rfl
  | a :: xs => by rw [List.cons_append, wz_cons, wz_cons, wz_app_zeros m x xs]
theorem flat_drop (k size : Nat) (f : Nat → List Int) (hf : ∀ i, (f i).length = wdt k size i) (hk : 1 ≤ k) {i : Nat} (hi : i < rgN 0 size k) : ((List.range (rgN 0 size k)).flatMap f).drop (i * k) = f i ++ ((List.range (rgN 0 size k)).drop (i + 1)).flatMap f := by
  have h1 := rgN_lt hk hi
  have h2 := wdt_sum hk f hf i (by omega)
  rw [Nat.min_eq_left (by omega)] at h2
  have e : List.range (rgN 0 size k) = List.range i ++ i :: (List.range (rgN 0 size k)).drop (i + 1) := by
    have h3 := (List.take_append_drop i (List.range (rgN 0 size k))).symm
    rw [List.drop_eq_getElem_cons (by rw [List.length_range]; exact hi), List.getElem_range, List.take_range, Nat.min_eq_left (by omega)] at h3
    exact h3
  conv => lhs; rw [e]
  rw [List.flatMap_append, List.flatMap_cons, List.drop_append, ← h2, List.drop_length, Nat.sub_self, List.drop_zero, List.nil_append]
theorem col_join (k size : Nat) (f : Nat → List Int) (hf : ∀ i, (f i).length = wdt k size i) (hk : 1 ≤ k) {i : Nat} (hi : i < rgN 0 size k) : col k ((List.range (rgN 0 size k)).flatMap f) i = f i := by
  unfold col
  rw [flat_drop k size f hf hk hi]
  have hl := hf i
  by_cases h : i + 1 < rgN 0 size k
  · have h1 := rgN_lt hk h
    rw [Nat.succ_mul] at h1
    have : (f i).length = k := by rw [hl]; unfold wdt; omega
    rw [← this, List.take_left']
    rfl
  · rw [List.drop_eq_nil_of_le (by rw [List.length_range]; omega)]
    simp only [List.flatMap_nil, List.append_nil]
    refine List.take_of_length_le ?_
    rw [hl]
    unfold wdt
    omega
theorem few_right {n k : Nat} {l : List (Int × List Int)} (hk : 1 ≤ k) (hn : n ≤ 30) {xs : List Int} (hx : Row xs) (hl : Sm n (rgN 0 xs.length k) l) (hnd : (l.map (·.1)).Nodup) (hr : ∀ p ∈ l, (shs n k xs)[p.1.toNat]? = some p.2) : wrongL n k (rby k xs.length l (nums l)) l = [] := by
  have hnn := nums_nums hl hnd
  rw [wrong_agr, List.filter_eq_nil_iff]
  intro j hj
  have hjr := hnn.rng j hj
  have hra := right_at hr (nums_mem.mp hj)
  have hat : ∀ i, i < rgN 0 xs.length k → shAt l i j = wz (col k xs i) (j + 1) := fun i hi => by
    unfold shAt
    rw [hra, shs_get hjr]
    simp [hi]
  have : getA l j = (shs n k (rby k xs.length l (nums l)))[j.toNat]? := by
    rw [hra, shs_get hjr, shs_get hjr, rby_len hk]
    congr 1
    apply List.map_congr_left
    intro i hi
    have hi := List.mem_range.mp hi
    unfold rby
    rw [col_join k xs.length _ (fun i => pc_len) hk hi]
    have hpr := (hnn.take (wdt k xs.length i)).prs hn hl i
    by_cases hw : wdt k xs.length i ≤ (nums l).length
    · -- the column itself
      have e := hpr.uniq (xs := col k xs i) (col_row hx) (by rw [col_len, prs_len, List.length_take]; omega) fun p hp => by
        obtain ⟨j', hj', rfl⟩ := List.mem_map.mp hp
        have hm := List.mem_of_mem_take hj'
        have hj'' := hnn.rng j' hm
        have hra' := right_at hr (nums_mem.mp hm)
        show wz (col k xs i) (j' + 1) = shAt l i j'
        unfold shAt
        rw [hra', shs_get hj'']
        simp [hi]
      unfold pc
      rw [e]
      unfold fil
      rw [col_len, Nat.sub_self]
      simp
    · have ht : (nums l).take (wdt k xs.length i) = nums l := List.take_of_length_le (by omega)
      rw [← hat i hi]
      unfold pc
      rw [ht] at hpr ⊢
      have h3 := thr_worth hpr (q := (j + 1, shAt l i j)) (List.mem_map.mpr ⟨j, hj, rfl⟩)
      unfold fil
      rw [wz_app_zeros]
      exact h3.symm
  simp [agr, this]
end LK
namespace C12
open DL LE LH LG LK LP
local macro_rules | `(tactic| walk_at "w1") => `(tactic| with_reducible first
  | (refine ws_then ?_; try with_reducible dsimp only [List.set_cons_zero, List.set_cons_succ]) | refine ws_seq ?_ | refine ws_asg ?_ | refine ws_expr ?_ | refine ws_ret ?_ | refine ws_if ?_ | refine ws_asgT ?_ | refine ws_skip ?_ | refine ws_retN ?_ | refine ws_brk ?_ | refine ws_cont ?_ | refine ws_thenR ?_ | refine ws_thenB ?_ | refine ws_thenC ?_ | refine fq_rt ?_ | refine fq_nx ?_ | refine un_nx ?_ | refine un_ct ?_ | refine un_bk ?_ | refine un_rt ?_ | refine ws_loopN ?_
  | (refine ws_loopC (ρ1 := ?r) ?h ?q; (case h => with_unfolding_all rfl); try with_reducible dsimp only [List.set_cons_zero, List.set_cons_succ])
  | refine wp_c ?_ | refine wp_op2 ?_ | refine wp_fn ?_ | refine wp_cons ?_ | refine wp_nil ?_ | refine wp_call ?_ | refine wp_op1 ?_
  | (refine wp_var (d := ?d) ?h ?q; (case h => with_unfolding_all rfl))
  | (refine ws_aug (d := ?d) ?h ?q; (case h => with_unfolding_all rfl))
  | refine wp_tup ?_ | refine wp_lst ?_ | refine wp_lstM ?_ | refine wp_listM ?_
  | refine wp_sl0 ?_ | refine wp_sl1 ?_ | refine wp_sl2 ?_ | refine wp_sl3 ?_
  | refine wp_tval ?_ | refine wp_tnot ?_ | refine wp_tand ?_ | refine wp_tor ?_ | refine wp_tyes ?_ | refine wp_and ?_ | refine wp_or ?_ | refine wp_not ?_ | refine wp_ifx ?_ | refine wp_chain ?_ | refine wp_meth ?_ | refine wp_meth0 ?_
  | refine wp_isi ?_ | refine wp_isis ?_ | refine wp_repr ?_ | refine wp_maxD ?_ | refine wi_rng3 ?_
  | refine ws_par ?_ | refine wp_dnew ?_ | refine wp_get2 ?_ | refine wp_reprQ ?_ | refine wp_fnK ?_ | refine wi_valsI ?_ | refine wi_itemsI ?_ | refine ws_augI ?_
  | refine wi_seq ?_ | refine wi_rng1 ?_ | refine wi_rng2 ?_ | refine wi_zip2 ?_ | refine wi_zipS ?_
  | (refine wp_fnB (ρ := ?ρ) ?he ?_; (case he => (simp only [List.map_cons, List.map_nil, List.length_cons, List.length_nil, List.replicate, List.cons_append, List.nil_append, Nat.reduceAdd, Nat.reduceSub]; rfl))))
local macro_rules | `(tactic| walk_at "w2") => `(tactic| ((with_reducible refine wo_id ?_); with_reducible first
  | refine vo_sub ?_ | refine vo_add ?_ | refine vo_lt ?_ | refine vo_le ?_ | refine vo_gt ?_ | refine vo_ge ?_ | refine vo_eq ?_ | refine vo_ne ?_ | refine vo_eqS ?_ | refine vo_neS ?_ | refine vo_eqB ?_ | refine vo_neB ?_ | refine vo_neg ?_ | refine vo_slT ?_ | refine vo_slL ?_ | refine vo_slS ?_ | refine vo_lenT ?_ | refine vo_lenL ?_ | refine vo_lenS ?_ | refine vo_revT ?_ | refine vo_revL ?_ | refine vo_min ?_ | refine vo_max ?_ | refine vo_tupL ?_ | refine vo_tupT ?_ | refine vo_lisL ?_ | refine vo_lisT ?_
  | refine vo_igAdd ?_ | refine vo_igMulR (by omega) ?_ | refine vo_igMulL (by omega) ?_ | refine vo_mod (by omega) ?_ | refine vo_div (by omega) ?_ | refine vo_mulR (by omega) ?_ | refine vo_mulL (by omega) ?_
  | refine vo_ixL0 ?_ | refine vo_ixL1 ?_ | refine vo_ixL2 ?_ | refine vo_ixL3 ?_ | refine vo_ixL4 ?_ | refine vo_ixL5 ?_ | refine vo_ixL6 ?_ | refine vo_ixT0 ?_ | refine vo_ixT1 ?_ | refine vo_ixT2 ?_ | refine vo_ixT3 ?_ | refine vo_ixT4 ?_ | refine vo_ixT5 ?_ | refine vo_ixT6 ?_
  | refine vo_inT ?_ | refine vo_ninT ?_ | refine vo_inL ?_ | refine vo_ninL ?_ | refine vo_inI ?_ | refine vo_ninI ?_ | refine vo_sortI (by first | assumption | omega) ?_ | refine vo_sortL ?_ | refine vo_lenI ?_ | refine vo_lt3 ?_ | refine vo_isNN ?_ | refine vo_is3N ?_ | refine vo_isTN ?_ | refine vo_isIN ?_ | refine vo_igAddI ?_ | refine vo_ixI (by assumption) ?_
  | refine vo_vwD1 (by assumption) ?_ | refine vo_vwDc (by assumption) ?_
  | refine wo_vw1 (by assumption) ?_ | refine wo_vw2 (by assumption) ?_ | refine vo_vwc (by assumption) ?_
  | (refine vo_isi (c := ?c) ?h ?q; (case h => with_unfolding_all rfl)) | (refine vo_isis (c := ?c) ?h ?q; (case h => with_unfolding_all rfl))))
local macro_rules | `(tactic| walk_at "w3") => `(tactic| first
  | with_reducible refine ite_f ?_ | with_reducible refine ite_nt ?_ | with_reducible refine ite_nf ?_ | with_reducible refine ite_t ?_
  | ((with_reducible refine ex_id ?_); refine ⟨_, rfl, ?_⟩) | ((with_reducible refine and_id ?_); refine ⟨Nat.le_of_ble_eq_true rfl, ?_⟩))
local macro_rules | `(tactic| walk_at "w") => `(tactic| repeat (first | walk_at "w1" | walk_at "w2" | walk_at "w3"))
theorem wp_pshards {S : Sto} {n k : Nat} {xs : List Int} (hk : 1 ≤ k ∧ k ≤ 1000) (hn : n ≤ 900) (hx : xs.length ≤ 10000) {Q : D → Sto → Prop} {E : Px}
    (q : Q (.ref S.length) (S ++ [some (.lst ((shs n k xs).map rowD))])) : Wp (d_pshards [.tup [.int n, .int k], .tup (xs.map .int)] S) Q E := by
  unfold d_pshards b_pshards
  walk_at "w"
  unfold l_pshards_1
  refine ws_for [3] ?_
  walk_at "w"
  refine ⟨by omega, ?_⟩
  have hlen : (iRng 0 (n : Int)).length = n := by rw [iRng_len]; omega
  refine ⟨fun j vs S' => S' = S ++ [some (.lst (((shs n k xs).take j).map rowD))], [none], rfl, rfl, rfl, ?_, ?_⟩
  · rintro j d vs S' hj hv rfl
    obtain ⟨v3, rfl⟩ := len1 hv
    have hjn : j < n := by rw [← hlen]; exact lt_of_at hj
    obtain ⟨rfl, _⟩ := iRng_at hj
    refine ⟨_, rfl, ?_⟩
    dsimp only [putAll, List.set_cons_zero, List.set_cons_succ]
    unfold lb_pshards_1
    walk_at "w"
    refine ⟨by rw [lst_app]; rfl, ?_⟩
    walk_at "w"
    unfold c_pshards_1
    refine wp_compM1 (List.range (rgN 0 xs.length k)) (fun i => .int (0 + (i : Nat) * (k : Int))) (fun i => .int (wz (cutL xs (some (0 + (i : Nat) * (k : Int))) (some (0 + (i : Nat) * (k : Int) + k))) (0 + j + 1))) ?_ ?_
    · have := cols_len k xs
      unfold cols at this
      rw [List.length_map] at this
      omega
    · walk_at "w"
      rw [List.length_map]
      refine ⟨0, _, k, rfl, ⟨by omega, by omega, small_up (by omega) (by omega)⟩, rfl, fun i _ => ⟨_, rfl, ?_⟩, ?_⟩
      · unfold ce_pshards_1
        walk_at "w"
        rw [cut_map]
        refine wp_pworth (by omega) ⟨rfl, rfl⟩
      walk_at "w"
      refine ⟨_, _, _, app_at, gApp (by rw [List.length_map, List.length_take]; have : (shs n k xs).length = n := by simp [shs]
                                        omega), ?_⟩
      rw [set_last]
      refine ⟨[_], rfl, rfl, ?_⟩
      have hs : (shs n k xs)[j]? = some ((cols k xs).map fun c => wz c ((j : Nat) + 1)) := by
        unfold shs
        rw [List.getElem?_map, List.getElem?_range hjn]
        rfl
      have e1 : (shs n k xs).take (j + 1) = (shs n k xs).take j ++ [(cols k xs).map fun c => wz c ((j : Nat) + 1)] := by rw [List.take_succ, hs]; rfl
      show S ++ _ = S ++ _
      rw [e1, List.map_append, List.map_singleton]
      unfold rowD cols
      rw [List.map_map, List.map_map]
      simp only [Int.zero_add]
      rfl
  · rintro vs S' hv rfl
    obtain ⟨v3, rfl⟩ := len1 hv
    rw [hlen]
    walk_at "w"
    rw [List.take_of_length_le (by simp [shs])]
    exact q
theorem wp_psome {S : Sto} {n k m a : Nat} {p : Int} {xs : List Int} (hn : n ≤ 8) (hm : m ≤ n) (ha : S[a]? = some (some (.lst ((shs n k xs).map rowD)))) (a0 : a ≠ 0) (h : JarS S 0 p) (hp : p ≤ 900000000) {Q : D → Sto → Prop} {E : Px}
    (q : ∀ (l : List (Int × List Int)) (c : Nat) S', Sm n (rgN 0 xs.length k) l → (l.map (·.1)).Nodup → l.length = m → (∀ p ∈ l, (shs n k xs)[p.1.toNat]? = some p.2) → S.length ≤ c → S'[c]? = some (some (.dic false (kA rowD l))) → S'[a]? = some (some (.lst ((shs n k xs).map rowD))) → JarS S' 0 (p + 100) → Q (.ref c) S') : Wp (d_psome [.ref 0, .ref a, .int m] S) Q E := by
  have hsl : (shs n k xs).length = n := by simp [shs]
  unfold d_psome b_psome
  walk_at "w"
  refine wp_rgM ?_
  walk_at "w"
  rw [List.length_map, hsl]
  refine ⟨by omega, ?_⟩
  have h2 : (S ++ [some (.lst (((List.range n).map fun (k : Nat) => (k : Int)).map D.int))])[S.length]? = some (some (.lst (((List.range n).map fun (k : Nat) => (k : Int)).map .int))) := app_at
  have h1' := (Ext.app (S := S) (l := [some (.lst (((List.range n).map fun (k : Nat) => (k : Int)).map D.int))])).at_ ha
  have p2 : JarS (S ++ [some (.lst (((List.range n).map fun (k : Nat) => (k : Int)).map D.int))]) 0 p := h.ext .app
  have l2 : (S ++ [some (Ob.lst (((List.range n).map fun (k : Nat) => (k : Int)).map D.int))]).length = S.length + 1 := by simp
  have hS := h.lt
  have haS := lt_of_at ha
  generalize S ++ [some (.lst (((List.range n).map fun (k : Nat) => (k : Int)).map D.int))] = S2 at *
  walk_at "w"
  have h3 : (S2 ++ [some (.dic false (kI []))])[S2.length]? = some (some (.dic false (kA rowD []))) := app_at
  have h1'' := (Ext.app (S := S2) (l := [some (.dic false (kI []))])).at_ h1'
  have h2' := (Ext.app (S := S2) (l := [some (.dic false (kI []))])).at_ h2
  have p3 : JarS (S2 ++ [some (.dic false (kI []))]) 0 p := p2.ext .app
  generalize S2 ++ [some (.dic false (kI []))] = S3 at *
  obtain ⟨b, hb⟩ : ∃ b, b = S.length := ⟨_, rfl⟩
  obtain ⟨c, hc⟩ : ∃ c, c = S2.length := ⟨_, rfl⟩
  rw [← hb] at h2'
  rw [← hc] at h3
  rw [← hb, ← hc]
  have b0 : b ≠ 0 := by omega
  have c0 : c ≠ 0 := by omega
  have ab : a ≠ b := by omega
  have ac : a ≠ c := by omega
  have bc : b ≠ c := by omega
  walk_at "w"
  unfold l_psome_1
  refine ws_for [5, 6] ?_
  walk_at "w"
  refine ⟨by omega, ?_⟩
  have hlen : (iRng 0 (m : Int)).length = m := by rw [iRng_len]; omega
  refine ⟨fun j vs S' => ∃ (l : List (Int × List Int)) (ls : List Int) (d7 d8 : Option D), vs = [d7, d8] ∧ S'[a]? = some (some (.lst ((shs n k xs).map rowD))) ∧ S'[b]? = some (some (.lst (ls.map .int))) ∧ ls.length = n - j ∧ (∀ x ∈ ls, 0 ≤ x ∧ x < n) ∧ S'[c]? = some (some (.dic false (kA rowD l))) ∧ (l.length = j ∧ ls.Nodup ∧ (l.map (·.1)).Nodup ∧ (∀ x ∈ ls, x ∉ l.map (·.1)) ∧ (∀ p ∈ l, (shs n k xs)[p.1.toNat]? = some p.2)) ∧ (∀ p ∈ l, 0 ≤ p.1 ∧ p.1 < n) ∧ (∀ p ∈ l, Row p.2 ∧ p.2.length = rgN 0 xs.length k) ∧ JarS S' 0 (p + j), [none, none], rfl, rfl, ⟨[], _, none, none, rfl, h1'', h2', by simp, fun x hx => by obtain ⟨z, hz, rfl⟩ := List.mem_map.mp hx; have := List.mem_range.mp hz; omega, h3, ⟨rfl, rgI_nd n, by simp, by simp, by simp⟩, by simp, by simp, p3.mono (by omega)⟩, ?_, ?_⟩
  · rintro j d vs S' hj hv ⟨l, ls, d7, d8, rfl, g1, g2, hll, hls, g3, ⟨hln, hlnd, hknd, hdis, hrt⟩, hkey, hrow, p4⟩
    have hj' := (List.getElem?_eq_some_iff.mp hj).1
    rw [hlen] at hj'
    refine ⟨_, rfl, ?_⟩
    dsimp only [putAll, List.set_cons_zero, List.set_cons_succ]
    unfold lb_psome_1
    walk_at "w"
    refine ⟨lst_some g2, ?_⟩
    walk_at "w"
    rw [List.length_map]
    refine wp_pdraw p4 (by omega) (by omega) fun u T u0 u1 p5 o5 => ?_
    have g1 := (o5.2 a a0).trans g1
    have g2 := (o5.2 b b0).trans g2
    have g3 := (o5.2 c c0).trans g3
    walk_at "w"
    obtain ⟨x, hxl, gp, hpos⟩ := gPopI2 (L := ls) ⟨u0, u1⟩ (by omega)
    have hxn := hls x hxl
    refine ⟨_, _, _, g2, gp, ?_⟩
    refine set_gen g2 fun T2 g2 o6 => ?_
    have g1 := (o6.2 a ab).trans g1
    have g3 := (o6.2 c (Ne.symm bc)).trans g3
    have p6 := p5.only o6 (Ne.symm b0)
    walk_at "w"
    refine ws_setA rowD ?_
    walk_at "w"
    obtain ⟨r, hr, er⟩ := row_at2 (rs := shs n k xs) (i := x) ⟨hxn.1, by rw [hsl]; exact hxn.2⟩
    refine wo_ixL er ?_
    walk_at "w"
    refine ⟨c, l, x, r, rfl, rfl, rfl, g3, by omega, ?_⟩
    refine ⟨[some d, some (.int x)], rfl, rfl, putA l x r, ls.eraseIdx u.toNat, _, _, rfl, ?_, ?_, ?_, fun y hy => hls y (List.mem_of_mem_eraseIdx hy), set_at g3, ?_, fun z hz => ?_, fun z hz => ?_, (p6.only .set (Ne.symm c0)).mono (by omega)⟩
    · rw [List.getElem?_set_ne (Ne.symm ac)]; exact g1
    · rw [List.getElem?_set_ne (Ne.symm bc)]; exact g2
    · rw [List.length_eraseIdx_of_lt (by omega)]
      omega
    · have hxn2 := hdis x hxl
      have hpn := putA_new (v := r) hxn2
      refine ⟨by rw [hpn]; simp; omega, hlnd.sublist (List.eraseIdx_sublist _ _), ?_, ?_, ?_⟩
      · rw [hpn, List.map_append, List.nodup_append]
        refine ⟨hknd, by simp, fun y hy w hw => ?_⟩
        simp at hw
        subst hw
        exact fun e => hxn2 (e ▸ hy)
      · intro y hy
        rw [hpn, List.map_append, List.mem_append, not_or]
        refine ⟨hdis y (List.mem_of_mem_eraseIdx hy), ?_⟩
        simp
        exact fun e => nd_erase hlnd hpos (e ▸ hy)
      · intro z hz
        rcases putA_mem hz with hz | rfl
        · exact hrt z hz
        · exact hr
    · rcases putA_mem hz with hz | rfl
      · exact hkey z hz
      · exact hxn
    · rcases putA_mem hz with hz | rfl
      · exact hrow z hz
      · exact shs_c (List.mem_of_getElem? hr)
  · rintro vs S' hv ⟨l, ls, d7, d8, rfl, g1, g2, hll, hls, g3, ⟨hln, hlnd, hknd, hdis, hrt⟩, hkey, hrow, p4⟩
    rw [hlen] at hln p4
    walk_at "w"
    exact q l c S' ⟨by omega, hkey, hrow⟩ hknd hln hrt (by omega) g3 g1 (p4.mono (by omega))
end C12
set_option Elab.async false
set_option linter.all false
set_option maxRecDepth 100000
set_option maxHeartbeats 4000000
namespace C12
open DL LE LH LG LK LP
local macro_rules | `(tactic| walk_at "w1") => `(tactic| with_reducible first
  | (refine ws_then ?_; try with_reducible dsimp only [List.set_cons_zero, List.set_cons_succ]) | refine ws_seq ?_ | refine ws_asg ?_ | refine ws_expr ?_ | refine ws_ret ?_ | refine ws_if ?_ | refine ws_asgT ?_ | refine ws_skip ?_ | refine ws_retN ?_ | refine ws_brk ?_ | refine ws_cont ?_ | refine ws_thenR ?_ | refine ws_thenB ?_ | refine ws_thenC ?_ | refine fq_rt ?_ | refine fq_nx ?_ | refine un_nx ?_ | refine un_ct ?_ | refine un_bk ?_ | refine un_rt ?_ | refine ws_loopN ?_
  | (refine ws_loopC (ρ1 := ?r) ?h ?q; (case h => with_unfolding_all rfl); try with_reducible dsimp only [List.set_cons_zero, List.set_cons_succ])
  | refine wp_c ?_ | refine wp_op2 ?_ | refine wp_fn ?_ | refine wp_cons ?_ | refine wp_nil ?_ | refine wp_call ?_ | refine wp_op1 ?_
  | (refine wp_var (d := ?d) ?h ?q; (case h => with_unfolding_all rfl))
  | (refine ws_aug (d := ?d) ?h ?q; (case h => with_unfolding_all rfl))
  | refine wp_tup ?_ | refine wp_lst ?_ | refine wp_lstM ?_ | refine wp_listM ?_
  | refine wp_sl0 ?_ | refine wp_sl1 ?_ | refine wp_sl2 ?_ | refine wp_sl3 ?_
  | refine wp_tval ?_ | refine wp_tnot ?_ | refine wp_tand ?_ | refine wp_tor ?_ | refine wp_tyes ?_ | refine wp_and ?_ | refine wp_or ?_ | refine wp_not ?_ | refine wp_ifx ?_ | refine wp_chain ?_ | refine wp_meth ?_ | refine wp_meth0 ?_
  | refine wp_isi ?_ | refine wp_isis ?_ | refine wp_repr ?_ | refine wp_maxD ?_ | refine wi_rng3 ?_
  | refine ws_par ?_ | refine wp_dnew ?_ | refine wp_get2 ?_ | refine wp_reprQ ?_ | refine wp_fnK ?_ | refine wi_valsI ?_ | refine wi_itemsI ?_ | refine ws_augI ?_
  | refine wi_seq ?_ | refine wi_rng1 ?_ | refine wi_rng2 ?_ | refine wi_zip2 ?_ | refine wi_zipS ?_
  | (refine wp_fnB (ρ := ?ρ) ?he ?_; (case he => (simp only [List.map_cons, List.map_nil, List.length_cons, List.length_nil, List.replicate, List.cons_append, List.nil_append, Nat.reduceAdd, Nat.reduceSub]; rfl))))
local macro_rules | `(tactic| walk_at "w2") => `(tactic| ((with_reducible refine wo_id ?_); with_reducible first
  | refine vo_sub ?_ | refine vo_add ?_ | refine vo_lt ?_ | refine vo_le ?_ | refine vo_gt ?_ | refine vo_ge ?_ | refine vo_eq ?_ | refine vo_ne ?_ | refine vo_eqS ?_ | refine vo_neS ?_ | refine vo_eqB ?_ | refine vo_neB ?_ | refine vo_neg ?_ | refine vo_slT ?_ | refine vo_slL ?_ | refine vo_slS ?_ | refine vo_lenT ?_ | refine vo_lenL ?_ | refine vo_lenS ?_ | refine vo_revT ?_ | refine vo_revL ?_ | refine vo_min ?_ | refine vo_max ?_ | refine vo_tupL ?_ | refine vo_tupT ?_ | refine vo_lisL ?_ | refine vo_lisT ?_
  | refine vo_igAdd ?_ | refine vo_igMulR (by omega) ?_ | refine vo_igMulL (by omega) ?_ | refine vo_mod (by omega) ?_ | refine vo_div (by omega) ?_ | refine vo_mulR (by omega) ?_ | refine vo_mulL (by omega) ?_
  | refine vo_ixL0 ?_ | refine vo_ixL1 ?_ | refine vo_ixL2 ?_ | refine vo_ixL3 ?_ | refine vo_ixL4 ?_ | refine vo_ixL5 ?_ | refine vo_ixL6 ?_ | refine vo_ixT0 ?_ | refine vo_ixT1 ?_ | refine vo_ixT2 ?_ | refine vo_ixT3 ?_ | refine vo_ixT4 ?_ | refine vo_ixT5 ?_ | refine vo_ixT6 ?_
  | refine vo_inT ?_ | refine vo_ninT ?_ | refine vo_inL ?_ | refine vo_ninL ?_ | refine vo_inI ?_ | refine vo_ninI ?_ | refine vo_sortI (by first | assumption | omega) ?_ | refine vo_sortL ?_ | refine vo_lenI ?_ | refine vo_lt3 ?_ | refine vo_isNN ?_ | refine vo_is3N ?_ | refine vo_isTN ?_ | refine vo_isIN ?_ | refine vo_igAddI ?_ | refine vo_ixI (by assumption) ?_
  | refine vo_vwD1 (by assumption) ?_ | refine vo_vwDc (by assumption) ?_
  | refine wo_vw1 (by assumption) ?_ | refine wo_vw2 (by assumption) ?_ | refine vo_vwc (by assumption) ?_
  | (refine vo_isi (c := ?c) ?h ?q; (case h => with_unfolding_all rfl)) | (refine vo_isis (c := ?c) ?h ?q; (case h => with_unfolding_all rfl))))
local macro_rules | `(tactic| walk_at "w3") => `(tactic| first
  | with_reducible refine ite_f ?_ | with_reducible refine ite_nt ?_ | with_reducible refine ite_nf ?_ | with_reducible refine ite_t ?_
  | ((with_reducible refine ex_id ?_); refine ⟨_, rfl, ?_⟩) | ((with_reducible refine and_id ?_); refine ⟨Nat.le_of_ble_eq_true rfl, ?_⟩))
local macro_rules | `(tactic| walk_at "w") => `(tactic| repeat (first | walk_at "w1" | walk_at "w2" | walk_at "w3"))
theorem tg_row {xs : List Int} (h : Row xs) (hl : xs.length ≤ 1200) : Tg (rowD xs) := by
  refine ⟨sm_row h, ?_, ?_, fun ds e => ?_⟩
  · have := wt_row xs; unfold rowD; omega
  · have := dp_row xs; unfold rowD; omega
  · unfold rowD at e
    cases e
    rw [List.length_map]; omega
theorem sg_all {xs : List Int} (h : Row xs) : (xs.map D.int).all sg1 = true := by
  rw [List.all_eq_true]
  intro d hd
  obtain ⟨x, hx, rfl⟩ := List.mem_map.mp hd
  have := h x hx
  simp [sg1, this]
theorem okT_of {n k size : Nat} {l : List (Int × List Int)} {xs : List Int} (h : Row xs) (hl : xs.length = size) (hw : wrongL n k xs l = []) : okT n k size l (rowD xs) = true := by
  show ((xs.map D.int).all sg1 && (decide ((xs.map D.int).length = size) && decide (wrongL n k (intsD (.tup (xs.map .int))) l = []))) = true
  rw [sg_all h, intsD_row, List.length_map, decide_eq_true hl, decide_eq_true hw]
  rfl
theorem QD.toldB {r : Nat → Option PySem.PyData} {xs ws : List Int} (hx : Row xs) (hl : xs.length ≤ 1200) (hw : ∀ j ∈ ws, 0 ≤ j ∧ j ≤ 100) (hwl : ws.length ≤ 10) : QD r (.tup [.str "row", rowD xs, .lst (ws.map .int)]) (toldP xs ws) 2000 2 :=
  (QD.tup (QDs.cons ((QD.str reprRow).mono (Nat.le_refl _) (Nat.zero_le 1)) (QDs.cons (QD.row hx) (QDs.cons (QD.lst (QDs.ints fun j hj => by have := hw j hj; omega)) QDs.nil)))).mono (by omega) (by omega)
/-- a row looked at -/
theorem wp_look {S : Sto} {n k : Nat} {l : List (Int × List Int)} {xs row : List Int} (hk : 1 ≤ k ∧ k ≤ 8) (hn : n ≤ 8) (hl : Sm n (rgN 0 xs.length k) l) (hx : Row xs) (hxl : xs.length ≤ 1200) (hrl : xs.length = row.length) (hw : wrongL n k xs l = []) {s3 s5 s6 s7 : Option D} {Q : Fl → Sto → Prop} {E : Xs}
    (q : ∀ s5 S', Ext S S' → Q (.nx [some (.tup [.int n, .int k]), some (.tup (row.map .int)), some (dA rowD l), s3, some (rowD xs), s5, s6, s7]) S') :
    Ws (lb_pfew_right_1 [some (.tup [.int n, .int k]), some (.tup (row.map .int)), some (dA rowD l), s3, some (rowD xs), s5, s6, s7] S) Q E := by
  have hll := hl.len
  unfold lb_pfew_right_1
  rw [show rowD xs = .tup (xs.map .int) from rfl] at *
  walk_at "w"
  unfold i_pfew_right_2
  walk_at "w"
  rw [List.length_map, List.length_map]
  refine ite_nd (fun h => absurd (by rw [hrl]) h) (fun _ => ?_)
  walk_at "w"
  unfold i_pfew_right_3
  walk_at "w"
  unfold c_pfew_right_1
  refine wp_compM1 xs D.int (fun _ => .bl true) (by omega) ?_
  walk_at "w"
  refine ⟨_, Or.inl rfl, rfl, fun x hx' => ⟨_, rfl, ?_⟩, ?_⟩
  · have hr := hx x hx'
    unfold ce_pfew_right_1
    walk_at "w"
    refine ite_d (fun _ => ?_) (fun h => absurd hr.1 h)
    walk_at "w"
    exact ⟨by rw [decide_eq_true hr.2], rfl⟩
  walk_at "w"
  refine .of (d := .bl true) ?_ ?_
  · show allD [.lst (xs.map fun x => .bl ((fun _ => true) x))] = _
    simp only [allD, asBs_mp, Option.map_some, all_mp]
    simp
  walk_at "w"
  refine wp_pshards (by omega) (by omega) (by omega) ?_
  have g1 : (S ++ [some (.lst ((shs n k xs).map rowD))])[S.length]? = some (some (.lst ((shs n k xs).map rowD))) := app_at
  have e1 : Ext S (S ++ [some (.lst ((shs n k xs).map rowD))]) := .app
  generalize S ++ [some (.lst ((shs n k xs).map rowD))] = T at *
  generalize S.length = b at *
  walk_at "w"
  unfold i_pfew_right_4
  walk_at "w"
  unfold c_pfew_right_2
  refine wp_compM1 (l.map (·.1)) D.int (fun _ => .bl true) (by rw [List.length_map]; omega) ?_
  walk_at "w"
  refine ⟨(kA rowD l).map (·.1), Or.inr rfl, keys_A l, fun j hj => ⟨_, rfl, ?_⟩, ?_⟩
  · obtain ⟨v, hv⟩ := getA_has hj
    have hjn := hl.key _ (getA_mem hv)
    have hsl : (shs n k xs).length = n := by simp [shs]
    obtain ⟨r, hr, er⟩ := row_at2 (rs := shs n k xs) (i := j) ⟨hjn.1, by rw [hsl]; exact hjn.2⟩
    have hvr : v = r := by
      rw [wrong_agr, List.filter_eq_nil_iff] at hw
      have := hw j (nums_mem.mpr hj)
      simp only [agr, hv, hr, Bool.not_eq_true', decide_eq_false_iff_not, Classical.not_not] at this
      exact Option.some.inj this
    unfold ce_pfew_right_2
    walk_at "w"
    refine wo_ixL er ?_
    walk_at "w"
    refine vo_ixA hv ?_
    refine .of (eqD_tupI r v) ?_
    rw [hvr, decide_eq_true rfl]
    exact ⟨rfl, rfl⟩
  walk_at "w"
  refine .of (d := .bl true) ?_ ?_
  · show allD [.lst ((l.map (·.1)).map fun x => .bl ((fun _ => true) x))] = _
    simp only [allD, asBs_mp, Option.map_some, all_mp]
    simp
  walk_at "w"
  exact q _ _ e1
theorem wp_pfew_right {S : Sto} {n k : Nat} {xs : List Int} {l : List (Int × List Int)} (hk : 1 ≤ k ∧ k ≤ 8) (hn : n ≤ 8) (hx : Row xs) (hs : 8 ≤ xs.length ∧ xs.length ≤ 1200) (hl : Sm n (rgN 0 xs.length k) l) (hnd : (l.map (·.1)).Nodup) (hr : ∀ p ∈ l, (shs n k xs)[p.1.toNat]? = some p.2) (hlt : l.length < k) {Q : D → Sto → Prop} {E : Px}
    (q : ∀ S', Ext S S' → Q (.bl true) S') : Wp (d_pfew_right [.tup [.int n, .int k], .tup (xs.map .int), dA rowD l] S) Q E := by
  have hrg := @rgN_le xs.length k
  have hll := hl.len
  have hnn := nums_nums hl hnd
  have hnl := nums_len l
  unfold d_pfew_right b_pfew_right
  walk_at "w"
  rw [List.length_map]
  refine wp_told_by hk hn (by omega) (by omega) hl hnd ?_
  have hrl := rby_len (size := xs.length) hk.1 (l := l) (ws := nums l)
  have hrr := rby_row (k := k) (size := xs.length) (l := l) (ws := nums l)
  have hw := few_right hk.1 (by omega) hx hl hnd hr
  unfold toldD
  rw [if_pos (by omega)]
  unfold fewD
  rw [if_pos hw]
  have hvl := vanR_len (nums l)
  have hol : (sums (rby k xs.length l (nums l)) (vanR (nums l))).length = xs.length := by rw [sums_len, hvl, hrl]; omega
  have hne := sums_ne (ws := nums l) hrr (by rw [hrl]; omega)
  have how : wrongL n k (sums (rby k xs.length l (nums l)) (vanR (nums l))) l = [] := by
    rw [wrong_same (xs := rby k xs.length l (nums l)) fun j hj => few_other hk.1 (by omega) hrr hnn (by rw [hrl]; omega) hj]
    exact hw
  have hor := row_sums (rby k xs.length l (nums l)) (vanR (nums l))
  generalize rby k xs.length l (nums l) = r at *
  generalize sums r (vanR (nums l)) = o at *
  walk_at "w"
  unfold i_pfew_right_1
  walk_at "w"
  refine ite_nd (fun h => absurd rfl h) (fun _ => ?_)
  walk_at "w"
  refine ite_nd (fun h => absurd rfl h) (fun _ => ?_)
  walk_at "w"
  refine .of (eqD_tupI r o) ?_
  walk_at "w"
  refine ite_d (fun h => absurd h hne) (fun _ => ?_)
  walk_at "w"
  unfold l_pfew_right_1
  refine ws_forU ?_
  walk_at "w"
  rw [show cutD [D.str "few", rowD r, rowD o] (some 1) none = [rowD r, rowD o] from rfl]
  refine ⟨_, Or.inl rfl, ?_⟩
  walk_at "w"
  refine wp_look hk hn (by rw [hrl]; exact hl) hrr (by omega) hrl hw fun s5 S1 e1 => ?_
  walk_at "w"
  refine wp_look hk hn (by rw [hol]; exact hl) hor (by omega) hol how fun s5 S2 e2 => ?_
  walk_at "w"
  unfold i_pfew_right_5
  walk_at "w"
  rw [List.length_map]
  refine wp_are_ghosts (by omega) hn (by omega) hl (tg_row hrr (by omega)) (tg_row hrr (by omega)) ?_
  have hg0 : ghost n k xs.length l (rowD r) (rowD r) = false := by
    unfold ghost
    rw [okT_of hrr hrl hw]
    simp
  rw [hg0]
  walk_at "w"
  refine .of rfl ?_
  refine ⟨_, rfl, ?_⟩
  refine ⟨fun h => absurd h (by decide), fun _ => ?_⟩
  walk_at "w"
  rw [List.length_map]
  refine wp_are_ghosts (by omega) hn (by omega) hl (tg_row hrr (by omega)) (tg_row hor (by omega)) ?_
  have hg : ghost n k xs.length l (rowD r) (rowD o) = true := by
    unfold ghost
    rw [okT_of hrr hrl hw, okT_of hor hol how]
    show (true && (true && !decide (intsD (.tup (r.map .int)) = intsD (.tup (o.map .int))))) = true
    rw [intsD_row, intsD_row, decide_eq_false hne]
    rfl
  rw [hg]
  walk_at "w"
  exact .of rfl (q _ (e1.trans e2))
theorem full_keys {n c : Nat} {l : List (Int × List Int)} (hl : Sm n c l) (hnd : (l.map (·.1)).Nodup) (hn : l.length = n) {j : Int} (hj : 0 ≤ j ∧ j < n) : j ∈ l.map (·.1) := by
  refine Classical.byContradiction fun h => ?_
  have hnd2 : (j :: l.map (·.1)).Nodup := List.nodup_cons.mpr ⟨h, hnd⟩
  have h1 := isI_pw (j :: l.map (·.1))
  have h2 : (isI (j :: l.map (·.1))).Nodup := (isI_perm _).nodup_iff.mpr hnd2
  have h3 : (isI (j :: l.map (·.1))).Pairwise (· < ·) := (h1.and h2).imp fun {a b} h => by have := h.2; omega
  have h4 := lt_len _ 0 n h3 fun x hx => by
    rcases List.mem_cons.mp ((isI_perm _).mem_iff.mp hx) with rfl | hx
    · exact hj
    · obtain ⟨v, hv⟩ := getA_has hx
      have := hl.key _ (getA_mem hv)
      exact ⟨this.1, this.2⟩
  rw [isI_len] at h4
  simp at h4
  omega
theorem wp_pchanged_right {S : Sto} {n k a : Nat} {p : Int} {xs : List Int} (hk : 1 ≤ k ∧ k ≤ 8) (hkn : k ≤ n) (hn : n ≤ 8) (hx : Row xs) (hs : 61 ≤ xs.length ∧ xs.length ≤ 1200) (ha : S[a]? = some (some (.lst ((shs n k xs).map rowD)))) (a0 : a ≠ 0) (h : JarS S 0 p) (hp : p ≤ 800000000) {Q : D → Sto → Prop} {E : Px}
    (q : ∀ S', JarS S' 0 (p + 1000) → Q (.bl true) S') : Wp (d_pchanged_right [.ref 0, .tup [.int n, .int k], .tup (xs.map .int), .ref a] S) Q E := by
  unfold d_pchanged_right b_pchanged_right
  walk_at "w"
  unfold i_pchanged_right_1
  walk_at "w"
  refine ite_d (fun _ => ?_) (fun hmost => ?_)
  · walk_at "w"
    exact q _ (h.mono (by omega))
  walk_at "w"
  obtain ⟨mo, hmo⟩ : ∃ m : Int, m = ((n : Int) - k) / 2 := ⟨_, rfl⟩
  rw [← hmo] at hmost ⊢
  refine ws_midT (fun f S' => ∃ (xs : List Int) (a : Nat), f = .nx [some (.ref 0), some (.tup [.int n, .int k]), some (.tup (xs.map .int)), some (.ref a), some (.int mo), none, none, none, none, none, none] ∧ Row xs ∧ (61 ≤ xs.length ∧ xs.length ≤ 1200) ∧ S'[a]? = some (some (.lst ((shs n k xs).map rowD))) ∧ a ≠ 0 ∧ JarS S' 0 (p + 1)) ?_ ?_
  · unfold i_pchanged_right_2
    walk_at "w"
    refine ite_d (fun _ => ?_) (fun _ => ?_)
    · walk_at "w"
      refine wp_pdraw h (by omega) (by omega) fun u S1 u0 u1 p1 o1 => ?_
      walk_at "w"
      rw [cut_map, cutL_take _ _ (by omega)]
      walk_at "w"
      have hl1 : 61 ≤ (xs.take (61 + u).toNat).length ∧ (xs.take (61 + u).toNat).length ≤ 1200 := by rw [List.length_take]; omega
      have hr1 : Row (xs.take (61 + u).toNat) := fun x hx' => hx x (List.mem_of_mem_take hx')
      generalize xs.take (61 + u).toNat = ys at *
      refine wp_pshards (by omega) (by omega) (by omega) ?_
      walk_at "w"
      have := p1.lt
      exact ⟨ys, S1.length, rfl, hr1, hl1, app_at, by omega, (p1.ext .app).mono (by omega)⟩
    · walk_at "w"
      exact ⟨xs, a, rfl, hx, hs, ha, a0, h.mono (by omega)⟩
  clear ha a0 h hx hs xs a
  rintro f S1 ⟨xs, a, rfl, hx, hs, ha, a0, h1⟩
  have hrg := @rgN_le xs.length k
  have hrp : 1 ≤ rgN 0 xs.length k := by
    have := rgN_ge (s := xs.length) hk.1
    rcases Nat.eq_zero_or_pos (rgN 0 xs.length k) with h | h
    · rw [h] at this; omega
    · exact h
  have hsl : (shs n k xs).length = n := by simp [shs]
  walk_at "w"
  refine wp_psome hn (Nat.le_refl _) ha a0 h1 (by omega) fun l c S2 hl hnd hln hrt hac hc ha2 p2 => ?_
  have hal := lt_of_at ha
  have c0 : c ≠ 0 := by omega
  have ac : a ≠ c := by omega
  have hcl := lt_of_at hc
  walk_at "w"
  have hw : (S2 ++ [some (.lst ([] : List D))])[S2.length]? = some (some (.lst (([] : List Int).map .int))) := app_at
  have hc3 := (Ext.app (S := S2) (l := [some (.lst ([] : List D))])).at_ hc
  have ha3 := (Ext.app (S := S2) (l := [some (.lst ([] : List D))])).at_ ha2
  have p3 : JarS (S2 ++ [some (.lst ([] : List D))]) 0 (p + 1 + 100) := p2.ext .app
  generalize S2 ++ [some (.lst ([] : List D))] = S3 at *
  obtain ⟨w, hwe⟩ : ∃ w, w = S2.length := ⟨_, rfl⟩
  rw [← hwe] at hw ⊢
  have w0 : w ≠ 0 := by omega
  have aw : a ≠ w := by have := lt_of_at ha2; omega
  have cw : c ≠ w := by omega
  walk_at "w"
  unfold l_pchanged_right_1
  refine ws_for [7, 8, 9, 10] ?_
  walk_at "w"
  refine wp_pdraw p3 (by omega) (by omega) fun u S4 u0 u1 p4 o4 => ?_
  have hw := (o4.2 w w0).trans hw
  have hc4 := (o4.2 c c0).trans hc3
  have ha4 := (o4.2 a a0).trans ha3
  walk_at "w"
  refine ⟨by omega, ?_⟩
  have hlen : ((iRng 0 (1 + u)).length : Int) ≤ mo := by rw [iRng_len]; omega
  refine ⟨fun t vs S' => ∃ (l' : List (Int × List Int)) (fs : List Int), S'[c]? = some (some (.dic false (kA rowD l'))) ∧ S'[w]? = some (some (.lst (fs.map .int))) ∧ S'[a]? = some (some (.lst ((shs n k xs).map rowD))) ∧ Sm n (rgN 0 xs.length k) l' ∧ l'.map (·.1) = l.map (·.1) ∧ (fs.Nodup ∧ fs.length ≤ t ∧ ∀ x ∈ fs, x ∈ l.map (·.1)) ∧ (∀ j ∈ l.map (·.1), j ∈ fs → getA l' j ≠ getA l j) ∧ (∀ j, j ∉ fs → getA l' j = getA l j) ∧ JarS S' 0 (p + 110 + 5 * t), [none, none, none, none], rfl, rfl, ⟨l, [], hc4, hw, ha4, hl, rfl, ⟨by simp, by simp, by simp⟩, by simp, fun _ _ => rfl, p4.mono (by omega)⟩, ?_, ?_⟩
  · rintro t d vs S5 ht hv ⟨l', fs, hc5, hw5, ha5, hl', hk', ⟨fnd, fln, fmm⟩, hdif, hsam, p5⟩
    obtain ⟨v7, v8, v9, v10, rfl⟩ := len4 hv
    have ht' := lt_of_at ht
    refine ⟨_, rfl, ?_⟩
    dsimp only [putAll, List.set_cons_zero, List.set_cons_succ]
    unfold lb_pchanged_right_1
    walk_at "w"
    refine wp_pdraw p5 (by omega) (by omega) fun j S6 j0 j1 p6 o6 => ?_
    have hw6 := (o6.2 w w0).trans hw5
    have hc6 := (o6.2 c c0).trans hc5
    have ha6 := (o6.2 a a0).trans ha5
    walk_at "w"
    unfold i_pchanged_right_3
    walk_at "w"
    refine ite_nd (fun hnin => ?_) (fun _ => ?_)
    · have hjm := full_keys hl hnd hln ⟨j0, j1⟩
      have hjm' : j ∈ l'.map (·.1) := by rw [hk']; exact hjm
      obtain ⟨v, hv, ev⟩ := row_at2 (rs := shs n k xs) (i := j) ⟨j0, by rw [hsl]; exact j1⟩
      have hvr := shs_c (List.mem_of_getElem? hv)
      have hra := right_at hrt hjm
      walk_at "w"
      refine wo_ixL ev ?_
      rw [show rowD v = .tup (v.map .int) from rfl]
      walk_at "w"
      rw [List.length_map]
      refine wp_pdraw p6 (by omega) (by omega) fun x S7 x0 x1 p7 o7 => ?_
      have hw7 := (o7.2 w w0).trans hw6
      have hc7 := (o7.2 c c0).trans hc6
      have ha7 := (o7.2 a a0).trans ha6
      walk_at "w"
      refine wo_ixL ev ?_
      rw [show rowD v = .tup (v.map .int) from rfl]
      walk_at "w"
      have hxl : x.toNat < v.length := by omega
      obtain ⟨z, hz⟩ : ∃ z, z = v[x.toNat] := ⟨_, rfl⟩
      have ez : L2.atI (v.map D.int) x = some (.int z) := by rw [atI_in x0 (by rw [List.length_map]; omega), List.getElem_map, hz]
      have hzr := hvr.1 z (by rw [hz]; exact List.getElem_mem _)
      refine wo_ixT ez ?_
      walk_at "w"
      refine wp_pdraw p7 (by omega) (by omega) fun y S8 y0 y1 p8 o8 => ?_
      have hw8 := (o8.2 w w0).trans hw7
      have hc8 := (o8.2 c c0).trans hc7
      have ha8 := (o8.2 a a0).trans ha7
      walk_at "w"
      refine ws_setA rowD ?_
      walk_at "w"
      refine wo_ixL ev ?_
      rw [show rowD v = .tup (v.map .int) from rfl]
      walk_at "w"
      rw [cut_map, cut_to x0]
      walk_at "w"
      refine vo_addT (by simp; omega) ?_
      walk_at "w"
      refine wo_ixL ev ?_
      rw [show rowD v = .tup (v.map .int) from rfl]
      walk_at "w"
      rw [cut_map, cut_from (by omega)]
      refine vo_addT (by simp; omega) ?_
      walk_at "w"
      have hv2 : Row (v.take x.toNat ++ [(z + 1 + y) % 31] ++ v.drop (x + 1).toNat) ∧ (v.take x.toNat ++ [(z + 1 + y) % 31] ++ v.drop (x + 1).toNat).length = rgN 0 xs.length k := by
        refine ⟨fun x hx => ?_, by simp; omega⟩
        rcases List.mem_append.mp hx with hx | hx
        · rcases List.mem_append.mp hx with hx | hx
          · exact hvr.1 x (List.mem_of_mem_take hx)
          · simp at hx; omega
        · exact hvr.1 x (List.mem_of_mem_drop hx)
      have hdv : (v.take x.toNat ++ [(z + 1 + y) % 31] ++ v.drop (x + 1).toNat) ≠ v := by
        intro e
        have e2 := congrArg (fun l => l[x.toNat]?) e
        rw [List.append_assoc, List.getElem?_append_right (by rw [List.length_take]; omega), List.length_take, Nat.min_eq_left (by omega), Nat.sub_self, List.getElem?_eq_getElem hxl, ← hz] at e2
        simp at e2
        omega
      refine ⟨c, l', j, v.take x.toNat ++ [(z + 1 + y) % 31] ++ v.drop (x + 1).toNat, rfl, rfl, by simp [rowD], hc8, by have := hl'.len; omega, ?_⟩
      generalize v.take x.toNat ++ [(z + 1 + y) % 31] ++ v.drop (x + 1).toNat = v2 at *
      refine set_gen hc8 fun S9 hc9 o9 => ?_
      have hw9 := (o9.2 w (Ne.symm cw)).trans hw8
      have ha9 := (o9.2 a ac).trans ha8
      have p9 := p8.only o9 (Ne.symm c0)
      walk_at "w"
      refine ⟨lst_some hw9, ?_⟩
      walk_at "w"
      refine ⟨_, _, _, hw9, gApp (by rw [List.length_map]; omega), ?_⟩
      refine set_gen hw9 fun SA hwA oA => ?_
      have hcA := (oA.2 c cw).trans hc9
      have haA := (oA.2 a aw).trans ha9
      have pA := p9.only oA (Ne.symm w0)
      walk_at "w"
      refine ⟨[_, _, _, _], rfl, rfl, putA l' j v2, fs ++ [j], hcA, by rw [List.map_append]; exact hwA, haA, hl'.put hjm' hv2, (putA_keys hjm').trans hk', ⟨?_, by simp; omega, ?_⟩, ?_, ?_, pA.mono (by omega)⟩
      · rw [List.nodup_append]
        refine ⟨fnd, by simp, fun y hy z hz => ?_⟩
        simp at hz
        subst hz
        exact fun e => hnin (e ▸ hy)
      · intro x hx
        rcases List.mem_append.mp hx with hx | hx
        · exact fmm x hx
        · simp at hx
          subst hx
          exact hjm
      · intro i hi hif
        by_cases e : i = j
        · subst e
          rw [getA_put_self, hra, hv]
          exact fun e => hdv (Option.some.inj e)
        · rw [getA_put_ne e]
          refine hdif i hi ?_
          rcases List.mem_append.mp hif with h | h
          · exact h
          · simp at h; exact absurd h e
      · intro i hi
        rw [List.mem_append, not_or] at hi
        have e : i ≠ j := fun e => hi.2 (by simp [e])
        rw [getA_put_ne e]
        exact hsam i hi.1
    · walk_at "w"
      exact ⟨[_, _, _, _], rfl, rfl, l', fs, hc6, hw6, ha6, hl', hk', ⟨fnd, by omega, fmm⟩, hdif, hsam, p6.mono (by omega)⟩
  · rintro vs S5 hv ⟨l', fs, hc5, hw5, ha5, hl', hk', ⟨fnd, fln, fmm⟩, hdif, hsam, p5⟩
    obtain ⟨v7, v8, v9, v10, rfl⟩ := len4 hv
    have hwr := wrong_harmed hrt hnd hk' fnd fmm hdif hsam
    have hnd' : (l'.map (·.1)).Nodup := by rw [hk']; exact hnd
    have hll' : l'.length = n := by
      have := congrArg List.length hk'
      rw [List.length_map, List.length_map] at this
      omega
    have hok : okR n k xs.length l' xs = true := by
      unfold okR
      rw [hwr, isI_len]
      exact decide_eq_true (by omega)
    have htold := told_row hk.1 (by omega) hl' hnd' hx rfl hok
    rw [hwr] at htold
    have hfr : ∀ j ∈ isI fs, 0 ≤ j ∧ j ≤ 100 := fun j hj => by
      have hj := fmm j ((isI_perm _).mem_iff.mp hj)
      obtain ⟨w, hw⟩ := getA_has hj
      have := hl.key _ (getA_mem hw)
      omega
    dsimp only [putAll, List.set_cons_zero, List.set_cons_succ]
    refine ws_then ?_
    refine ws_frzA rfl hc5 ?_
    have hw6 : (S5.set c none)[w]? = some (some (.lst (fs.map .int))) := by rw [List.getElem?_set_ne cw]; exact hw5
    have p6 : JarS (S5.set c none) 0 _ := p5.only .set (Ne.symm c0)
    generalize S5.set c none = S6 at *
    dsimp only [List.set_cons_zero, List.set_cons_succ]
    rw [show D.dic false (kA rowD l') = dA rowD l' from rfl]
    walk_at "w"
    rw [List.length_map]
    refine wp_told_by hk hn (by omega) (by omega) hl' hnd' ?_
    rw [htold]
    refine ex_q (QD.toldB hx (by omega) hfr (by rw [isI_len]; omega)) ?_
    walk_at "w"
    refine ex_q (QD.toldB hx (by omega) hfr (by rw [isI_len]; omega)) ?_
    walk_at "w"
    rw [decide_eq_true rfl]
    exact q _ (p6.mono (by omega))
theorem reprShs {S : Sto} {n k b : Nat} {xs : List Int} (hk : 1 ≤ k) (hn : n ≤ 8) (hx : Row xs) (hs : xs.length ≤ 1200) (h : S[b]? = some (some (.lst ((shs n k xs).map rowD)))) : QD (rdQ S) (.ref b) (.list ((shs n k xs).map fun r => .tuple (r.map .int))) 20000 2 := by
  have hsl : (shs n k xs).length = n := by simp [shs]
  have q := QDs.map (r := fun _ => none) rowD (fun r => .tuple (r.map .int)) 1201 1 (shs n k xs) fun r hr => by
    have := shs_row hr
    exact (QD.row this.1).mono (by omega) (Nat.le_refl _)
  refine (QD.refL h q).mono ?_ (by omega)
  rw [hsl]
  omega
theorem wp_many {S : Sto} {n k m a : Nat} {p : Int} {xs : List Int} (hk : 1 ≤ k ∧ k ≤ 8) (hkm : k ≤ m) (hm : m ≤ n) (hn : n ≤ 8) (hx : Row xs) (hs : 61 ≤ xs.length ∧ xs.length ≤ 1200) (ha : S[a]? = some (some (.lst ((shs n k xs).map rowD)))) (a0 : a ≠ 0) (h : JarS S 0 p) (hp : p ≤ 800000000) {s0 s2 s3 : Option D} {Q : Fl → Sto → Prop} {E : Xs}
    (q : ∀ S', S'[a]? = some (some (.lst ((shs n k xs).map rowD))) → JarS S' 0 (p + 100) → Q (.nx [s0, some (.ref 0), s2, s3, some (.tup [.int n, .int k]), some (.tup (xs.map .int)), some (.ref a), some (.int m)]) S') :
    Ws (lb_law_1 [s0, some (.ref 0), s2, s3, some (.tup [.int n, .int k]), some (.tup (xs.map .int)), some (.ref a), some (.int m)] S) Q E := by
  have hrg := @rgN_le xs.length k
  unfold lb_law_1 i_law_2
  walk_at "w"
  rw [List.length_map]
  refine wp_frzD ?_
  walk_at "w"
  refine wp_psome hn hm ha a0 h (by omega) fun l c S2 hl hnd hln hrt hac hc ha2 p2 => ?_
  have hal := lt_of_at ha
  refine ⟨c, kA rowD l, rfl, hc, ?_⟩
  have ha3 : (S2.set c none)[a]? = some (some (.lst ((shs n k xs).map rowD))) := by rw [List.getElem?_set_ne (by omega)]; exact ha2
  have p3 : JarS (S2.set c none) 0 _ := p2.only .set (by omega)
  generalize S2.set c none = S3 at *
  rw [show D.dic false (kA rowD l) = dA rowD l from rfl]
  walk_at "w"
  refine wp_told_by hk hn (by omega) (by omega) hl hnd ?_
  have hw := wrong_none hrt
  have hok : okR n k xs.length l xs = true := by
    unfold okR
    rw [hw]
    exact decide_eq_true (by simp; omega)
  rw [told_row hk.1 (by omega) hl hnd hx rfl hok, hw]
  refine ex_q (QD.toldB hx (by omega) (by simp) (by simp)) ?_
  walk_at "w"
  refine ex_q (QD.toldB (ws := []) hx (by omega) (by simp) (by simp)) ?_
  walk_at "w"
  refine ite_nd (fun hx => absurd rfl hx) (fun _ => ?_)
  walk_at "w"
  exact q _ ha3 p3
theorem law_ok (ns : List Int) (h : ns.length ≤ 63) : ∃ S, d_law [.scr ns] [] = .ok (.bl true) S := by
  suffices hw : Wp (d_law [.scr ns] []) (fun d _ => d = .bl true) noX by
    obtain ⟨d, S, e, rfl⟩ := hw.ok
    exact ⟨S, e⟩
  unfold d_law b_law
  walk_at "w"
  rw [cut_map]
  have p0 : JarS ([] ++ [some (.lst [.lst ((cutL ns none (some 63)).map .int), .int 0, .int 0])]) 0 0 := ⟨cutL ns none (some 63), 0, 0, rfl, by omega, by omega⟩
  show Ws _ _ _
  generalize hT : ([] ++ [some (Ob.lst [.lst ((cutL ns none (some 63)).map .int), .int 0, .int 0])] : Sto) = T at p0 ⊢
  walk_at "w"
  unfold l_law_2
  refine ws_for [2, 3, 4, 5, 6, 7] ?_
  walk_at "w"
  refine ⟨by omega, ?_⟩
  have hlen : (iRng 0 2).length = 2 := rfl
  refine ⟨fun i _ S => JarS S 0 (i * 5000), [none, none, none, none, none, none], rfl, rfl, p0.mono (by omega), ?_, ?_⟩
  · intro j d vs S hj hv hJ
    obtain ⟨v2, v3, v4, v5, v6, v7, rfl⟩ := len6 hv
    have hj8 : j < 2 := by rw [← hlen]; exact lt_of_at hj
    refine ⟨_, rfl, ?_⟩
    dsimp only [putAll, List.set_cons_zero, List.set_cons_succ]
    unfold lb_law_2
    walk_at "w"
    refine wp_pdraw hJ (by omega) (by omega) fun u S1 u0 u1 p1 o1 => ?_
    walk_at "w"
    refine wp_pdraw p1 (by omega) (by omega) fun w S2 w0 w1 p2 o2 => ?_
    refine wo_pick (zs := [1 + u, 3, 4]) rfl ⟨by omega, by simp; omega⟩ fun z hz => ?_
    have hz' : 1 ≤ z ∧ z ≤ 8 := by
      simp only [List.mem_cons, List.not_mem_nil, or_false] at hz
      omega
    obtain ⟨n, rfl⟩ : ∃ n : Nat, z = n := ⟨z.toNat, by omega⟩
    walk_at "w"
    refine wp_pdraw p2 (by omega) (by omega) fun u2 S3 u20 u21 p3 o3 => ?_
    obtain ⟨k, hk⟩ : ∃ k : Nat, (k : Int) = 1 + u2 := ⟨(1 + u2).toNat, by omega⟩
    refine vo_add ?_
    rw [← hk]
    walk_at "w"
    refine wp_pdraw p3 (by omega) (by omega) fun u3 S4 u30 u31 p4 o4 => ?_
    walk_at "w"
    refine wp_pdraw p4 (by omega) (by omega) fun u4 S5 u40 u41 p5 o5 => ?_
    refine wo_pick (zs := [1200, 1199, 61 + u3]) rfl ⟨by omega, by simp; omega⟩ fun sz hsz => ?_
    have hsz' : 61 ≤ sz ∧ sz ≤ 1200 := by
      simp only [List.mem_cons, List.not_mem_nil, or_false] at hsz
      omega
    obtain ⟨sz, rfl⟩ : ∃ n : Nat, sz = n := ⟨sz.toNat, by omega⟩
    walk_at "w"
    refine wp_plong (size := sz) p5 (by omega) (by omega) fun xs S6 hx hxl p6 => ?_
    subst hxl
    walk_at "w"
    refine wp_pshards (by omega) (by omega) (by omega) ?_
    have h6 := p6.lt
    have ha : (S6 ++ [some (.lst ((shs n k xs).map rowD))])[S6.length]? = some (some (.lst ((shs n k xs).map rowD))) := app_at
    have p7 : JarS (S6 ++ [some (.lst ((shs n k xs).map rowD))]) 0 _ := p6.ext .app
    generalize S6 ++ [some (.lst ((shs n k xs).map rowD))] = S7 at *
    obtain ⟨a, hae⟩ : ∃ a, a = S6.length := ⟨_, rfl⟩
    rw [← hae] at ha ⊢
    have a0 : a ≠ 0 := by omega
    have hnd2 : (if (xs.length : Int) < (k : Int) then (xs.length : Int) else (k : Int)) = (k : Int) := by split <;> omega
    walk_at "w"
    unfold i_law_1
    walk_at "w"
    refine wp_shards (by omega) (by omega) (by omega) ?_
    have hb : (S7 ++ [some (.lst ((shs n k xs).map rowD))])[S7.length]? = some (some (.lst ((shs n k xs).map rowD))) := app_at
    have ha8 := (Ext.app (S := S7) (l := [some (.lst ((shs n k xs).map rowD))])).at_ ha
    have p8 : JarS (S7 ++ [some (.lst ((shs n k xs).map rowD))]) 0 _ := p7.ext .app
    generalize S7 ++ [some (.lst ((shs n k xs).map rowD))] = S8 at *
    refine ex_q (reprShs (by omega) (by omega) hx (by omega) hb) ?_
    walk_at "w"
    refine ex_q (reprShs (by omega) (by omega) hx (by omega) ha8) ?_
    walk_at "w"
    refine ite_nd (fun hx => absurd rfl hx) (fun _ => ?_)
    walk_at "w"
    rw [List.length_map]
    refine wp_need ?_
    rw [hnd2]
    refine ex_q (QD.int (i := (k : Int)) (by omega)) ?_
    walk_at "w"
    refine ⟨(QD.int (r := fun _ => none) (i := (k : Int)) (by omega)).s, by simp [wtP], by simp [PySem.PyData.depth], ?_⟩
    walk_at "w"
    refine ite_nd (fun hx => absurd rfl hx) (fun _ => ?_)
    walk_at "w"
    unfold l_law_1
    refine ws_forU ?_
    walk_at "w"
    refine ⟨_, Or.inl rfl, ?_⟩
    walk_at "w"
    refine wp_many (by omega) (by omega) (by omega) (by omega) hx (by omega) ha8 a0 p8 (by omega) fun S9 ha9 p9 => ?_
    walk_at "w"
    refine wp_many (by omega) (by omega) (by omega) (by omega) hx (by omega) ha9 a0 p9 (by omega) fun SA haA pA => ?_
    walk_at "w"
    unfold i_law_3
    walk_at "w"
    refine wp_frzD ?_
    walk_at "w"
    obtain ⟨m, hm⟩ : ∃ m : Nat, (m : Int) = (k : Int) - 1 := ⟨((k : Int) - 1).toNat, by omega⟩
    rw [← hm]
    refine wp_psome (by omega) (by omega) haA a0 pA (by omega) fun l c SB hl hnd hln hrt hac hc haB pB => ?_
    have hal := lt_of_at haA
    refine ⟨c, kA rowD l, rfl, hc, ?_⟩
    have haC : (SB.set c none)[a]? = some (some (.lst ((shs n k xs).map rowD))) := by rw [List.getElem?_set_ne (by omega)]; exact haB
    have pC : JarS (SB.set c none) 0 _ := pB.only .set (by omega)
    generalize SB.set c none = SC at *
    rw [show D.dic false (kA rowD l) = dA rowD l from rfl]
    walk_at "w"
    refine wp_pfew_right (by omega) (by omega) hx (by omega) hl hnd hrt (by omega) fun SD eD => ?_
    walk_at "w"
    unfold i_law_4
    walk_at "w"
    refine wp_pchanged_right (by omega) (by omega) (by omega) hx (by omega) (eD.at_ haC) a0 (pC.ext eD) (by omega) fun SE pE => ?_
    walk_at "w"
    exact ⟨[_, _, _, _, _, _], rfl, rfl, pE.mono (by omega)⟩
  · intro vs S hv hJ
    obtain ⟨v2, v3, v4, v5, v6, v7, rfl⟩ := len6 hv
    walk_at "w"
    rfl
end C12
set_option Elab.async false
set_option linter.all false
set_option maxRecDepth 100000
set_option maxHeartbeats 0
namespace C12
open PySem PySem.Spec PyProof.Rows L2 DL
def top (i : Nat) : Stmt := PySem.Challenge.pw_saltvault_k12_long_rows_coded.main.body.getD i (.Pass ⟨0, 0, 0, 0⟩)
abbrev s_pprime : Stmt := top 28
abbrev N_pprime : List Str := ["_law_at", "_law_some"]
theorem sc_pprime : FnScope N_pprime ["_law_at"] (defScope s_pprime) := ⟨rfl, rfl, rfl, by decide +kernel, rfl, by decide +kernel, by decide +kernel⟩
def a_pprime : He.DefD := ⟨("_law_pprime", none), "_law_pprime", "_law_pprime", defArgs s_pprime, defBody s_pprime, defScope s_pprime, [], []⟩
abbrev s_pfresh : Stmt := top 29
abbrev N_pfresh : List Str := ["_law_tape", "_law_at", "_law_cell", "_law_one", "_law_two", "_law_three"]
theorem sc_pfresh : FnScope N_pfresh ["_law_tape"] (defScope s_pfresh) := ⟨rfl, rfl, rfl, by decide +kernel, rfl, by decide +kernel, by decide +kernel⟩
def a_pfresh : He.DefD := ⟨("_law_pfresh", none), "_law_pfresh", "_law_pfresh", defArgs s_pfresh, defBody s_pfresh, defScope s_pfresh, [], []⟩
abbrev s_pdraw : Stmt := top 30
abbrev N_pdraw : List Str := ["_law_tape", "_law_often", "_law_drawn"]
theorem sc_pdraw : FnScope N_pdraw ["_law_tape", "_law_often"] (defScope s_pdraw) := ⟨rfl, rfl, rfl, by decide +kernel, rfl, by decide +kernel, by decide +kernel⟩
def a_pdraw : He.DefD := ⟨("_law_pdraw", none), "_law_pdraw", "_law_pdraw", defArgs s_pdraw, defBody s_pdraw, defScope s_pdraw, [], []⟩
abbrev s_plong : Stmt := top 31
abbrev N_plong : List Str := ["_law_tape", "_law_size", "_law_block", "_law_step", "_law_found", "_law_k"]
theorem sc_plong : FnScope N_plong ["_law_tape", "_law_size"] (defScope s_plong) := ⟨rfl, rfl, rfl, by decide +kernel, rfl, by decide +kernel, by decide +kernel⟩
def a_plong : He.DefD := ⟨("_law_plong", none), "_law_plong", "_law_plong", defArgs s_plong, defBody s_plong, defScope s_plong, [], []⟩
abbrev s_pworth : Stmt := top 32
abbrev N_pworth : List Str := ["_law_row", "_law_x", "_law_found", "_law_sign"]
theorem sc_pworth : FnScope N_pworth ["_law_row", "_law_x"] (defScope s_pworth) := ⟨rfl, rfl, rfl, by decide +kernel, rfl, by decide +kernel, by decide +kernel⟩
def a_pworth : He.DefD := ⟨("_law_pworth", none), "_law_pworth", "_law_pworth", defArgs s_pworth, defBody s_pworth, defScope s_pworth, [], []⟩
abbrev s_pshards : Stmt := top 33
abbrev N_pshards : List Str := ["_law_code", "_law_row", "_law_found", "_law_j", "_law_at"]
theorem sc_pshards : FnScope N_pshards ["_law_code", "_law_row"] (defScope s_pshards) := ⟨rfl, rfl, rfl, by decide +kernel, rfl, by decide +kernel, by decide +kernel⟩
def a_pshards : He.DefD := ⟨("_law_pshards", none), "_law_pshards", "_law_pshards", defArgs s_pshards, defBody s_pshards, defScope s_pshards, [], []⟩
abbrev s_columns_of : Stmt := top 16
abbrev N_columns_of : List Str := ["code", "row", "at"]
theorem sc_columns_of : FnScope N_columns_of ["code", "row"] (defScope s_columns_of) := ⟨rfl, rfl, rfl, by decide +kernel, rfl, by decide +kernel, by decide +kernel⟩
def a_columns_of : He.DefD := ⟨("columns_of", none), "columns_of", "columns_of", defArgs s_columns_of, defBody s_columns_of, defScope s_columns_of, [], []⟩
abbrev s_worth_at : Stmt := top 7
abbrev N_worth_at : List Str := ["row", "x", "worth", "sign"]
theorem sc_worth_at : FnScope N_worth_at ["row", "x"] (defScope s_worth_at) := ⟨rfl, rfl, rfl, by decide +kernel, rfl, by decide +kernel, by decide +kernel⟩
def a_worth_at : He.DefD := ⟨("worth_at", none), "worth_at", "worth_at", defArgs s_worth_at, defBody s_worth_at, defScope s_worth_at, [], []⟩
abbrev s_shards : Stmt := top 17
abbrev N_shards : List Str := ["code", "row", "columns", "column", "j"]
theorem sc_shards : FnScope N_shards ["code", "row"] (defScope s_shards) := ⟨rfl, rfl, rfl, by decide +kernel, rfl, by decide +kernel, by decide +kernel⟩
def a_shards : He.DefD := ⟨("shards", none), "shards", "shards", defArgs s_shards, defBody s_shards, defScope s_shards, [], []⟩
abbrev s_need_of : Stmt := top 14
abbrev N_need_of : List Str := ["code", "size"]
theorem sc_need_of : FnScope N_need_of ["code", "size"] (defScope s_need_of) := ⟨rfl, rfl, rfl, by decide +kernel, rfl, by decide +kernel, by decide +kernel⟩
def a_need_of : He.DefD := ⟨("need_of", none), "need_of", "need_of", defArgs s_need_of, defBody s_need_of, defScope s_need_of, [], []⟩
abbrev s_psome : Stmt := top 34
abbrev N_psome : List Str := ["_law_tape", "_law_right", "_law_many", "_law_left", "_law_found", "_law_k", "_law_j"]
theorem sc_psome : FnScope N_psome ["_law_tape", "_law_right", "_law_many"] (defScope s_psome) := ⟨rfl, rfl, rfl, by decide +kernel, rfl, by decide +kernel, by decide +kernel⟩
def a_psome : He.DefD := ⟨("_law_psome", none), "_law_psome", "_law_psome", defArgs s_psome, defBody s_psome, defScope s_psome, [], []⟩
abbrev s_widths : Stmt := top 15
abbrev N_widths : List Str := ["code", "size", "at"]
theorem sc_widths : FnScope N_widths ["code", "size"] (defScope s_widths) := ⟨rfl, rfl, rfl, by decide +kernel, rfl, by decide +kernel, by decide +kernel⟩
def a_widths : He.DefD := ⟨("widths", none), "widths", "widths", defArgs s_widths, defBody s_widths, defScope s_widths, [], []⟩
abbrev s_times : Stmt := top 9
abbrev N_times : List Str := ["row", "number", "sign"]
theorem sc_times : FnScope N_times ["row", "number"] (defScope s_times) := ⟨rfl, rfl, rfl, by decide +kernel, rfl, by decide +kernel, by decide +kernel⟩
def a_times : He.DefD := ⟨("times", none), "times", "times", defArgs s_times, defBody s_times, defScope s_times, [], []⟩
abbrev s_added : Stmt := top 8
abbrev N_added : List Str := ["one", "other", "size", "longer", "a", "b"]
theorem sc_added : FnScope N_added ["one", "other"] (defScope s_added) := ⟨rfl, rfl, rfl, by decide +kernel, rfl, by decide +kernel, by decide +kernel⟩
def a_added : He.DefD := ⟨("added", none), "added", "added", defArgs s_added, defBody s_added, defScope s_added, [], []⟩
abbrev s_lifted : Stmt := top 10
abbrev N_lifted : List Str := ["row", "x"]
theorem sc_lifted : FnScope N_lifted ["row", "x"] (defScope s_lifted) := ⟨rfl, rfl, rfl, by decide +kernel, rfl, by decide +kernel, by decide +kernel⟩
def a_lifted : He.DefD := ⟨("lifted", none), "lifted", "lifted", defArgs s_lifted, defBody s_lifted, defScope s_lifted, [], []⟩
abbrev s_turned_about : Stmt := top 11
abbrev N_turned_about : List Str := ["number"]
theorem sc_turned_about : FnScope N_turned_about ["number"] (defScope s_turned_about) := ⟨rfl, rfl, rfl, by decide +kernel, rfl, by decide +kernel, by decide +kernel⟩
def a_turned_about : He.DefD := ⟨("turned_about", none), "turned_about", "turned_about", defArgs s_turned_about, defBody s_turned_about, defScope s_turned_about, [], []⟩
abbrev s_through : Stmt := top 12
abbrev N_through : List Str := ["pairs", "found", "x", "y", "base", "below", "other", "worth"]
theorem sc_through : FnScope N_through ["pairs"] (defScope s_through) := ⟨rfl, rfl, rfl, by decide +kernel, rfl, by decide +kernel, by decide +kernel⟩
def a_through : He.DefD := ⟨("through", none), "through", "through", defArgs s_through, defBody s_through, defScope s_through, [], []⟩
abbrev s_bases : Stmt := top 18
abbrev N_bases : List Str := ["points", "x", "point"]
theorem sc_bases : FnScope N_bases ["points"] (defScope s_bases) := ⟨rfl, rfl, rfl, by decide +kernel, rfl, by decide +kernel, by decide +kernel⟩
def a_bases : He.DefD := ⟨("bases", none), "bases", "bases", defArgs s_bases, defBody s_bases, defScope s_bases, [], []⟩
abbrev s_column_by : Stmt := top 19
abbrev N_column_by : List Str := ["basis", "signs", "parts", "sign", "base", "at"]
theorem sc_column_by : FnScope N_column_by ["basis", "signs"] (defScope s_column_by) := ⟨rfl, rfl, rfl, by decide +kernel, rfl, by decide +kernel, by decide +kernel⟩
def a_column_by : He.DefD := ⟨("column_by", none), "column_by", "column_by", defArgs s_column_by, defBody s_column_by, defScope s_column_by, [], []⟩
abbrev s_row_by : Stmt := top 20
abbrev N_row_by : List Str := ["code", "size", "some", "numbers", "wide", "basis", "found", "at", "width", "column", "j"]
theorem sc_row_by : FnScope N_row_by ["code", "size", "some", "numbers"] (defScope s_row_by) := ⟨rfl, rfl, rfl, by decide +kernel, rfl, by decide +kernel, by decide +kernel⟩
def a_row_by : He.DefD := ⟨("row_by", none), "row_by", "row_by", defArgs s_row_by, defBody s_row_by, defScope s_row_by, [], []⟩
abbrev s_wrong_in : Stmt := top 21
abbrev N_wrong_in : List Str := ["code", "row", "some", "right", "j"]
theorem sc_wrong_in : FnScope N_wrong_in ["code", "row", "some"] (defScope s_wrong_in) := ⟨rfl, rfl, rfl, by decide +kernel, rfl, by decide +kernel, by decide +kernel⟩
def a_wrong_in : He.DefD := ⟨("wrong_in", none), "wrong_in", "wrong_in", defArgs s_wrong_in, defBody s_wrong_in, defScope s_wrong_in, [], []⟩
abbrev s_vanishing : Stmt := top 23
abbrev N_vanishing : List Str := ["numbers", "found", "j"]
theorem sc_vanishing : FnScope N_vanishing ["numbers"] (defScope s_vanishing) := ⟨rfl, rfl, rfl, by decide +kernel, rfl, by decide +kernel, by decide +kernel⟩
def a_vanishing : He.DefD := ⟨("vanishing", none), "vanishing", "vanishing", defArgs s_vanishing, defBody s_vanishing, defScope s_vanishing, [], []⟩
abbrev s_few_by : Stmt := top 24
abbrev N_few_by : List Str := ["code", "size", "some", "numbers", "one"]
theorem sc_few_by : FnScope N_few_by ["code", "size", "some"] (defScope s_few_by) := ⟨rfl, rfl, rfl, by decide +kernel, rfl, by decide +kernel, by decide +kernel⟩
def a_few_by : He.DefD := ⟨("few_by", none), "few_by", "few_by", defArgs s_few_by, defBody s_few_by, defScope s_few_by, [], []⟩
abbrev s_choices : Stmt := top 22
abbrev N_choices : List Str := ["numbers", "many", "found", "turn", "one", "j"]
theorem sc_choices : FnScope N_choices ["numbers", "many"] (defScope s_choices) := ⟨rfl, rfl, rfl, by decide +kernel, rfl, by decide +kernel, by decide +kernel⟩
def a_choices : He.DefD := ⟨("choices", none), "choices", "choices", defArgs s_choices, defBody s_choices, defScope s_choices, [], []⟩
abbrev s_told_by : Stmt := top 25
abbrev N_told_by : List Str := ["code", "size", "some", "need", "row", "numbers", "wrong"]
theorem sc_told_by : FnScope N_told_by ["code", "size", "some"] (defScope s_told_by) := ⟨rfl, rfl, rfl, by decide +kernel, rfl, by decide +kernel, by decide +kernel⟩
def a_told_by : He.DefD := ⟨("told_by", none), "told_by", "told_by", defArgs s_told_by, defBody s_told_by, defScope s_told_by, [], []⟩
abbrev s_is_whole : Stmt := top 4
abbrev N_is_whole : List Str := ["thing"]
theorem sc_is_whole : FnScope N_is_whole ["thing"] (defScope s_is_whole) := ⟨rfl, rfl, rfl, by decide +kernel, rfl, by decide +kernel, by decide +kernel⟩
def a_is_whole : He.DefD := ⟨("is_whole", none), "is_whole", "is_whole", defArgs s_is_whole, defBody s_is_whole, defScope s_is_whole, [], []⟩
abbrev s_is_sign : Stmt := top 5
abbrev N_is_sign : List Str := ["thing"]
theorem sc_is_sign : FnScope N_is_sign ["thing"] (defScope s_is_sign) := ⟨rfl, rfl, rfl, by decide +kernel, rfl, by decide +kernel, by decide +kernel⟩
def a_is_sign : He.DefD := ⟨("is_sign", none), "is_sign", "is_sign", defArgs s_is_sign, defBody s_is_sign, defScope s_is_sign, [], []⟩
abbrev s_is_row : Stmt := top 6
abbrev N_is_row : List Str := ["thing", "most", "one"]
theorem sc_is_row : FnScope N_is_row ["thing", "most"] (defScope s_is_row) := ⟨rfl, rfl, rfl, by decide +kernel, rfl, by decide +kernel, by decide +kernel⟩
def a_is_row : He.DefD := ⟨("is_row", none), "is_row", "is_row", defArgs s_is_row, defBody s_is_row, defScope s_is_row, [], [("most", .int (1200))]⟩
abbrev s_are_ghosts : Stmt := top 26
abbrev N_are_ghosts : List Str := ["code", "size", "some", "one", "other", "thing"]
theorem sc_are_ghosts : FnScope N_are_ghosts ["code", "size", "some", "one", "other"] (defScope s_are_ghosts) := ⟨rfl, rfl, rfl, by decide +kernel, rfl, by decide +kernel, by decide +kernel⟩
def a_are_ghosts : He.DefD := ⟨("are_ghosts", none), "are_ghosts", "are_ghosts", defArgs s_are_ghosts, defBody s_are_ghosts, defScope s_are_ghosts, [], []⟩
abbrev s_pfew_right : Stmt := top 35
abbrev N_pfew_right : List Str := ["_law_code", "_law_row", "_law_some", "_law_found", "_law_one", "_law_right", "_law_sign", "_law_j"]
theorem sc_pfew_right : FnScope N_pfew_right ["_law_code", "_law_row", "_law_some"] (defScope s_pfew_right) := ⟨rfl, rfl, rfl, by decide +kernel, rfl, by decide +kernel, by decide +kernel⟩
def a_pfew_right : He.DefD := ⟨("_law_pfew_right", none), "_law_pfew_right", "_law_pfew_right", defArgs s_pfew_right, defBody s_pfew_right, defScope s_pfew_right, [], []⟩
abbrev s_pchanged_right : Stmt := top 36
abbrev N_pchanged_right : List Str := ["_law_tape", "_law_code", "_law_row", "_law_right", "_law_most", "_law_some", "_law_wrong", "_law_turn", "_law_j", "_law_at", "_law_sign"]
theorem sc_pchanged_right : FnScope N_pchanged_right ["_law_tape", "_law_code", "_law_row", "_law_right"] (defScope s_pchanged_right) := ⟨rfl, rfl, rfl, by decide +kernel, rfl, by decide +kernel, by decide +kernel⟩
def a_pchanged_right : He.DefD := ⟨("_law_pchanged_right", none), "_law_pchanged_right", "_law_pchanged_right", defArgs s_pchanged_right, defBody s_pchanged_right, defScope s_pchanged_right, [], []⟩
abbrev s_law : Stmt := top 37
abbrev N_law : List Str := ["_law_script", "_law_tape", "_law_turn", "_law_n", "_law_code", "_law_row", "_law_right", "_law_many"]
theorem sc_law : FnScope N_law ["_law_script"] (defScope s_law) := ⟨rfl, rfl, rfl, by decide +kernel, rfl, by decide +kernel, by decide +kernel⟩
def a_law : He.DefD := ⟨("law", none), "law", "law", defArgs s_law, defBody s_law, defScope s_law, [], []⟩
def fn : List He.DefD := [a_pprime, a_pfresh, a_pdraw, a_plong, a_pworth, a_pshards, a_columns_of, a_worth_at, a_shards, a_need_of, a_psome, a_widths, a_times, a_added, a_lifted, a_turned_about, a_through, a_bases, a_column_by, a_row_by, a_wrong_in, a_vanishing, a_few_by, a_choices, a_told_by, a_is_whole, a_is_sign, a_is_row, a_are_ghosts, a_pfew_right, a_pchanged_right, a_law]
def fa : List He.Fa := [.glo "_law_pprime", .glo "_law_pfresh", .glo "_law_pdraw", .glo "_law_plong", .glo "_law_pworth", .glo "_law_pshards", .glo "columns_of", .glo "worth_at", .glo "shards", .glo "need_of", .glo "_law_psome", .glo "widths", .glo "times", .glo "added", .glo "lifted", .glo "turned_about", .glo "through", .glo "bases", .glo "column_by", .glo "row_by", .glo "wrong_in", .glo "vanishing", .glo "few_by", .glo "choices", .glo "told_by", .glo "is_whole", .glo "is_sign", .glo "is_row", .glo "are_ghosts", .glo "_law_pfew_right", .glo "_law_pchanged_right", .glo "law", .free "all", .free "bool", .free "enumerate", .free "int", .free "isinstance", .free "len", .free "list", .free "max", .free "min", .free "range", .free "repr", .free "set", .free "sorted", .free "sum", .free "tuple", .free "zip", .int "PRIME" (31), .glo "TURNED"]
def ex (K : PySem.W.Frag) : Bool := He.tupB K "TURNED" (LS.tab_TURNED.map .int) && sysB K
structure Fx (K : PySem.W.Frag) (mg : Str → Option Value) : Prop where
  c : He.SaysD fa fn K
  h : ∃ h, K.In h ∧ h.Ns mainGlobals mg
  e : ex K = true
section
variable {K : PySem.W.Frag} {mg : Str → Option Value} (fx : Fx K mg)
include fx
theorem Fx.g_pprime : mg "_law_pprime" = some (.ref (He.ga K "_law_pprime")) := by obtain ⟨h, X, G⟩ := fx.h; exact He.glo_ok X G (fx.c.fact 0 (f := .glo "_law_pprime") rfl)
theorem Fx.g_pfresh : mg "_law_pfresh" = some (.ref (He.ga K "_law_pfresh")) := by obtain ⟨h, X, G⟩ := fx.h; exact He.glo_ok X G (fx.c.fact 1 (f := .glo "_law_pfresh") rfl)
theorem Fx.g_pdraw : mg "_law_pdraw" = some (.ref (He.ga K "_law_pdraw")) := by obtain ⟨h, X, G⟩ := fx.h; exact He.glo_ok X G (fx.c.fact 2 (f := .glo "_law_pdraw") rfl)
theorem Fx.g_plong : mg "_law_plong" = some (.ref (He.ga K "_law_plong")) := by obtain ⟨h, X, G⟩ := fx.h; exact He.glo_ok X G (fx.c.fact 3 (f := .glo "_law_plong") rfl)
theorem Fx.g_pworth : mg "_law_pworth" = some (.ref (He.ga K "_law_pworth")) := by obtain ⟨h, X, G⟩ := fx.h; exact He.glo_ok X G (fx.c.fact 4 (f := .glo "_law_pworth") rfl)
theorem Fx.g_pshards : mg "_law_pshards" = some (.ref (He.ga K "_law_pshards")) := by obtain ⟨h, X, G⟩ := fx.h; exact He.glo_ok X G (fx.c.fact 5 (f := .glo "_law_pshards") rfl)
theorem Fx.g_columns_of : mg "columns_of" = some (.ref (He.ga K "columns_of")) := by obtain ⟨h, X, G⟩ := fx.h; exact He.glo_ok X G (fx.c.fact 6 (f := .glo "columns_of") rfl)
theorem Fx.g_worth_at : mg "worth_at" = some (.ref (He.ga K "worth_at")) := by obtain ⟨h, X, G⟩ := fx.h; exact He.glo_ok X G (fx.c.fact 7 (f := .glo "worth_at") rfl)
theorem Fx.g_shards : mg "shards" = some (.ref (He.ga K "shards")) := by obtain ⟨h, X, G⟩ := fx.h; exact He.glo_ok X G (fx.c.fact 8 (f := .glo "shards") rfl)
theorem Fx.g_need_of : mg "need_of" = some (.ref (He.ga K "need_of")) := by obtain ⟨h, X, G⟩ := fx.h; exact He.glo_ok X G (fx.c.fact 9 (f := .glo "need_of") rfl)
theorem Fx.g_psome : mg "_law_psome" = some (.ref (He.ga K "_law_psome")) := by obtain ⟨h, X, G⟩ := fx.h; exact He.glo_ok X G (fx.c.fact 10 (f := .glo "_law_psome") rfl)
theorem Fx.g_widths : mg "widths" = some (.ref (He.ga K "widths")) := by obtain ⟨h, X, G⟩ := fx.h; exact He.glo_ok X G (fx.c.fact 11 (f := .glo "widths") rfl)
theorem Fx.g_times : mg "times" = some (.ref (He.ga K "times")) := by obtain ⟨h, X, G⟩ := fx.h; exact He.glo_ok X G (fx.c.fact 12 (f := .glo "times") rfl)
theorem Fx.g_added : mg "added" = some (.ref (He.ga K "added")) := by obtain ⟨h, X, G⟩ := fx.h; exact He.glo_ok X G (fx.c.fact 13 (f := .glo "added") rfl)
theorem Fx.g_lifted : mg "lifted" = some (.ref (He.ga K "lifted")) := by obtain ⟨h, X, G⟩ := fx.h; exact He.glo_ok X G (fx.c.fact 14 (f := .glo "lifted") rfl)
theorem Fx.g_turned_about : mg "turned_about" = some (.ref (He.ga K "turned_about")) := by obtain ⟨h, X, G⟩ := fx.h; exact He.glo_ok X G (fx.c.fact 15 (f := .glo "turned_about") rfl)
theorem Fx.g_through : mg "through" = some (.ref (He.ga K "through")) := by obtain ⟨h, X, G⟩ := fx.h; exact He.glo_ok X G (fx.c.fact 16 (f := .glo "through") rfl)
theorem Fx.g_bases : mg "bases" = some (.ref (He.ga K "bases")) := by obtain ⟨h, X, G⟩ := fx.h; exact He.glo_ok X G (fx.c.fact 17 (f := .glo "bases") rfl)
theorem Fx.g_column_by : mg "column_by" = some (.ref (He.ga K "column_by")) := by obtain ⟨h, X, G⟩ := fx.h; exact He.glo_ok X G (fx.c.fact 18 (f := .glo "column_by") rfl)
theorem Fx.g_row_by : mg "row_by" = some (.ref (He.ga K "row_by")) := by obtain ⟨h, X, G⟩ := fx.h; exact He.glo_ok X G (fx.c.fact 19 (f := .glo "row_by") rfl)
theorem Fx.g_wrong_in : mg "wrong_in" = some (.ref (He.ga K "wrong_in")) := by obtain ⟨h, X, G⟩ := fx.h; exact He.glo_ok X G (fx.c.fact 20 (f := .glo "wrong_in") rfl)
theorem Fx.g_vanishing : mg "vanishing" = some (.ref (He.ga K "vanishing")) := by obtain ⟨h, X, G⟩ := fx.h; exact He.glo_ok X G (fx.c.fact 21 (f := .glo "vanishing") rfl)
theorem Fx.g_few_by : mg "few_by" = some (.ref (He.ga K "few_by")) := by obtain ⟨h, X, G⟩ := fx.h; exact He.glo_ok X G (fx.c.fact 22 (f := .glo "few_by") rfl)
theorem Fx.g_choices : mg "choices" = some (.ref (He.ga K "choices")) := by obtain ⟨h, X, G⟩ := fx.h; exact He.glo_ok X G (fx.c.fact 23 (f := .glo "choices") rfl)
theorem Fx.g_told_by : mg "told_by" = some (.ref (He.ga K "told_by")) := by obtain ⟨h, X, G⟩ := fx.h; exact He.glo_ok X G (fx.c.fact 24 (f := .glo "told_by") rfl)
theorem Fx.g_is_whole : mg "is_whole" = some (.ref (He.ga K "is_whole")) := by obtain ⟨h, X, G⟩ := fx.h; exact He.glo_ok X G (fx.c.fact 25 (f := .glo "is_whole") rfl)
theorem Fx.g_is_sign : mg "is_sign" = some (.ref (He.ga K "is_sign")) := by obtain ⟨h, X, G⟩ := fx.h; exact He.glo_ok X G (fx.c.fact 26 (f := .glo "is_sign") rfl)
theorem Fx.g_is_row : mg "is_row" = some (.ref (He.ga K "is_row")) := by obtain ⟨h, X, G⟩ := fx.h; exact He.glo_ok X G (fx.c.fact 27 (f := .glo "is_row") rfl)
theorem Fx.g_are_ghosts : mg "are_ghosts" = some (.ref (He.ga K "are_ghosts")) := by obtain ⟨h, X, G⟩ := fx.h; exact He.glo_ok X G (fx.c.fact 28 (f := .glo "are_ghosts") rfl)
theorem Fx.g_pfew_right : mg "_law_pfew_right" = some (.ref (He.ga K "_law_pfew_right")) := by obtain ⟨h, X, G⟩ := fx.h; exact He.glo_ok X G (fx.c.fact 29 (f := .glo "_law_pfew_right") rfl)
theorem Fx.g_pchanged_right : mg "_law_pchanged_right" = some (.ref (He.ga K "_law_pchanged_right")) := by obtain ⟨h, X, G⟩ := fx.h; exact He.glo_ok X G (fx.c.fact 30 (f := .glo "_law_pchanged_right") rfl)
theorem Fx.g_law : mg "law" = some (.ref (He.ga K "law")) := by obtain ⟨h, X, G⟩ := fx.h; exact He.glo_ok X G (fx.c.fact 31 (f := .glo "law") rfl)
theorem Fx.m_all : mg "all" = none := by obtain ⟨h, X, G⟩ := fx.h; exact He.free_ok X G (fx.c.fact 32 (f := .free "all") rfl)
theorem Fx.m_bool : mg "bool" = none := by obtain ⟨h, X, G⟩ := fx.h; exact He.free_ok X G (fx.c.fact 33 (f := .free "bool") rfl)
theorem Fx.m_enumerate : mg "enumerate" = none := by obtain ⟨h, X, G⟩ := fx.h; exact He.free_ok X G (fx.c.fact 34 (f := .free "enumerate") rfl)
theorem Fx.m_int : mg "int" = none := by obtain ⟨h, X, G⟩ := fx.h; exact He.free_ok X G (fx.c.fact 35 (f := .free "int") rfl)
theorem Fx.m_isinstance : mg "isinstance" = none := by obtain ⟨h, X, G⟩ := fx.h; exact He.free_ok X G (fx.c.fact 36 (f := .free "isinstance") rfl)
theorem Fx.m_len : mg "len" = none := by obtain ⟨h, X, G⟩ := fx.h; exact He.free_ok X G (fx.c.fact 37 (f := .free "len") rfl)
theorem Fx.m_list : mg "list" = none := by obtain ⟨h, X, G⟩ := fx.h; exact He.free_ok X G (fx.c.fact 38 (f := .free "list") rfl)
theorem Fx.m_max : mg "max" = none := by obtain ⟨h, X, G⟩ := fx.h; exact He.free_ok X G (fx.c.fact 39 (f := .free "max") rfl)
theorem Fx.m_min : mg "min" = none := by obtain ⟨h, X, G⟩ := fx.h; exact He.free_ok X G (fx.c.fact 40 (f := .free "min") rfl)
theorem Fx.m_range : mg "range" = none := by obtain ⟨h, X, G⟩ := fx.h; exact He.free_ok X G (fx.c.fact 41 (f := .free "range") rfl)
theorem Fx.m_repr : mg "repr" = none := by obtain ⟨h, X, G⟩ := fx.h; exact He.free_ok X G (fx.c.fact 42 (f := .free "repr") rfl)
theorem Fx.m_set : mg "set" = none := by obtain ⟨h, X, G⟩ := fx.h; exact He.free_ok X G (fx.c.fact 43 (f := .free "set") rfl)
theorem Fx.m_sorted : mg "sorted" = none := by obtain ⟨h, X, G⟩ := fx.h; exact He.free_ok X G (fx.c.fact 44 (f := .free "sorted") rfl)
theorem Fx.m_sum : mg "sum" = none := by obtain ⟨h, X, G⟩ := fx.h; exact He.free_ok X G (fx.c.fact 45 (f := .free "sum") rfl)
theorem Fx.m_tuple : mg "tuple" = none := by obtain ⟨h, X, G⟩ := fx.h; exact He.free_ok X G (fx.c.fact 46 (f := .free "tuple") rfl)
theorem Fx.m_zip : mg "zip" = none := by obtain ⟨h, X, G⟩ := fx.h; exact He.free_ok X G (fx.c.fact 47 (f := .free "zip") rfl)
theorem Fx.c_PRIME : ∃ t, mg "PRIME" = some (.int (31) t) := by obtain ⟨h, X, G⟩ := fx.h; exact He.int_ok X G (fx.c.fact 48 (f := .int "PRIME" (31)) rfl)
theorem Fx.c_TURNED : mg "TURNED" = some (.ref (He.ga K "TURNED")) := by obtain ⟨h, X, G⟩ := fx.h; exact He.glo_ok X G (fx.c.fact 49 (f := .glo "TURNED") rfl)
theorem Fx.t_TURNED (H : Hp) : SqT K H (He.ga K "TURNED") (LS.tab_TURNED.map V.int) := by
  have e := fx.e
  simp only [ex, Bool.and_eq_true] at e
  have t := He.tupB_ok (e.1) H (x := "TURNED") (vs := LS.tab_TURNED.map .int)
  rw [List.map_map] at t
  exact t
theorem Fx.k_sys : sysB K = true := by
  have e := fx.e
  simp only [ex, Bool.and_eq_true] at e
  exact e.2
end
theorem ok_pprime {P : Program} {w : World} {K : PySem.W.Frag} {mg : Str → Option Value} {base : Heap} (fx : Fx K mg) : OkF P w K mg base "_law_pprime" ["_law_at"] 1 LP.d_pprime :=
  okF_P (fx.c.def_ 0 (d := a_pprime) rfl) fx.g_pprime sc_pprime (fun _ _ _ _ _ _ us hl => match us, hl with | [_], _ => rfl) fun cdv A outer s H E hr tk hp =>
  (sv_cons (sv_asg sc_pprime.nd rfl (by first | exact Or.inl rfl | exact Or.inr rfl) (ev_lst (ea_cons ev_int (ea_cons ev_int (ea_cons ev_int (ea_cons ev_int (ea_cons ev_int (ea_cons ev_int (ea_cons ev_int ea_nil)))))))))
    (sv_one (sv_ret (ev_ix hr.r.units (ev_op og_add ev_var (ev_lst (ea_cons ev_int (ea_cons ev_int (ea_cons ev_int ea_nil))))) (ev_op og_mod ev_var ev_int)))))
theorem ok_pfresh {P : Program} {w : World} {K : PySem.W.Frag} {mg : Str → Option Value} {base : Heap} (fx : Fx K mg) : OkF P w K mg base "_law_pfresh" ["_law_tape"] 2 LP.d_pfresh :=
  okF_N (fx.c.def_ 1 (d := a_pfresh) rfl) fx.g_pfresh sc_pfresh (fun _ _ _ _ _ _ us hl => match us, hl with | [_], _ => rfl) fun cdv A outer s H E hr tk hp =>
  (sv_cons (sv_asg sc_pfresh.nd rfl (by first | exact Or.inl rfl | exact Or.inr rfl) (ev_ix hr.r.units ev_var ev_int))
    (sv_cons (sv_setIx hr.r.units (ev_op og_add ev_var ev_int) ev_var ev_int)
    (sv_cons (sv_asg sc_pfresh.nd rfl (by first | exact Or.inl rfl | exact Or.inr rfl) (ev_op og_add (ev_op og_mul ev_int ev_var) ev_int))
    (sv_cons (sv_if (tv_cmp og_lt ev_var (ev_callB cg_len rfl fx.m_len (by decide +kernel) (ea_cons (ev_ix hr.r.units ev_var ev_int) ea_nil)) rfl) (sv_one (sv_asg sc_pfresh.nd rfl (by first | exact Or.inl rfl | exact Or.inr rfl) (ev_ix hr.r.units (ev_ix hr.r.units ev_var ev_int) ev_var))) (sv_one (sv_if (tv_cmp og_gt (ev_callB cg_len rfl fx.m_len (by decide +kernel) (ea_cons (ev_ix hr.r.units ev_var ev_int) ea_nil)) ev_int rfl) (sv_one (sv_asg sc_pfresh.nd rfl (by first | exact Or.inl rfl | exact Or.inr rfl) (ev_op og_add (ev_op og_mul (ev_op og_mod (ev_ix hr.r.units (ev_ix hr.r.units ev_var ev_int) (ev_op og_mod (ev_op og_mul ev_var ev_int) (ev_callB cg_len rfl fx.m_len (by decide +kernel) (ea_cons (ev_ix hr.r.units ev_var ev_int) ea_nil)))) ev_int) (ev_op og_add ev_var ev_int)) ev_var))) sv_nil)))
    (sv_cons (sv_if (tv_w (wv_and (tv_cmp og_lt ev_var (ev_callB cg_len rfl fx.m_len (by decide +kernel) (ea_cons (ev_ix hr.r.units ev_var ev_int) ea_nil)) rfl) (wv_and1 (tv_cmp og_ge ev_var (ev_op og_pow ev_int ev_int) rfl)))) (sv_one (sv_ret ev_var)) sv_nil)
    (sv_cons (sv_asg sc_pfresh.nd rfl (by first | exact Or.inl rfl | exact Or.inr rfl) (ev_op og_mod (ev_op og_pow (ev_op og_add (ev_op og_add (ev_op og_mul (ev_op og_mod ev_var ev_int) (ev_op og_add ev_var ev_int)) (ev_op og_mul ev_int ev_var)) ev_int) ev_int) (ev_fnO (ok_pprime fx) hr rfl tk (ea_cons ev_var ea_nil))))
    (sv_cons (sv_asg sc_pfresh.nd rfl (by first | exact Or.inl rfl | exact Or.inr rfl) (ev_op og_mod (ev_op og_pow (ev_op og_add (ev_op og_add (ev_op og_mul ev_var (ev_op og_add ev_var ev_int)) (ev_op og_mod ev_var ev_int)) ev_int) ev_int) (ev_fnO (ok_pprime fx) hr rfl tk (ea_cons (ev_op og_add ev_var ev_int) ea_nil))))
    (sv_cons (sv_asg sc_pfresh.nd rfl (by first | exact Or.inl rfl | exact Or.inr rfl) (ev_op og_mod (ev_op og_add (ev_op og_add (ev_op og_mul ev_var ev_var) ev_var) ev_var) (ev_fnO (ok_pprime fx) hr rfl tk (ea_cons (ev_op og_add ev_var ev_int) ea_nil))))
    (sv_one (sv_ret (ev_op og_add (ev_op og_mul (ev_op og_add (ev_op og_mul ev_var ev_int) ev_var) ev_int) ev_var)))))))))))
theorem ok_pdraw {P : Program} {w : World} {K : PySem.W.Frag} {mg : Str → Option Value} {base : Heap} (fx : Fx K mg) : OkF P w K mg base "_law_pdraw" ["_law_tape", "_law_often"] 3 LP.d_pdraw :=
  okF_N (fx.c.def_ 2 (d := a_pdraw) rfl) fx.g_pdraw sc_pdraw (fun _ _ _ _ _ _ us hl => match us, hl with | [_, _], _ => rfl) fun cdv A outer s H E hr tk hp =>
  (sv_cons (sv_if (tv_cmp og_lt (ev_ix hr.r.units ev_var ev_int) ev_var rfl) (sv_one (sv_setIx hr.r.units (ev_fnO (ok_pfresh fx) hr rfl tk (ea_cons ev_var ea_nil)) ev_var ev_int)) sv_nil)
    (sv_cons (sv_asg sc_pdraw.nd rfl (by first | exact Or.inl rfl | exact Or.inr rfl) (ev_op og_mod (ev_ix hr.r.units ev_var ev_int) ev_var))
    (sv_cons (sv_setIx hr.r.units (ev_op og_div (ev_ix hr.r.units ev_var ev_int) ev_var) ev_var ev_int)
    (sv_one (sv_ret ev_var)))))
theorem ok_plong {P : Program} {w : World} {K : PySem.W.Frag} {mg : Str → Option Value} {base : Heap} (fx : Fx K mg) : OkF P w K mg base "_law_plong" ["_law_tape", "_law_size"] 4 LP.d_plong :=
  okF_N (fx.c.def_ 3 (d := a_plong) rfl) fx.g_plong sc_plong (fun _ _ _ _ _ _ us hl => match us, hl with | [_, _], _ => rfl) fun cdv A outer s H E hr tk hp =>
  (sv_cons (sv_asg sc_plong.nd rfl (by first | exact Or.inl rfl | exact Or.inr rfl) (ev_comp (own := [(("_law_k" : Str), 5)]) rfl sc_plong.nd (iv_rng1 rfl fx.m_range (ev_op og_add ev_int (ev_fnO (ok_pdraw fx) hr rfl tk (ea_cons ev_var (ea_cons ev_int ea_nil))))) (blkOk_by (N := N_plong) (sc := defScope s_plong) (own := [(("_law_k" : Str), 5)]) (by decide +kernel)) (fun _ _ _ _ _ => (gv_nm sc_plong.nd rfl (by first | exact Or.inl rfl | exact Or.inr rfl))) (fun _ _ _ _ _ => tvs_nil) (fun _ _ _ _ _ => (ev_fnO (ok_pdraw fx) hr rfl takes0 (ea_cons ev_var (ea_cons ev_int ea_nil))))))
    (sv_cons (sv_asg sc_plong.nd rfl (by first | exact Or.inl rfl | exact Or.inr rfl) (ev_ix hr.r.units (ev_lst (ea_cons ev_int (ea_cons ev_int (ea_cons ev_int (ea_cons (ev_fnO (ok_pdraw fx) hr rfl tk (ea_cons ev_var (ea_cons ev_int ea_nil))) ea_nil))))) (ev_fnO (ok_pdraw fx) hr rfl tk (ea_cons ev_var (ea_cons ev_int ea_nil)))))
    (sv_cons (sv_setCompM (own := [(("_law_k" : Str), 5)]) rfl sc_plong.nd rfl rfl (sw_true rfl rfl rfl (by decide +kernel)) (iv_rng1 rfl fx.m_range ev_var) (blkOk_by (N := N_plong) (sc := defScope s_plong) (own := [(("_law_k" : Str), 5)]) (by decide +kernel)) (fun _ _ _ _ _ => (gv_nm sc_plong.nd rfl (by first | exact Or.inl rfl | exact Or.inr rfl))) (fun _ _ _ _ _ => tvs_nil) (fun _ _ _ _ _ => (ev_op og_mod (ev_op og_add (ev_ix hr.r.units ev_var (ev_op og_mod ev_var (ev_callB cg_len rfl fx.m_len (by decide +kernel) (ea_cons ev_var ea_nil)))) (ev_op og_mul (ev_op og_div ev_var (ev_callB cg_len rfl fx.m_len (by decide +kernel) (ea_cons ev_var ea_nil))) ev_var)) ev_int)))
    (sv_cons (sv_for hp rfl (iv_rng1 rfl fx.m_range (ev_fnO (ok_pdraw fx) hr rfl tk (ea_cons ev_var (ea_cons ev_int ea_nil)))) (gv_nm sc_plong.nd rfl (by first | exact Or.inl rfl | exact Or.inr rfl)) (sv_one (sv_setIx hr.r.units (ev_fnO (ok_pdraw fx) hr rfl tk (ea_cons ev_var (ea_cons ev_int ea_nil))) ev_var (ev_fnO (ok_pdraw fx) hr rfl tk (ea_cons ev_var (ea_cons ev_var ea_nil))))))
    (sv_one (sv_ret (ev_callTy cg_tuple rfl fx.m_tuple (by decide +kernel) (ea_cons ev_var ea_nil))))))))
theorem ok_pworth {P : Program} {w : World} {K : PySem.W.Frag} {mg : Str → Option Value} {base : Heap} (fx : Fx K mg) : OkF P w K mg base "_law_pworth" ["_law_row", "_law_x"] 1 LP.d_pworth :=
  okF_P (fx.c.def_ 4 (d := a_pworth) rfl) fx.g_pworth sc_pworth (fun _ _ _ _ _ _ us hl => match us, hl with | [_, _], _ => rfl) fun cdv A outer s H E hr tk hp =>
  (sv_cons (sv_asg sc_pworth.nd rfl (by first | exact Or.inl rfl | exact Or.inr rfl) ev_int)
    (sv_cons (sv_for hp rfl (iv_seq (ev_rev ev_var)) (gv_nm sc_pworth.nd rfl (by first | exact Or.inl rfl | exact Or.inr rfl)) (sv_one (sv_asg sc_pworth.nd rfl (by first | exact Or.inl rfl | exact Or.inr rfl) (ev_op og_mod (ev_op og_add (ev_op og_mul ev_var ev_var) ev_var) ev_int))))
    (sv_one (sv_ret ev_var))))
theorem ok_pshards {P : Program} {w : World} {K : PySem.W.Frag} {mg : Str → Option Value} {base : Heap} (fx : Fx K mg) : OkF P w K mg base "_law_pshards" ["_law_code", "_law_row"] 2 d_pshards :=
  okF_N (fx.c.def_ 5 (d := a_pshards) rfl) fx.g_pshards sc_pshards (fun _ _ _ _ _ _ us hl => match us, hl with | [_, _], _ => rfl) fun cdv A outer s H E hr tk hp =>
  (sv_cons (sv_asg sc_pshards.nd rfl (by first | exact Or.inl rfl | exact Or.inr rfl) (ev_lstM ea_nil))
    (sv_cons (sv_for hp rfl (iv_rng1 rfl fx.m_range (ev_ix hr.r.units ev_var ev_int)) (gv_nm sc_pshards.nd rfl (by first | exact Or.inl rfl | exact Or.inr rfl)) (sv_one (sv_expr (ev_append ev_var (ea_cons (ev_callTy cg_tuple rfl fx.m_tuple (by decide +kernel) (ea_cons (ev_comp (own := [(("_law_at" : Str), 4)]) rfl sc_pshards.nd (iv_rng3 rfl fx.m_range ev_int (ev_callB cg_len rfl fx.m_len (by decide +kernel) (ea_cons ev_var ea_nil)) (ev_ix hr.r.units ev_var ev_int)) (blkOk_by (N := N_pshards) (sc := defScope s_pshards) (own := [(("_law_at" : Str), 4)]) (by decide +kernel)) (fun _ _ _ _ _ => (gv_nm sc_pshards.nd rfl (by first | exact Or.inl rfl | exact Or.inr rfl))) (fun _ _ _ _ _ => tvs_nil) (fun _ _ _ _ _ => (ev_fnO (ok_pworth fx) hr rfl takes0 (ea_cons (ev_sl ev_var (pv_some ev_var) (pv_some (ev_op og_add ev_var (ev_ix hr.r.units ev_var ev_int)))) (ea_cons (ev_op og_add ev_var ev_int) ea_nil))))) ea_nil)) ea_nil)))))
    (sv_one (sv_ret ev_var))))
theorem ok_columns_of {P : Program} {w : World} {K : PySem.W.Frag} {mg : Str → Option Value} {base : Heap} (fx : Fx K mg) : OkF P w K mg base "columns_of" ["code", "row"] 1 LH.d_columns_of :=
  okF_N (fx.c.def_ 6 (d := a_columns_of) rfl) fx.g_columns_of sc_columns_of (fun _ _ _ _ _ _ us hl => match us, hl with | [_, _], _ => rfl) fun cdv A outer s H E hr tk hp =>
  (sv_one (sv_ret (ev_comp (own := [(("at" : Str), 2)]) rfl sc_columns_of.nd (iv_rng3 rfl fx.m_range ev_int (ev_callB cg_len rfl fx.m_len (by decide +kernel) (ea_cons ev_var ea_nil)) (ev_ix hr.r.units ev_var ev_int)) (blkOk_by (N := N_columns_of) (sc := defScope s_columns_of) (own := [(("at" : Str), 2)]) (by decide +kernel)) (fun _ _ _ _ _ => (gv_nm sc_columns_of.nd rfl (by first | exact Or.inl rfl | exact Or.inr rfl))) (fun _ _ _ _ _ => tvs_nil) (fun _ _ _ _ _ => (ev_sl ev_var (pv_some ev_var) (pv_some (ev_op og_add ev_var (ev_ix hr.r.units ev_var ev_int))))))))
theorem ok_worth_at {P : Program} {w : World} {K : PySem.W.Frag} {mg : Str → Option Value} {base : Heap} (fx : Fx K mg) : OkF P w K mg base "worth_at" ["row", "x"] 1 LS.d_worth_at :=
  okF_P (fx.c.def_ 7 (d := a_worth_at) rfl) fx.g_worth_at sc_worth_at (fun _ _ _ _ _ _ us hl => match us, hl with | [_, _], _ => rfl) fun cdv A outer s H E hr tk hp =>
  (sv_cons (sv_asg sc_worth_at.nd rfl (by first | exact Or.inl rfl | exact Or.inr rfl) ev_int)
    (sv_cons (sv_for hp rfl (iv_seq (ev_rev ev_var)) (gv_nm sc_worth_at.nd rfl (by first | exact Or.inl rfl | exact Or.inr rfl)) (sv_cons (sv_aug sc_worth_at.nd rfl (by first | exact Or.inl rfl | exact Or.inr rfl) ev_var ig_mulN)
    (sv_cons (sv_aug sc_worth_at.nd rfl (by first | exact Or.inl rfl | exact Or.inr rfl) ev_var ig_addN)
    (sv_one (sv_aug sc_worth_at.nd rfl (by first | exact Or.inl rfl | exact Or.inr rfl) (ev_gint rfl fx.c_PRIME) ig_mod)))))
    (sv_one (sv_ret ev_var))))
theorem ok_shards {P : Program} {w : World} {K : PySem.W.Frag} {mg : Str → Option Value} {base : Heap} (fx : Fx K mg) : OkF P w K mg base "shards" ["code", "row"] 2 LH.d_shards :=
  okF_N (fx.c.def_ 8 (d := a_shards) rfl) fx.g_shards sc_shards (fun _ _ _ _ _ _ us hl => match us, hl with | [_, _], _ => rfl) fun cdv A outer s H E hr tk hp =>
  (sv_cons (sv_asg sc_shards.nd rfl (by first | exact Or.inl rfl | exact Or.inr rfl) (ev_fnO (ok_columns_of fx) hr rfl tk (ea_cons ev_var (ea_cons ev_var ea_nil))))
    (sv_one (sv_ret (ev_compM (own := [(("j" : Str), 4)]) rfl sc_shards.nd (iv_rng1 rfl fx.m_range (ev_ix hr.r.units ev_var ev_int)) (blkOk_by (N := N_shards) (sc := defScope s_shards) (own := [(("j" : Str), 4)]) (by decide +kernel)) (fun _ _ _ _ _ => (gv_nm sc_shards.nd rfl (by first | exact Or.inl rfl | exact Or.inr rfl))) (fun _ _ _ _ _ => tvs_nil) (fun _ _ _ _ _ => (ev_callTy cg_tuple rfl fx.m_tuple (by decide +kernel) (ea_cons (ev_comp (own := [(("column" : Str), 3)]) rfl sc_shards.nd (iv_seq ev_var) (blkOk_by (own := [(("column" : Str), 3)]) (by rfl)) (fun _ _ _ _ _ => (gv_nm sc_shards.nd rfl (by first | exact Or.inl rfl | exact Or.inr rfl))) (fun _ _ _ _ _ => tvs_nil) (fun _ _ _ _ _ => (ev_fnO (ok_worth_at fx) hr rfl takes0 (ea_cons ev_var (ea_cons (ev_op og_add ev_var ev_int) ea_nil))))) ea_nil)))))))
theorem ok_need_of {P : Program} {w : World} {K : PySem.W.Frag} {mg : Str → Option Value} {base : Heap} (fx : Fx K mg) : OkF P w K mg base "need_of" ["code", "size"] 1 LH.d_need_of :=
  okF_N (fx.c.def_ 9 (d := a_need_of) rfl) fx.g_need_of sc_need_of (fun _ _ _ _ _ _ us hl => match us, hl with | [_, _], _ => rfl) fun cdv A outer s H E hr tk hp =>
  (sv_one (sv_ret (ev_callB (cg_min2 rfl) rfl fx.m_min (by decide +kernel) (ea_cons (ev_ix hr.r.units ev_var ev_int) (ea_cons ev_var ea_nil)))))
theorem ok_psome {P : Program} {w : World} {K : PySem.W.Frag} {mg : Str → Option Value} {base : Heap} (fx : Fx K mg) : OkF P w K mg base "_law_psome" ["_law_tape", "_law_right", "_law_many"] 4 d_psome :=
  okF_N (fx.c.def_ 10 (d := a_psome) rfl) fx.g_psome sc_psome (fun _ _ _ _ _ _ us hl => match us, hl with | [_, _, _], _ => rfl) fun cdv A outer s H E hr tk hp =>
  (sv_cons (sv_asg sc_psome.nd rfl (by first | exact Or.inl rfl | exact Or.inr rfl) (ev_lstRg1M rfl rfl fx.m_list rfl fx.m_range (ev_callB cg_len rfl fx.m_len (by decide +kernel) (ea_cons ev_var ea_nil))))
    (sv_cons (sv_asg sc_psome.nd rfl (by first | exact Or.inl rfl | exact Or.inr rfl) ev_dnew)
    (sv_cons (sv_for hp rfl (iv_rng1 rfl fx.m_range ev_var) (gv_nm sc_psome.nd rfl (by first | exact Or.inl rfl | exact Or.inr rfl)) (sv_cons (sv_asg sc_psome.nd rfl (by first | exact Or.inl rfl | exact Or.inr rfl) (ev_popAt ev_var (ea_cons (ev_fnO (ok_pdraw fx) hr rfl tk (ea_cons ev_var (ea_cons (ev_callB cg_len rfl fx.m_len (by decide +kernel) (ea_cons ev_var ea_nil)) ea_nil))) ea_nil)))
    (sv_one (sv_setIx hr.r.units (ev_ix hr.r.units ev_var ev_var) ev_var ev_var))))
    (sv_one (sv_ret ev_var)))))
theorem ok_widths {P : Program} {w : World} {K : PySem.W.Frag} {mg : Str → Option Value} {base : Heap} (fx : Fx K mg) : OkF P w K mg base "widths" ["code", "size"] 1 LK.d_widths :=
  okF_P (fx.c.def_ 11 (d := a_widths) rfl) fx.g_widths sc_widths (fun _ _ _ _ _ _ us hl => match us, hl with | [_, _], _ => rfl) fun cdv A outer s H E hr tk hp =>
  (sv_one (sv_ret (ev_comp (own := [(("at" : Str), 2)]) rfl sc_widths.nd (iv_rng3 rfl fx.m_range ev_int ev_var (ev_ix hr.r.units ev_var ev_int)) (blkOk_by (N := N_widths) (sc := defScope s_widths) (own := [(("at" : Str), 2)]) (by decide +kernel)) (fun _ _ _ _ _ => (gv_nm sc_widths.nd rfl (by first | exact Or.inl rfl | exact Or.inr rfl))) (fun _ _ _ _ _ => tvs_nil) (fun _ _ _ _ _ => (ev_callB (cg_min2 rfl) rfl fx.m_min (by decide +kernel) (ea_cons (ev_ix hr.r.units ev_var ev_int) (ea_cons (ev_op og_sub ev_var ev_var) ea_nil)))))))
theorem ok_times {P : Program} {w : World} {K : PySem.W.Frag} {mg : Str → Option Value} {base : Heap} (fx : Fx K mg) : OkF P w K mg base "times" ["row", "number"] 1 LS.d_times :=
  okF_P (fx.c.def_ 12 (d := a_times) rfl) fx.g_times sc_times (fun _ _ _ _ _ _ us hl => match us, hl with | [_, _], _ => rfl) fun cdv A outer s H E hr tk hp =>
  (sv_one (sv_ret (ev_callTy cg_tuple rfl fx.m_tuple (by decide +kernel) (ea_cons (ev_comp (own := [(("sign" : Str), 2)]) rfl sc_times.nd (iv_seq ev_var) (blkOk_by (N := N_times) (sc := defScope s_times) (own := [(("sign" : Str), 2)]) (by decide +kernel)) (fun _ _ _ _ _ => (gv_nm sc_times.nd rfl (by first | exact Or.inl rfl | exact Or.inr rfl))) (fun _ _ _ _ _ => tvs_nil) (fun _ _ _ _ _ => (ev_op og_mod (ev_op og_mul ev_var ev_var) (ev_gint rfl fx.c_PRIME)))) ea_nil))))
theorem ok_added {P : Program} {w : World} {K : PySem.W.Frag} {mg : Str → Option Value} {base : Heap} (fx : Fx K mg) : OkF P w K mg base "added" ["one", "other"] 1 LS.d_added :=
  okF_P (fx.c.def_ 13 (d := a_added) rfl) fx.g_added sc_added (fun _ _ _ _ _ _ us hl => match us, hl with | [_, _], _ => rfl) fun cdv A outer s H E hr tk hp =>
  (sv_cons (sv_asg sc_added.nd rfl (by first | exact Or.inl rfl | exact Or.inr rfl) (ev_callB (cg_max2 rfl) rfl fx.m_max (by decide +kernel) (ea_cons (ev_callB cg_len rfl fx.m_len (by decide +kernel) (ea_cons ev_var ea_nil)) (ea_cons (ev_callB cg_len rfl fx.m_len (by decide +kernel) (ea_cons ev_var ea_nil)) ea_nil))))
    (sv_cons (sv_asg sc_added.nd rfl (by first | exact Or.inl rfl | exact Or.inr rfl) (ev_op og_add ev_var (ev_op og_mul (ev_tup (ea_cons ev_int ea_nil)) (ev_op og_sub ev_var (ev_callB cg_len rfl fx.m_len (by decide +kernel) (ea_cons ev_var ea_nil))))))
    (sv_one (sv_ret (ev_callTy cg_tuple rfl fx.m_tuple (by decide +kernel) (ea_cons (ev_comp (own := [(("a" : Str), 4), (("b" : Str), 5)]) rfl sc_added.nd (iv_zipS rfl fx.m_zip ev_var (ev_op og_add ev_var (ev_op og_mul (ev_tup (ea_cons ev_int ea_nil)) (ev_op og_sub ev_var (ev_callB cg_len rfl fx.m_len (by decide +kernel) (ea_cons ev_var ea_nil)))))) (blkOk_by (N := N_added) (sc := defScope s_added) (own := [(("a" : Str), 4), (("b" : Str), 5)]) (by decide +kernel)) (fun _ _ _ _ _ => (gv_tp rfl (gv_cons (gv_nm sc_added.nd rfl (by first | exact Or.inl rfl | exact Or.inr rfl)) (gv_cons (gv_nm sc_added.nd rfl (by first | exact Or.inl rfl | exact Or.inr rfl)) gv_nil)))) (fun _ _ _ _ _ => tvs_nil) (fun _ _ _ _ _ => (ev_op og_mod (ev_op og_add ev_var ev_var) (ev_gint rfl fx.c_PRIME)))) ea_nil))))))
theorem ok_lifted {P : Program} {w : World} {K : PySem.W.Frag} {mg : Str → Option Value} {base : Heap} (fx : Fx K mg) : OkF P w K mg base "lifted" ["row", "x"] 2 LS.d_lifted :=
  okF_P (fx.c.def_ 14 (d := a_lifted) rfl) fx.g_lifted sc_lifted (fun _ _ _ _ _ _ us hl => match us, hl with | [_, _], _ => rfl) fun cdv A outer s H E hr tk hp =>
  (sv_one (sv_ret (ev_fnO (ok_added fx) hr rfl tk (ea_cons (ev_op og_add (ev_tup (ea_cons ev_int ea_nil)) ev_var) (ea_cons (ev_fnO (ok_times fx) hr rfl tk (ea_cons ev_var (ea_cons (ev_op og_mod (ev_un og_neg ev_var) (ev_gint rfl fx.c_PRIME)) ea_nil))) ea_nil)))))
theorem ok_turned_about {P : Program} {w : World} {K : PySem.W.Frag} {mg : Str → Option Value} {base : Heap} (fx : Fx K mg) : OkF P w K mg base "turned_about" ["number"] 1 LS.d_turned_about :=
  okF_P (fx.c.def_ 15 (d := a_turned_about) rfl) fx.g_turned_about sc_turned_about (fun _ _ _ _ _ _ us hl => match us, hl with | [_], _ => rfl) fun cdv A outer s H E hr tk hp =>
  (sv_one (sv_ret (ev_ix hr.r.units (ev_gtupI (ns := LS.tab_TURNED) rfl fx.c_TURNED fx.t_TURNED (by decide)) ev_var)))
theorem ok_through {P : Program} {w : World} {K : PySem.W.Frag} {mg : Str → Option Value} {base : Heap} (fx : Fx K mg) : OkF P w K mg base "through" ["pairs"] 3 LS.d_through :=
  okF_P (fx.c.def_ 16 (d := a_through) rfl) fx.g_through sc_through (fun _ _ _ _ _ _ us hl => match us, hl with | [_], _ => rfl) fun cdv A outer s H E hr tk hp =>
  (sv_cons (sv_asg sc_through.nd rfl (by first | exact Or.inl rfl | exact Or.inr rfl) (ev_op og_mul (ev_tup (ea_cons ev_int ea_nil)) (ev_callB cg_len rfl fx.m_len (by decide +kernel) (ea_cons ev_var ea_nil))))
    (sv_cons (sv_for hp rfl (iv_seq ev_var) (gv_tp rfl (gv_cons (gv_nm sc_through.nd rfl (by first | exact Or.inl rfl | exact Or.inr rfl)) (gv_cons (gv_nm sc_through.nd rfl (by first | exact Or.inl rfl | exact Or.inr rfl)) gv_nil))) (sv_cons (sv_asg sc_through.nd rfl (by first | exact Or.inl rfl | exact Or.inr rfl) (ev_tup (ea_cons ev_int ea_nil)))
    (sv_cons (sv_asg sc_through.nd rfl (by first | exact Or.inl rfl | exact Or.inr rfl) ev_int)
    (sv_cons (sv_for hp rfl (iv_seq ev_var) (gv_tp rfl (gv_cons (gv_nm sc_through.nd rfl (by first | exact Or.inl rfl | exact Or.inr rfl)) (gv_cons (gv_nm sc_through.nd rfl (by first | exact Or.inl rfl | exact Or.inr rfl)) gv_nil))) (sv_one (sv_if (tv_cmp (og_ne hr.r.units) ev_var ev_var rfl) (sv_cons (sv_asg sc_through.nd rfl (by first | exact Or.inl rfl | exact Or.inr rfl) (ev_fnO (ok_lifted fx) hr rfl tk (ea_cons ev_var (ea_cons ev_var ea_nil))))
    (sv_cons (sv_aug sc_through.nd rfl (by first | exact Or.inl rfl | exact Or.inr rfl) (ev_op og_sub ev_var ev_var) ig_mulN)
    (sv_one (sv_aug sc_through.nd rfl (by first | exact Or.inl rfl | exact Or.inr rfl) (ev_gint rfl fx.c_PRIME) ig_mod)))) sv_nil)))
    (sv_one (sv_asg sc_through.nd rfl (by first | exact Or.inl rfl | exact Or.inr rfl) (ev_fnO (ok_added fx) hr rfl tk (ea_cons ev_var (ea_cons (ev_fnO (ok_times fx) hr rfl tk (ea_cons ev_var (ea_cons (ev_op og_mod (ev_op og_mul ev_var (ev_fnO (ok_turned_about fx) hr rfl tk (ea_cons ev_var ea_nil))) (ev_gint rfl fx.c_PRIME)) ea_nil))) ea_nil)))))))))
    (sv_one (sv_ret ev_var))))
theorem ok_bases {P : Program} {w : World} {K : PySem.W.Frag} {mg : Str → Option Value} {base : Heap} (fx : Fx K mg) : OkF P w K mg base "bases" ["points"] 4 LK.d_bases :=
  okF_P (fx.c.def_ 17 (d := a_bases) rfl) fx.g_bases sc_bases (fun _ _ _ _ _ _ us hl => match us, hl with | [_], _ => rfl) fun cdv A outer s H E hr tk hp =>
  (sv_one (sv_ret (ev_comp (own := [(("point" : Str), 2)]) rfl sc_bases.nd (iv_seq ev_var) (blkOk_by (N := N_bases) (sc := defScope s_bases) (own := [(("point" : Str), 2)]) (by decide +kernel)) (fun _ _ _ _ _ => (gv_nm sc_bases.nd rfl (by first | exact Or.inl rfl | exact Or.inr rfl))) (fun _ _ _ _ _ => tvs_nil) (fun _ _ _ _ _ => (ev_fnO (ok_through fx) hr rfl takes0 (ea_cons (ev_comp (own := [(("x" : Str), 1)]) rfl sc_bases.nd (iv_seq ev_var) (blkOk_by (own := [(("x" : Str), 1)]) (by rfl)) (fun _ _ _ _ _ => (gv_nm sc_bases.nd rfl (by first | exact Or.inl rfl | exact Or.inr rfl))) (fun _ _ _ _ _ => tvs_nil) (fun _ _ _ _ _ => (ev_tup (ea_cons ev_var (ea_cons (ev_callTy cg_int rfl fx.m_int (by decide +kernel) (ea_cons (ev_cmp (og_eq hr.r.units) ev_var ev_var rfl) ea_nil)) ea_nil))))) ea_nil))))))
theorem ok_column_by {P : Program} {w : World} {K : PySem.W.Frag} {mg : Str → Option Value} {base : Heap} (fx : Fx K mg) : OkF P w K mg base "column_by" ["basis", "signs"] 1 LK.d_column_by :=
  okF_P (fx.c.def_ 18 (d := a_column_by) rfl) fx.g_column_by sc_column_by (fun _ _ _ _ _ _ us hl => match us, hl with | [_, _], _ => rfl) fun cdv A outer s H E hr tk hp =>
  (sv_cons (sv_asg sc_column_by.nd rfl (by first | exact Or.inl rfl | exact Or.inr rfl) (ev_zipL rfl rfl fx.m_list rfl fx.m_zip ev_var ev_var))
    (sv_one (sv_ret (ev_callTy cg_tuple rfl fx.m_tuple (by decide +kernel) (ea_cons (ev_comp (own := [(("at" : Str), 5)]) rfl sc_column_by.nd (iv_rng1 rfl fx.m_range (ev_callB cg_len rfl fx.m_len (by decide +kernel) (ea_cons ev_var ea_nil))) (blkOk_by (N := N_column_by) (sc := defScope s_column_by) (own := [(("at" : Str), 5)]) (by decide +kernel)) (fun _ _ _ _ _ => (gv_nm sc_column_by.nd rfl (by first | exact Or.inl rfl | exact Or.inr rfl))) (fun _ _ _ _ _ => tvs_nil) (fun _ _ _ _ _ => (ev_op og_mod (ev_callB (cg_sum rfl) rfl fx.m_sum (by decide +kernel) (ea_cons (ev_comp (own := [(("sign" : Str), 3), (("base" : Str), 4)]) rfl sc_column_by.nd (iv_seq ev_var) (blkOk_by (own := [(("sign" : Str), 3), (("base" : Str), 4)]) (by rfl)) (fun _ _ _ _ _ => (gv_tp rfl (gv_cons (gv_nm sc_column_by.nd rfl (by first | exact Or.inl rfl | exact Or.inr rfl)) (gv_cons (gv_nm sc_column_by.nd rfl (by first | exact Or.inl rfl | exact Or.inr rfl)) gv_nil)))) (fun _ _ _ _ _ => tvs_nil) (fun _ _ _ _ _ => (ev_op og_mul ev_var (ev_ix hr.r.units ev_var ev_var)))) ea_nil)) (ev_gint rfl fx.c_PRIME)))) ea_nil)))))
theorem ok_row_by {P : Program} {w : World} {K : PySem.W.Frag} {mg : Str → Option Value} {base : Heap} (fx : Fx K mg) : OkF P w K mg base "row_by" ["code", "size", "some", "numbers"] 5 LK.d_row_by :=
  okF_P (fx.c.def_ 19 (d := a_row_by) rfl) fx.g_row_by sc_row_by (fun _ _ _ _ _ _ us hl => match us, hl with | [_, _, _, _], _ => rfl) fun cdv A outer s H E hr tk hp =>
  (sv_cons (sv_asg sc_row_by.nd rfl (by first | exact Or.inl rfl | exact Or.inr rfl) (ev_fnO (ok_widths fx) hr rfl tk (ea_cons ev_var (ea_cons ev_var ea_nil))))
    (sv_cons (sv_setDcM (own := [(("width" : Str), 8)]) rfl sc_row_by.nd rfl rfl (sw_trueD rfl rfl rfl (by decide +kernel)) (iv_seq (ev_sortSet rfl rfl fx.m_sorted rfl fx.m_set ev_var)) (blkOk_by (N := N_row_by) (sc := defScope s_row_by) (own := [(("width" : Str), 8)]) (by decide +kernel)) (fun _ _ _ _ _ => (gv_nm sc_row_by.nd rfl (by first | exact Or.inl rfl | exact Or.inr rfl))) (fun _ _ _ _ _ => tvs_nil) (fun _ _ _ _ _ => ev_var) (fun _ _ _ _ _ => (ev_fnO (ok_bases fx) hr rfl takes0 (ea_cons (ev_comp (own := [(("j" : Str), 10)]) rfl sc_row_by.nd (iv_seq (ev_sl ev_var pv_none (pv_some ev_var))) (blkOk_by (own := [(("j" : Str), 10)]) (by rfl)) (fun _ _ _ _ _ => (gv_nm sc_row_by.nd rfl (by first | exact Or.inl rfl | exact Or.inr rfl))) (fun _ _ _ _ _ => tvs_nil) (fun _ _ _ _ _ => (ev_op og_add ev_var ev_int))) ea_nil))))
    (sv_cons (sv_asg sc_row_by.nd rfl (by first | exact Or.inl rfl | exact Or.inr rfl) (ev_lstM ea_nil))
    (sv_cons (sv_for hp rfl (iv_enum rfl fx.m_enumerate ev_var) (gv_tp rfl (gv_cons (gv_nm sc_row_by.nd rfl (by first | exact Or.inl rfl | exact Or.inr rfl)) (gv_cons (gv_nm sc_row_by.nd rfl (by first | exact Or.inl rfl | exact Or.inr rfl)) gv_nil))) (sv_cons (sv_asg sc_row_by.nd rfl (by first | exact Or.inl rfl | exact Or.inr rfl) (ev_fnO (ok_column_by fx) hr rfl tk (ea_cons (ev_ix hr.r.units ev_var ev_var) (ea_cons (ev_comp (own := [(("j" : Str), 10)]) rfl sc_row_by.nd (iv_seq (ev_sl ev_var pv_none (pv_some ev_var))) (blkOk_by (N := N_row_by) (sc := defScope s_row_by) (own := [(("j" : Str), 10)]) (by decide +kernel)) (fun _ _ _ _ _ => (gv_nm sc_row_by.nd rfl (by first | exact Or.inl rfl | exact Or.inr rfl))) (fun _ _ _ _ _ => tvs_nil) (fun _ _ _ _ _ => (ev_ix hr.r.units (ev_ix hr.r.units ev_var ev_var) ev_var))) ea_nil))))
    (sv_one (sv_expr (ev_extend ev_var (ea_cons (ev_op og_add ev_var (ev_op og_mul (ev_tup (ea_cons ev_int ea_nil)) (ev_op og_sub ev_var (ev_callB cg_len rfl fx.m_len (by decide +kernel) (ea_cons ev_var ea_nil))))) ea_nil))))))
    (sv_one (sv_ret (ev_callTy cg_tuple rfl fx.m_tuple (by decide +kernel) (ea_cons ev_var ea_nil))))))))
theorem ok_wrong_in {P : Program} {w : World} {K : PySem.W.Frag} {mg : Str → Option Value} {base : Heap} (fx : Fx K mg) : OkF P w K mg base "wrong_in" ["code", "row", "some"] 3 LG.d_wrong_in :=
  okF_P (fx.c.def_ 20 (d := a_wrong_in) rfl) fx.g_wrong_in sc_wrong_in (fun _ _ _ _ _ _ us hl => match us, hl with | [_, _, _], _ => rfl) fun cdv A outer s H E hr tk hp =>
  (sv_cons (sv_asg sc_wrong_in.nd rfl (by first | exact Or.inl rfl | exact Or.inr rfl) (ev_fnO (ok_shards fx) hr rfl tk (ea_cons ev_var (ea_cons ev_var ea_nil))))
    (sv_one (sv_ret (ev_comp (own := [(("j" : Str), 4)]) rfl sc_wrong_in.nd (iv_seq (ev_callB (cg_sorted rfl) rfl fx.m_sorted (by decide +kernel) (ea_cons ev_var ea_nil))) (blkOk_by (N := N_wrong_in) (sc := defScope s_wrong_in) (own := [(("j" : Str), 4)]) (by decide +kernel)) (fun _ _ _ _ _ => (gv_nm sc_wrong_in.nd rfl (by first | exact Or.inl rfl | exact Or.inr rfl))) (fun _ _ _ _ _ => (tvs_one (tv_cmp (og_ne hr.r.units) (ev_ix hr.r.units ev_var ev_var) (ev_ix hr.r.units ev_var ev_var) rfl))) (fun _ _ _ _ _ => ev_var)))))
theorem ok_vanishing {P : Program} {w : World} {K : PySem.W.Frag} {mg : Str → Option Value} {base : Heap} (fx : Fx K mg) : OkF P w K mg base "vanishing" ["numbers"] 3 LK.d_vanishing :=
  okF_P (fx.c.def_ 21 (d := a_vanishing) rfl) fx.g_vanishing sc_vanishing (fun _ _ _ _ _ _ us hl => match us, hl with | [_], _ => rfl) fun cdv A outer s H E hr tk hp =>
  (sv_cons (sv_asg sc_vanishing.nd rfl (by first | exact Or.inl rfl | exact Or.inr rfl) (ev_tup (ea_cons ev_int ea_nil)))
    (sv_cons (sv_for hp rfl (iv_seq ev_var) (gv_nm sc_vanishing.nd rfl (by first | exact Or.inl rfl | exact Or.inr rfl)) (sv_one (sv_asg sc_vanishing.nd rfl (by first | exact Or.inl rfl | exact Or.inr rfl) (ev_fnO (ok_lifted fx) hr rfl tk (ea_cons ev_var (ea_cons (ev_op og_add ev_var ev_int) ea_nil))))))
    (sv_one (sv_ret ev_var))))
theorem ok_few_by {P : Program} {w : World} {K : PySem.W.Frag} {mg : Str → Option Value} {base : Heap} (fx : Fx K mg) : OkF P w K mg base "few_by" ["code", "size", "some"] 6 LK.d_few_by :=
  okF_P (fx.c.def_ 22 (d := a_few_by) rfl) fx.g_few_by sc_few_by (fun _ _ _ _ _ _ us hl => match us, hl with | [_, _, _], _ => rfl) fun cdv A outer s H E hr tk hp =>
  (sv_cons (sv_asg sc_few_by.nd rfl (by first | exact Or.inl rfl | exact Or.inr rfl) (ev_callB (cg_sorted rfl) rfl fx.m_sorted (by decide +kernel) (ea_cons ev_var ea_nil)))
    (sv_cons (sv_asg sc_few_by.nd rfl (by first | exact Or.inl rfl | exact Or.inr rfl) (ev_fnO (ok_row_by fx) hr rfl tk (ea_cons ev_var (ea_cons ev_var (ea_cons ev_var (ea_cons ev_var ea_nil))))))
    (sv_cons (sv_if (tv_cmp (og_ne hr.r.units) (ev_fnO (ok_wrong_in fx) hr rfl tk (ea_cons ev_var (ea_cons ev_var (ea_cons ev_var ea_nil)))) (ev_lst ea_nil) rfl) (sv_one (sv_ret (ev_tup (ea_cons ev_str ea_nil)))) sv_nil)
    (sv_one (sv_ret (ev_tup (ea_cons ev_str (ea_cons ev_var (ea_cons (ev_fnO (ok_added fx) hr rfl tk (ea_cons ev_var (ea_cons (ev_fnO (ok_vanishing fx) hr rfl tk (ea_cons ev_var ea_nil)) ea_nil))) ea_nil)))))))))
theorem ok_choices {P : Program} {w : World} {K : PySem.W.Frag} {mg : Str → Option Value} {base : Heap} (fx : Fx K mg) : OkF P w K mg base "choices" ["numbers", "many"] 1 LK.d_choices :=
  okF_P (fx.c.def_ 23 (d := a_choices) rfl) fx.g_choices sc_choices (fun _ _ _ _ _ _ us hl => match us, hl with | [_, _], _ => rfl) fun cdv A outer s H E hr tk hp =>
  (sv_cons (sv_asg sc_choices.nd rfl (by first | exact Or.inl rfl | exact Or.inr rfl) (ev_lst (ea_cons (ev_lst ea_nil) ea_nil)))
    (sv_cons (sv_for hp rfl (iv_rng1 rfl fx.m_range ev_var) (gv_nm sc_choices.nd rfl (by first | exact Or.inl rfl | exact Or.inr rfl)) (sv_one (sv_setComp2 (own := [(("one" : Str), 4), (("j" : Str), 5)]) (vs1 := [5]) rfl sc_choices.nd rfl rfl (sw_true rfl rfl rfl (by decide +kernel)) (iv_seq ev_var) (blkOk_by (N := N_choices) (sc := defScope s_choices) (own := [(("one" : Str), 4), (("j" : Str), 5)]) (by decide +kernel)) (fun _ _ _ _ _ => (gv_nm sc_choices.nd rfl (by first | exact Or.inl rfl | exact Or.inr rfl))) (fun _ _ _ _ _ => tvs_nil) (fun _ _ _ _ _ => (iv_seq ev_var)) (fun _ _ _ _ _ => (gv_nm sc_choices.nd rfl (by first | exact Or.inl rfl | exact Or.inr rfl))) (fun _ _ _ _ _ => (tvs_one (tv_w (wv_or (tv_cmp (og_eq hr.r.units) ev_var (ev_lst ea_nil) rfl) (wv_or1 (tv_cmp og_gt ev_var (ev_ix hr.r.units ev_var (ev_un og_neg ev_int)) rfl)))))) (fun _ _ _ _ _ => (ev_op og_add ev_var (ev_lst (ea_cons ev_var ea_nil)))))))
    (sv_one (sv_ret ev_var))))
theorem ok_told_by {P : Program} {w : World} {K : PySem.W.Frag} {mg : Str → Option Value} {base : Heap} (fx : Fx K mg) : OkF P w K mg base "told_by" ["code", "size", "some"] 7 LK.d_told_by :=
  okF_P (fx.c.def_ 24 (d := a_told_by) rfl) fx.g_told_by sc_told_by (fun _ _ _ _ _ _ us hl => match us, hl with | [_, _, _], _ => rfl) fun cdv A outer s H E hr tk hp =>
  (sv_cons (sv_asg sc_told_by.nd rfl (by first | exact Or.inl rfl | exact Or.inr rfl) (ev_fnO (ok_need_of fx) hr rfl tk (ea_cons ev_var (ea_cons ev_var ea_nil))))
    (sv_cons (sv_if (tv_cmp og_lt (ev_callB cg_len rfl fx.m_len (by decide +kernel) (ea_cons ev_var ea_nil)) ev_var rfl) (sv_one (sv_ret (ev_fnO (ok_few_by fx) hr rfl tk (ea_cons ev_var (ea_cons ev_var (ea_cons ev_var ea_nil)))))) sv_nil)
    (sv_cons (sv_asg sc_told_by.nd rfl (by first | exact Or.inl rfl | exact Or.inr rfl) (ev_fnO (ok_row_by fx) hr rfl tk (ea_cons ev_var (ea_cons ev_var (ea_cons ev_var (ea_cons (ev_sl (ev_callB (cg_sorted rfl) rfl fx.m_sorted (by decide +kernel) (ea_cons ev_var ea_nil)) pv_none (pv_some ev_var)) ea_nil))))))
    (sv_cons (sv_if (tv_cmp (og_eq hr.r.units) (ev_fnO (ok_wrong_in fx) hr rfl tk (ea_cons ev_var (ea_cons ev_var (ea_cons ev_var ea_nil)))) (ev_lst ea_nil) rfl) (sv_one (sv_ret (ev_tup (ea_cons ev_str (ea_cons ev_var (ea_cons (ev_lst ea_nil) ea_nil)))))) sv_nil)
    (sv_cons (sv_for hp rfl (iv_seq (ev_fnO (ok_choices fx) hr rfl tk (ea_cons (ev_callB (cg_sorted rfl) rfl fx.m_sorted (by decide +kernel) (ea_cons ev_var ea_nil)) (ea_cons ev_var ea_nil)))) (gv_nm sc_told_by.nd rfl (by first | exact Or.inl rfl | exact Or.inr rfl)) (sv_cons (sv_asg sc_told_by.nd rfl (by first | exact Or.inl rfl | exact Or.inr rfl) (ev_fnO (ok_row_by fx) hr rfl tk (ea_cons ev_var (ea_cons ev_var (ea_cons ev_var (ea_cons ev_var ea_nil))))))
    (sv_cons (sv_asg sc_told_by.nd rfl (by first | exact Or.inl rfl | exact Or.inr rfl) (ev_fnO (ok_wrong_in fx) hr rfl tk (ea_cons ev_var (ea_cons ev_var (ea_cons ev_var ea_nil)))))
    (sv_one (sv_if (tv_cmp og_le (ev_op og_mul ev_int (ev_callB cg_len rfl fx.m_len (by decide +kernel) (ea_cons ev_var ea_nil))) (ev_op og_sub (ev_callB cg_len rfl fx.m_len (by decide +kernel) (ea_cons ev_var ea_nil)) ev_var) rfl) (sv_one (sv_ret (ev_tup (ea_cons ev_str (ea_cons ev_var (ea_cons ev_var ea_nil)))))) sv_nil)))))
    (sv_one (sv_ret (ev_tup (ea_cons ev_str ea_nil)))))))))
theorem ok_is_whole {P : Program} {w : World} {K : PySem.W.Frag} {mg : Str → Option Value} {base : Heap} (fx : Fx K mg) : OkF P w K mg base "is_whole" ["thing"] 1 LS.d_is_whole :=
  okF_N (fx.c.def_ 25 (d := a_is_whole) rfl) fx.g_is_whole sc_is_whole (fun _ _ _ _ _ _ us hl => match us, hl with | [_], _ => rfl) fun cdv A outer s H E hr tk hp =>
  (sv_one (sv_ret (ev_and (ev_isi (t := .int) rfl fx.m_isinstance (by decide +kernel) rfl fx.m_int (by decide +kernel) ev_var) (ev_one (ev_not (ev_isi (t := .bool) rfl fx.m_isinstance (by decide +kernel) rfl fx.m_bool (by decide +kernel) ev_var))))))
theorem ok_is_sign {P : Program} {w : World} {K : PySem.W.Frag} {mg : Str → Option Value} {base : Heap} (fx : Fx K mg) : OkF P w K mg base "is_sign" ["thing"] 2 LS.d_is_sign :=
  okF_N (fx.c.def_ 26 (d := a_is_sign) rfl) fx.g_is_sign sc_is_sign (fun _ _ _ _ _ _ us hl => match us, hl with | [_], _ => rfl) fun cdv A outer s H E hr tk hp =>
  (sv_one (sv_ret (ev_and (ev_fnO (ok_is_whole fx) hr rfl tk (ea_cons ev_var ea_nil)) (ev_one (ev_chain og_le og_lt ev_int ev_var (ev_gint rfl fx.c_PRIME))))))
theorem okD_is_row {P : Program} {w : World} {K : PySem.W.Frag} {mg : Str → Option Value} {base : Heap} (fx : Fx K mg) : OkFD P w K mg base "is_row" ["thing", "most"] 1 3 [.int 1200] LS.d_is_row :=
  okFD_kw (kws := [("most", .int 1200)]) (n := 1) (fx.c.def_ 27 (d := a_is_row) rfl) fx.g_is_row sc_is_row (List.cons_ne_nil _ _) rfl (fun _ _ _ _ _ _ us ks h1 h2 => match us, ks, h1, h2 with | [_], [_], _, _ => ⟨_, _, _, _, _, _, rfl, rfl, rfl⟩) (fun cdv A outer s H E hr tk hp =>
  (sv_one (sv_ret (ev_and (ev_isi (t := .tuple) rfl fx.m_isinstance (by decide +kernel) rfl fx.m_tuple (by decide +kernel) ev_var) (ev_and (ev_cmp og_le (ev_callB cg_len rfl fx.m_len (by decide +kernel) (ea_cons ev_var ea_nil)) ev_var rfl) (ev_one (ev_callB (cg_all rfl) rfl fx.m_all (by decide +kernel) (ea_cons (ev_comp (own := [(("one" : Str), 2)]) rfl sc_is_row.nd (iv_seq ev_var) (blkOk_by (N := N_is_row) (sc := defScope s_is_row) (own := [(("one" : Str), 2)]) (by decide +kernel)) (fun _ _ _ _ _ => (gv_nm sc_is_row.nd rfl (by first | exact Or.inl rfl | exact Or.inr rfl))) (fun _ _ _ _ _ => tvs_nil) (fun _ _ _ _ _ => (ev_fnO (ok_is_sign fx) hr rfl takes0 (ea_cons ev_var ea_nil)))) ea_nil)))))))) (fun _ _ _ _ h => h)
theorem ok_are_ghosts {P : Program} {w : World} {K : PySem.W.Frag} {mg : Str → Option Value} {base : Heap} (fx : Fx K mg) : OkF P w K mg base "are_ghosts" ["code", "size", "some", "one", "other"] 4 LG.d_are_ghosts :=
  okF_P (fx.c.def_ 28 (d := a_are_ghosts) rfl) fx.g_are_ghosts sc_are_ghosts (fun _ _ _ _ _ _ us hl => match us, hl with | [_, _, _, _, _], _ => rfl) fun cdv A outer s H E hr tk hp =>
  (sv_cons (sv_for hp rfl (iv_seq (ev_tup (ea_cons ev_var (ea_cons ev_var ea_nil)))) (gv_nm sc_are_ghosts.nd rfl (by first | exact Or.inl rfl | exact Or.inr rfl)) (sv_one (sv_if (tv_w (wv_or (tv_not (tv_val (ev_fnD (okD_is_row fx) (fun _ _ _ => (.cons (.int _) .nil)) hr rfl tk (ea_cons ev_var ea_nil)))) (wv_or (tv_cmp (og_ne hr.r.units) (ev_callB cg_len rfl fx.m_len (by decide +kernel) (ea_cons ev_var ea_nil)) ev_var rfl) (wv_or1 (tv_cmp (og_ne hr.r.units) (ev_fnO (ok_wrong_in fx) hr rfl tk (ea_cons ev_var (ea_cons ev_var (ea_cons ev_var ea_nil)))) (ev_lst ea_nil) rfl))))) (sv_one (sv_ret ev_bl)) sv_nil)))
    (sv_one (sv_ret (ev_cmp (og_ne hr.r.units) ev_var ev_var rfl))))
theorem ok_pfew_right {P : Program} {w : World} {K : PySem.W.Frag} {mg : Str → Option Value} {base : Heap} (fx : Fx K mg) : OkF P w K mg base "_law_pfew_right" ["_law_code", "_law_row", "_law_some"] 8 d_pfew_right :=
  okF_N (fx.c.def_ 29 (d := a_pfew_right) rfl) fx.g_pfew_right sc_pfew_right (fun _ _ _ _ _ _ us hl => match us, hl with | [_, _, _], _ => rfl) fun cdv A outer s H E hr tk hp =>
  (sv_cons (sv_asg sc_pfew_right.nd rfl (by first | exact Or.inl rfl | exact Or.inr rfl) (ev_fnO (ok_told_by fx) hr rfl tk (ea_cons ev_var (ea_cons (ev_callB cg_len rfl fx.m_len (by decide +kernel) (ea_cons ev_var ea_nil)) (ea_cons ev_var ea_nil)))))
    (sv_cons (sv_if (tv_w (wv_or (tv_not (tv_val (ev_isi (t := .tuple) rfl fx.m_isinstance (by decide +kernel) rfl fx.m_tuple (by decide +kernel) ev_var))) (wv_or (tv_cmp (og_ne hr.r.units) (ev_callB cg_len rfl fx.m_len (by decide +kernel) (ea_cons ev_var ea_nil)) ev_int rfl) (wv_or (tv_cmp (og_ne hr.r.units) (ev_ix hr.r.units ev_var ev_int) ev_str rfl) (wv_or1 (tv_cmp (og_eq hr.r.units) (ev_ix hr.r.units ev_var ev_int) (ev_ix hr.r.units ev_var ev_int) rfl)))))) (sv_one (sv_ret ev_bl)) sv_nil)
    (sv_cons (sv_for hp rfl (iv_seq (ev_sl ev_var (pv_some ev_int) pv_none)) (gv_nm sc_pfew_right.nd rfl (by first | exact Or.inl rfl | exact Or.inr rfl)) (sv_cons (sv_if (tv_w (wv_or (tv_not (tv_val (ev_isi (t := .tuple) rfl fx.m_isinstance (by decide +kernel) rfl fx.m_tuple (by decide +kernel) ev_var))) (wv_or1 (tv_cmp (og_ne hr.r.units) (ev_callB cg_len rfl fx.m_len (by decide +kernel) (ea_cons ev_var ea_nil)) (ev_callB cg_len rfl fx.m_len (by decide +kernel) (ea_cons ev_var ea_nil)) rfl)))) (sv_one (sv_ret ev_bl)) sv_nil)
    (sv_cons (sv_if (tv_not (tv_val (ev_callB (cg_all rfl) rfl fx.m_all (by decide +kernel) (ea_cons (ev_comp (own := [(("_law_sign" : Str), 6)]) rfl sc_pfew_right.nd (iv_seq ev_var) (blkOk_by (N := N_pfew_right) (sc := defScope s_pfew_right) (own := [(("_law_sign" : Str), 6)]) (by decide +kernel)) (fun _ _ _ _ _ => (gv_nm sc_pfew_right.nd rfl (by first | exact Or.inl rfl | exact Or.inr rfl))) (fun _ _ _ _ _ => tvs_nil) (fun _ _ _ _ _ => (ev_and (ev_isi (t := .int) rfl fx.m_isinstance (by decide +kernel) rfl fx.m_int (by decide +kernel) ev_var) (ev_and (ev_not (ev_isi (t := .bool) rfl fx.m_isinstance (by decide +kernel) rfl fx.m_bool (by decide +kernel) ev_var)) (ev_one (ev_chain og_le og_lt ev_int ev_var ev_int)))))) ea_nil)))) (sv_one (sv_ret ev_bl)) sv_nil)
    (sv_cons (sv_asg sc_pfew_right.nd rfl (by first | exact Or.inl rfl | exact Or.inr rfl) (ev_fnO (ok_pshards fx) hr rfl tk (ea_cons ev_var (ea_cons ev_var ea_nil))))
    (sv_one (sv_if (tv_not (tv_val (ev_callB (cg_all rfl) rfl fx.m_all (by decide +kernel) (ea_cons (ev_comp (own := [(("_law_j" : Str), 7)]) rfl sc_pfew_right.nd (iv_seq ev_var) (blkOk_by (N := N_pfew_right) (sc := defScope s_pfew_right) (own := [(("_law_j" : Str), 7)]) (by decide +kernel)) (fun _ _ _ _ _ => (gv_nm sc_pfew_right.nd rfl (by first | exact Or.inl rfl | exact Or.inr rfl))) (fun _ _ _ _ _ => tvs_nil) (fun _ _ _ _ _ => (ev_cmp (og_eq hr.r.units) (ev_ix hr.r.units ev_var ev_var) (ev_ix hr.r.units ev_var ev_var) rfl))) ea_nil)))) (sv_one (sv_ret ev_bl)) sv_nil))))))
    (sv_cons (sv_if (tv_cmp og_isntB (ev_fnO (ok_are_ghosts fx) hr rfl tk (ea_cons ev_var (ea_cons (ev_callB cg_len rfl fx.m_len (by decide +kernel) (ea_cons ev_var ea_nil)) (ea_cons ev_var (ea_cons (ev_ix hr.r.units ev_var ev_int) (ea_cons (ev_ix hr.r.units ev_var ev_int) ea_nil)))))) ev_bl rfl) (sv_one (sv_ret ev_bl)) sv_nil)
    (sv_one (sv_ret (ev_cmp og_isB (ev_fnO (ok_are_ghosts fx) hr rfl tk (ea_cons ev_var (ea_cons (ev_callB cg_len rfl fx.m_len (by decide +kernel) (ea_cons ev_var ea_nil)) (ea_cons ev_var (ea_cons (ev_ix hr.r.units ev_var ev_int) (ea_cons (ev_ix hr.r.units ev_var ev_int) ea_nil)))))) ev_bl rfl)))))))
theorem ok_pchanged_right {P : Program} {w : World} {K : PySem.W.Frag} {mg : Str → Option Value} {base : Heap} (fx : Fx K mg) : OkF P w K mg base "_law_pchanged_right" ["_law_tape", "_law_code", "_law_row", "_law_right"] 8 d_pchanged_right :=
  okF_N (fx.c.def_ 30 (d := a_pchanged_right) rfl) fx.g_pchanged_right sc_pchanged_right (fun _ _ _ _ _ _ us hl => match us, hl with | [_, _, _, _], _ => rfl) fun cdv A outer s H E hr tk hp =>
  (sv_cons (sv_asg sc_pchanged_right.nd rfl (by first | exact Or.inl rfl | exact Or.inr rfl) (ev_op og_div (ev_op og_sub (ev_ix hr.r.units ev_var ev_int) (ev_ix hr.r.units ev_var ev_int)) ev_int))
    (sv_cons (sv_if (tv_cmp og_lt ev_var ev_int rfl) (sv_one (sv_ret ev_bl)) sv_nil)
    (sv_cons (sv_if (tv_cmp og_gt (ev_ix hr.r.units ev_var ev_int) ev_int rfl) (sv_cons (sv_asg sc_pchanged_right.nd rfl (by first | exact Or.inl rfl | exact Or.inr rfl) (ev_sl ev_var pv_none (pv_some (ev_op og_add ev_int (ev_fnO (ok_pdraw fx) hr rfl tk (ea_cons ev_var (ea_cons ev_int ea_nil)))))))
    (sv_one (sv_asg sc_pchanged_right.nd rfl (by first | exact Or.inl rfl | exact Or.inr rfl) (ev_fnO (ok_pshards fx) hr rfl tk (ea_cons ev_var (ea_cons ev_var ea_nil)))))) sv_nil)
    (sv_cons (sv_asg sc_pchanged_right.nd rfl (by first | exact Or.inl rfl | exact Or.inr rfl) (ev_fnO (ok_psome fx) hr rfl tk (ea_cons ev_var (ea_cons ev_var (ea_cons (ev_ix hr.r.units ev_var ev_int) ea_nil)))))
    (sv_cons (sv_asg sc_pchanged_right.nd rfl (by first | exact Or.inl rfl | exact Or.inr rfl) (ev_lstM ea_nil))
    (sv_cons (sv_for hp rfl (iv_rng1 rfl fx.m_range (ev_op og_add ev_int (ev_fnO (ok_pdraw fx) hr rfl tk (ea_cons ev_var (ea_cons ev_var ea_nil))))) (gv_nm sc_pchanged_right.nd rfl (by first | exact Or.inl rfl | exact Or.inr rfl)) (sv_cons (sv_asg sc_pchanged_right.nd rfl (by first | exact Or.inl rfl | exact Or.inr rfl) (ev_fnO (ok_pdraw fx) hr rfl tk (ea_cons ev_var (ea_cons (ev_ix hr.r.units ev_var ev_int) ea_nil))))
    (sv_one (sv_if (tv_cmp (og_nin hr.r.units) ev_var ev_var rfl) (sv_cons (sv_asg sc_pchanged_right.nd rfl (by first | exact Or.inl rfl | exact Or.inr rfl) (ev_fnO (ok_pdraw fx) hr rfl tk (ea_cons ev_var (ea_cons (ev_callB cg_len rfl fx.m_len (by decide +kernel) (ea_cons (ev_ix hr.r.units ev_var ev_var) ea_nil)) ea_nil))))
    (sv_cons (sv_asg sc_pchanged_right.nd rfl (by first | exact Or.inl rfl | exact Or.inr rfl) (ev_op og_mod (ev_op og_add (ev_op og_add (ev_ix hr.r.units (ev_ix hr.r.units ev_var ev_var) ev_var) ev_int) (ev_fnO (ok_pdraw fx) hr rfl tk (ea_cons ev_var (ea_cons ev_int ea_nil)))) ev_int))
    (sv_cons (sv_setIx hr.r.units (ev_op og_add (ev_op og_add (ev_sl (ev_ix hr.r.units ev_var ev_var) pv_none (pv_some ev_var)) (ev_tup (ea_cons ev_var ea_nil))) (ev_sl (ev_ix hr.r.units ev_var ev_var) (pv_some (ev_op og_add ev_var ev_int)) pv_none)) ev_var ev_var)
    (sv_one (sv_expr (ev_append ev_var (ea_cons ev_var ea_nil))))))) sv_nil))))
    (sv_one (sv_frz (sv_ret (ev_cmp (og_eq hr.r.units) (ev_reprQ fx.k_sys hr rfl fx.m_repr (ev_fnO (ok_told_by fx) hr rfl tk (ea_cons ev_var (ea_cons (ev_callB cg_len rfl fx.m_len (by decide +kernel) (ea_cons ev_var ea_nil)) (ea_cons ev_var ea_nil))))) (ev_reprQ fx.k_sys hr rfl fx.m_repr (ev_tup (ea_cons ev_str (ea_cons ev_var (ea_cons (ev_callB (cg_sorted rfl) rfl fx.m_sorted (by decide +kernel) (ea_cons ev_var ea_nil)) ea_nil))))) rfl))))))))))
theorem ok_law {P : Program} {w : World} {K : PySem.W.Frag} {mg : Str → Option Value} {base : Heap} (fx : Fx K mg) : OkF P w K mg base "law" ["_law_script"] 9 d_law :=
  okF_N (fx.c.def_ 31 (d := a_law) rfl) fx.g_law sc_law (fun _ _ _ _ _ _ us hl => match us, hl with | [_], _ => rfl) fun cdv A outer s H E hr tk hp =>
  (sv_cons (sv_asg sc_law.nd rfl (by first | exact Or.inl rfl | exact Or.inr rfl) (ev_lstM (ea_cons (ev_callTy cg_list rfl fx.m_list (by decide +kernel) (ea_cons (ev_sl ev_var pv_none (pv_some ev_int)) ea_nil)) (ea_cons ev_int (ea_cons ev_int ea_nil)))))
    (sv_cons (sv_for hp rfl (iv_rng1 rfl fx.m_range ev_int) (gv_nm sc_law.nd rfl (by first | exact Or.inl rfl | exact Or.inr rfl)) (sv_cons (sv_asg sc_law.nd rfl (by first | exact Or.inl rfl | exact Or.inr rfl) (ev_ix hr.r.units (ev_lst (ea_cons (ev_op og_add ev_int (ev_fnO (ok_pdraw fx) hr rfl tk (ea_cons ev_var (ea_cons ev_int ea_nil)))) (ea_cons ev_int (ea_cons ev_int ea_nil)))) (ev_fnO (ok_pdraw fx) hr rfl tk (ea_cons ev_var (ea_cons ev_int ea_nil)))))
    (sv_cons (sv_asg sc_law.nd rfl (by first | exact Or.inl rfl | exact Or.inr rfl) (ev_tup (ea_cons ev_var (ea_cons (ev_op og_add ev_int (ev_fnO (ok_pdraw fx) hr rfl tk (ea_cons ev_var (ea_cons ev_var ea_nil)))) ea_nil))))
    (sv_cons (sv_asg sc_law.nd rfl (by first | exact Or.inl rfl | exact Or.inr rfl) (ev_fnO (ok_plong fx) hr rfl tk (ea_cons ev_var (ea_cons (ev_ix hr.r.units (ev_lst (ea_cons ev_int (ea_cons ev_int (ea_cons (ev_op og_add ev_int (ev_fnO (ok_pdraw fx) hr rfl tk (ea_cons ev_var (ea_cons ev_int ea_nil)))) ea_nil)))) (ev_fnO (ok_pdraw fx) hr rfl tk (ea_cons ev_var (ea_cons ev_int ea_nil)))) ea_nil))))
    (sv_cons (sv_asg sc_law.nd rfl (by first | exact Or.inl rfl | exact Or.inr rfl) (ev_fnO (ok_pshards fx) hr rfl tk (ea_cons ev_var (ea_cons ev_var ea_nil))))
    (sv_cons (sv_if (tv_w (wv_or (tv_cmp (og_ne hr.r.units) (ev_reprQ fx.k_sys hr rfl fx.m_repr (ev_fnO (ok_shards fx) hr rfl tk (ea_cons ev_var (ea_cons ev_var ea_nil)))) (ev_reprQ fx.k_sys hr rfl fx.m_repr ev_var) rfl) (wv_or1 (tv_cmp (og_ne hr.r.units) (ev_reprQ fx.k_sys hr rfl fx.m_repr (ev_fnO (ok_need_of fx) hr rfl tk (ea_cons ev_var (ea_cons (ev_callB cg_len rfl fx.m_len (by decide +kernel) (ea_cons ev_var ea_nil)) ea_nil)))) (ev_reprQ fx.k_sys hr rfl fx.m_repr (ev_ix hr.r.units ev_var ev_int)) rfl)))) (sv_one (sv_ret ev_bl)) sv_nil)
    (sv_cons (sv_for hp rfl (iv_seq (ev_tup (ea_cons (ev_ix hr.r.units ev_var ev_int) (ea_cons (ev_ix hr.r.units ev_var ev_int) ea_nil)))) (gv_nm sc_law.nd rfl (by first | exact Or.inl rfl | exact Or.inr rfl)) (sv_one (sv_if (tv_cmp (og_ne hr.r.units) (ev_reprQ fx.k_sys hr rfl fx.m_repr (ev_fnO (ok_told_by fx) hr rfl tk (ea_cons ev_var (ea_cons (ev_callB cg_len rfl fx.m_len (by decide +kernel) (ea_cons ev_var ea_nil)) (ea_cons (ev_frzE (ev_fnO (ok_psome fx) hr rfl tk (ea_cons ev_var (ea_cons ev_var (ea_cons ev_var ea_nil))))) ea_nil))))) (ev_reprQ fx.k_sys hr rfl fx.m_repr (ev_tup (ea_cons ev_str (ea_cons ev_var (ea_cons (ev_lst ea_nil) ea_nil))))) rfl) (sv_one (sv_ret ev_bl)) sv_nil)))
    (sv_cons (sv_if (tv_not (tv_val (ev_fnO (ok_pfew_right fx) hr rfl tk (ea_cons ev_var (ea_cons ev_var (ea_cons (ev_frzE (ev_fnO (ok_psome fx) hr rfl tk (ea_cons ev_var (ea_cons ev_var (ea_cons (ev_op og_sub (ev_ix hr.r.units ev_var ev_int) ev_int) ea_nil))))) ea_nil)))))) (sv_one (sv_ret ev_bl)) sv_nil)
    (sv_one (sv_if (tv_not (tv_val (ev_fnO (ok_pchanged_right fx) hr rfl tk (ea_cons ev_var (ea_cons ev_var (ea_cons ev_var (ea_cons ev_var ea_nil))))))) (sv_one (sv_ret ev_bl)) sv_nil))))))))))
    (sv_one (sv_ret ev_bl))))
abbrev R : PySem.W.OpenRow := PySem.W.OpenLaw.row PySem.Challenge.rw_saltvault_k12_long_rows_coded
abbrev hk : PySem.W.Hook := hookY 4 fa fn ex
def ob (s : PySem.W.SharedT) : AlY := obsY 4 fa fn ex (HandSHeadRun.getT s)
theorem ob_eq (s : PySem.W.SharedT) : ob s = hk.obs s.abs := obsY_eq (HandSHeadRun.getT_eq s)
theorem run (w : World) : HandSHeadRun.RunEq R (PySem.W.view R.prog [37]) hk ob 6000 [("PRIME" : PySem.Str), ("MOST_ROW" : PySem.Str), ("TURNED" : PySem.Str), ("is_whole" : PySem.Str), ("is_sign" : PySem.Str), ("is_row" : PySem.Str), ("worth_at" : PySem.Str), ("added" : PySem.Str), ("times" : PySem.Str), ("lifted" : PySem.Str), ("turned_about" : PySem.Str), ("through" : PySem.Str), ("need_of" : PySem.Str), ("widths" : PySem.Str), ("columns_of" : PySem.Str), ("shards" : PySem.Str), ("bases" : PySem.Str), ("column_by" : PySem.Str), ("row_by" : PySem.Str), ("wrong_in" : PySem.Str), ("choices" : PySem.Str), ("vanishing" : PySem.Str), ("few_by" : PySem.Str), ("told_by" : PySem.Str), ("are_ghosts" : PySem.Str), ("_law_pprime" : PySem.Str), ("_law_pfresh" : PySem.Str), ("_law_pdraw" : PySem.Str), ("_law_plong" : PySem.Str), ("_law_pworth" : PySem.Str), ("_law_pshards" : PySem.Str), ("_law_psome" : PySem.Str), ("_law_pfew_right" : PySem.Str), ("_law_pchanged_right" : PySem.Str)] w := by
  intro os
  kernel_rfl
end C12
open PySem PySem.W PySem.Calls PyProof.Rows
theorem C12.holds (hlaw : ∀ ns : List Int, ns.length ≤ 63 → ∃ S, C12.d_law [.scr ns] [] = .ok (.bl true) S) : PySem.Challenge.rw_saltvault_k12_long_rows_coded.Holds := by
  w_on; o_law
  refine HandSHeadRun.head_any (r := OpenLaw.row PySem.Challenge.rw_saltvault_k12_long_rows_coded) (q := view (OpenLaw.row PySem.Challenge.rw_saltvault_k12_long_rows_coded).prog [37]) (H := C12.hk) (ob := C12.ob) (M := 6000) (loose := [("PRIME" : PySem.Str), ("MOST_ROW" : PySem.Str), ("TURNED" : PySem.Str), ("is_whole" : PySem.Str), ("is_sign" : PySem.Str), ("is_row" : PySem.Str), ("worth_at" : PySem.Str), ("added" : PySem.Str), ("times" : PySem.Str), ("lifted" : PySem.Str), ("turned_about" : PySem.Str), ("through" : PySem.Str), ("need_of" : PySem.Str), ("widths" : PySem.Str), ("columns_of" : PySem.Str), ("shards" : PySem.Str), ("bases" : PySem.Str), ("column_by" : PySem.Str), ("row_by" : PySem.Str), ("wrong_in" : PySem.Str), ("choices" : PySem.Str), ("vanishing" : PySem.Str), ("few_by" : PySem.Str), ("told_by" : PySem.Str), ("are_ghosts" : PySem.Str), ("_law_pprime" : PySem.Str), ("_law_pfresh" : PySem.Str), ("_law_pdraw" : PySem.Str), ("_law_plong" : PySem.Str), ("_law_pworth" : PySem.Str), ("_law_pshards" : PySem.Str), ("_law_psome" : PySem.Str), ("_law_pfew_right" : PySem.Str), ("_law_pchanged_right" : PySem.Str)]) (d := HandSHeadRun.topDef (OpenLaw.row PySem.Challenge.rw_saltvault_k12_long_rows_coded).prog 37) (kwd := []) C12.ob_eq
    (by kernel_rfl) (fun s => by kernel_rfl) C12.run (by kernel_rfl) (by kernel_rfl) (by kernel_rfl) (by rfl) (by first | assumption | decide +kernel) (by decide +kernel) ⟨rfl, rfl, rfl, rfl, rfl, by decide +kernel⟩ ?hw ?hc
  case hw => w_witness2
  case hc =>
    refine DL.walk_ofG (l := PySem.Challenge.rw_saltvault_k12_long_rows_coded) (n := 63) (k := 9) (x := "_law_script") (CX := fun w => L2.CX (PySem.Challenge.rw_saltvault_k12_long_rows_coded).prog w) rfl (by decide) (by kernel_rfl) ⟨⟨rfl, by decide, by decide⟩, rfl⟩ ?F (fun w H s e s' z => DL.cx_none H s e s' z)
    intro w mg fa h Y G hmg0
    obtain ⟨K, KX, c, e0⟩ := Y
    have fx : C12.Fx K mg := ⟨c, ⟨h, KX, G⟩, e0⟩
    have hmg : mg ("law" : PySem.Str) = some (.ref fa) := by
      have e : (HandSHeadRun.topDef (OpenLaw.row PySem.Challenge.rw_saltvault_k12_long_rows_coded).prog 37).name = ("law" : PySem.Str) := by kernel_rfl
      rw [← e]
      exact hmg0
    have e := hmg.symm.trans fx.g_law
    cases e
    obtain ⟨fd, F⟩ := fx.c.def_ 31 (d := C12.a_law) rfl
    have b := L2.FunD.bindsA (ps := ["_law_script"]) F fun _ _ _ _ _ _ us hl => match us, hl with | [_], _ => rfl
    exact ⟨K, fd, DL.spD K mg 1 C12.d_law, KX, fun s v => b s [v] rfl, fun H a ns hl hO hS => DL.sp_law hlaw H a ns hl hO hS, fun base _ _ => DL.OkF.at_ (C12.ok_law fx) F⟩
theorem PySem.Challenge.cw_saltvault_k12_long_rows_coded_holds : PySem.Challenge.rw_saltvault_k12_long_rows_coded.Holds := by
  exact C12.holds C12.law_ok
