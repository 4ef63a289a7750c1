import PyProof.Rows.All
import Wide.All
import OpenK.AllK
import Wide.FinOn
import PySem.Challenge.RW_saltvault_k23_whole_ways_and_closed_list
import HandS.ForMost
import HandS.ForExc
import HandS.HeadHook1
import HandS.TupAny
import HandS.TupMul
import HandS.IsInst
import HandS.Dict
import HandS.Iter
import HandS.Defaults
import HandS.HeadEnd
import KE.KRevSl
import HandS.Style
import HandS.Conv
import HandS.List
import KE.KTupSum
import HandS.Small
import HandS.Zip
import KE.GoesEnumKw
import HandS.HeadHook2
import PyProof.ReprRoads
import KE.DataMinMax
import HandS.SortKw
import PyProof.Rows.ChunkLeaf
import HandS.SetKeys
import HandS.SortInts
import HandS.More
import KE.DataCmp
import KE.SortData
import HandS.DictComp
import HandS.HeadHook4
import HandS.New
import HandS.SetFor
import HandS.Strs
import PyProof.AutoSeq1
import KE.KDictZip
import HandS.SetBool
import KE.KDictList
import KE.GoesEnum
import KE.KDictSum
import HandS.Finally
import HandS.ListItems
import HandS.DeepEq
import KE.KEqDict
import HandS.Wide
import HandS.StrMore
import HandS.SortOrd
import HandS.DictTup
import HandS.Head0
import HandS.Head1
import HandS.Head2
import HandS.HeadHook3
import HandS.Deep
import KE.KDictLaws
import HandS.Replace
import HandS.ExcOwn
import HandS.ExcIs
import HandS.HotCalls
import HandS.TryOnly
import HandS.SetTxt0
import HandS.NoneIn
import HandS.ExcValue
import HandS.MakeKwOnly
import HandS.ExcInit
import HandS.ExcField
import HandS.Comp
import KE.KUnpackStar
import KE.KDictKeyed
import PyProof.SumWalkG
import HandS.TupSets
import HandS.Set
set_option Elab.async false
set_option linter.all false
set_option maxRecDepth 100000
set_option maxHeartbeats 4000000
namespace DL
open PySem PySem.Spec PyProof.Rows L2
/-- plain data, and names of things -/
inductive D where
  | non | bl (b : Bool) | int (i : Int) | str (x : Str)
  | tup (xs : List D) | lst (xs : List D) | dic (t : Bool) (kvs : List (D × D)) | ref (n : Nat) | raw (v : V) | scr (ns : List Int) | exn (c : Str) (p : D)
inductive Ob where
  | lst (xs : List D) | dic (t : Bool) (kvs : List (D × D)) | ins (c : Str) (fs : List (Str × D))
abbrev Sto := List (Option Ob)
inductive R (α : Type) where
  | ok (a : α) (S : Sto) | exc (c : Str) (p : D) (S : Sto) | bad
def R.bind {α β : Type} (r : R α) (g : α → Sto → R β) : R β := match r with
  | .ok a S => g a S
  | .exc c p S => .exc c p S
  | .bad => .bad
abbrev Ev := List (Option D)
abbrev Ex := Ev → Sto → R D
/-- a list that is read, not written by us -/
def SqF (K : PySem.W.Frag) (H : Hp) (Fb : Addr → Prop) (a : Addr) (xs : List V) : Prop :=
  (Rd H a (.lst xs) ∧ ¬ Fb a) ∨ ∃ (o : Obj) (its : Array Value) (n : Nat), K.lookup a = some o ∧ o.cls = .type "list" ∧ o.dict = none ∧ o.data = .seq its n ∧ its.size ≤ sizeLine ∧ Vals xs its.toList
theorem SqF.sq {K : PySem.W.Frag} {H : Hp} {Fb : Addr → Prop} {a : Addr} {xs : List V} (h : SqF K H Fb a xs) : SqL K H a xs := h.elim (fun h => .inl h.1) .inr
/-- locked for ever -/
def Lk (H : Hp) (a : Addr) (u : HO) : Prop := ∃ o, H a = some (.frz o u)
def Fixd : HO → Prop
  | .tup _ => True
  | .frz _ _ => True
  | _ => False
def keyD : Key → D
  | .inl i => .int i
  | .inr x => .str x
def keyT (ks : List Key) : D := .tup (ks.map keyD)
/-- an exception object at a, of the class cls, with its own dict d if it has one -/
def ExH (cls : Value) (d : Option Addr) (a : Addr) : HO := .ext fun h => ∃ (oe : Obj) (vs : Array Value), h.get? a = some oe ∧ Zc cls d oe ∧ oe.data = .fields vs
/-- whether texts and numbers stand among the things -/
def mixV (vs : List V) : Bool := (vs.any fun v => match v with | .str _ => true | _ => false) && vs.any fun v => match v with | .int _ => true | _ => false
/-- a tuple that is read; one of texts and numbers is one that was made -/
structure SqX (K : PySem.W.Frag) (H : Hp) (a : Addr) (vs : List V) : Prop where
  sq : SqT K H a vs
  live : mixV vs = true → H a = some (.tup vs)
theorem SqX.of {K : PySem.W.Frag} {H : Hp} {a : Addr} {vs : List V} (h : H a = some (.tup vs)) : SqX K H a vs := ⟨.inl (.inl h), fun _ => h⟩
instance {K : PySem.W.Frag} {H : Hp} {a : Addr} {vs : List V} : Coe (SqX K H a vs) (SqT K H a vs) := ⟨SqX.sq⟩
mutual
inductive Rep (K : PySem.W.Frag) (H : Hp) (Fb : Addr → Prop) (m : List Addr) : V → D → Prop
  | non : Rep K H Fb m .non .non
  | bl (b : Bool) : Rep K H Fb m (.bl b) (.bl b)
  | int (i : Int) : Rep K H Fb m (.int i) (.int i)
  | str (x : Str) : Rep K H Fb m (.str x) (.str x)
  | tup {a : Addr} {vs : List V} {ds : List D} : SqX K H a vs → vs.length ≤ sizeLine → RepA K H Fb m vs ds → Rep K H Fb m (.ref a) (.tup ds)
  | lst {a : Addr} {vs : List V} {ds : List D} : H a = some (.lst vs) → ¬ Fb a → vs.length ≤ sizeLine → RepA K H Fb m vs ds → Rep K H Fb m (.ref a) (.lst ds)
  | dK {a : Addr} {kv : List (Key × V)} {kvs : List (D × D)} : Lk H a (.dK kv) → kv.length ≤ sizeLine → kvs.map (·.1) = kv.map (fun p => keyD p.1) → RepA K H Fb m (kv.map (·.2)) (kvs.map (·.2)) → Rep K H Fb m (.ref a) (.dic false kvs)
  | dT {a : Addr} {kv : List (List Key × V)} {kvs : List (D × D)} : Lk H a (.dT kv) → kv.length ≤ sizeLine → kvs.map (·.1) = kv.map (fun p => keyT p.1) → RepA K H Fb m (kv.map (·.2)) (kvs.map (·.2)) → Rep K H Fb m (.ref a) (.dic true kvs)
  | ref {n : Nat} {a : Addr} : m[n]? = some a → Rep K H Fb m (.ref a) (.ref n)
  | raw (v : V) : Rep K H Fb m v (.raw v)
  | scr {a : Addr} {ns : List Int} : SqF K H Fb a (ns.map V.int) → ns.length ≤ sizeLine → Rep K H Fb m (.ref a) (.scr ns)
  | exn {a : Addr} {c : Str} : Rd H a (ExH (.ref (He.ga K c)) none a) → ¬ Fb a → Rep K H Fb m (.ref a) (.exn c .non)
  | exp {a dd : Addr} {c : Str} {v : V} {p : D} : Rd H a (ExH (.ref (He.ga K c)) (some dd) a) → ¬ Fb a → Rd H dd (.xd [("key", v)]) → ¬ Fb dd → p ≠ .non → Rep K H Fb m v p → Rep K H Fb m (.ref a) (.exn c p)
inductive RepA (K : PySem.W.Frag) (H : Hp) (Fb : Addr → Prop) (m : List Addr) : List V → List D → Prop
  | nil : RepA K H Fb m [] []
  | cons {v : V} {vs : List V} {d : D} {ds : List D} : Rep K H Fb m v d → RepA K H Fb m vs ds → RepA K H Fb m (v :: vs) (d :: ds)
end
/-- what a state keeps of another -/
structure Kp (H H' : Hp) (Fb Fb' : Addr → Prop) (m m' : List Addr) : Prop where
  lst : ∀ a xs, H a = some (.lst xs) → ¬ Fb a → H' a = some (.lst xs)
  obj : ∀ a u, Rd H a u → ¬ Fb a → Rd H' a u
  fix : ∀ a o, Fixd o → H a = some o → H' a = some o
  fb : ∀ a u, Rd H a u → ¬ Fb a → ¬ Fb' a
  ix : ∀ (n : Nat) a, m[n]? = some a → m'[n]? = some a
section
variable {K : PySem.W.Frag} {H H' : Hp} {Fb Fb' : Addr → Prop} {m m' : List Addr}
theorem Kp.tup (k : Kp H H' Fb Fb' m m') (a : Addr) (xs : List V) (h : Rd H a (.tup xs)) : Rd H' a (.tup xs) := h.elim (fun h => .inl (k.fix _ _ trivial h)) fun ⟨o, h⟩ => .inr ⟨o, k.fix _ _ trivial h⟩
theorem Kp.lk (k : Kp H H' Fb Fb' m m') {a : Addr} {u : HO} (h : Lk H a u) : Lk H' a u := h.imp fun _ h => k.fix _ _ trivial h
theorem Kp.sqT (k : Kp H H' Fb Fb' m m') {a : Addr} {xs : List V} (h : SqT K H a xs) : SqT K H' a xs := by
  rcases h with h | h
  · exact .inl (k.tup a xs h)
  · exact .inr h
theorem Kp.sqX (k : Kp H H' Fb Fb' m m') {a : Addr} {xs : List V} (h : SqX K H a xs) : SqX K H' a xs := ⟨k.sqT h.sq, fun z => k.fix _ _ trivial (h.live z)⟩
mutual
theorem Rep.kp (k : Kp H H' Fb Fb' m m') : ∀ {v : V} {d : D}, Rep K H Fb m v d → Rep K H' Fb' m' v d
  | _, _, .non => .non
  | _, _, .bl b => .bl b
  | _, _, .int i => .int i
  | _, _, .str x => .str x
  | _, _, .tup h z r => .tup (k.sqX h) z (RepA.kp k r)
  | _, _, .lst h f z r => .lst (k.lst _ _ h f) (k.fb _ _ (.inl h) f) z (RepA.kp k r)
  | _, _, .dK h z e r => .dK (k.lk h) z e (RepA.kp k r)
  | _, _, .dT h z e r => .dT (k.lk h) z e (RepA.kp k r)
  | _, _, .ref h => .ref (k.ix _ _ h)
  | _, _, .raw v => .raw v
  | _, _, .scr h z => .scr (h.imp (fun h => ⟨k.obj _ _ h.1 h.2, k.fb _ _ h.1 h.2⟩) id) z
  | _, _, .exn h f => .exn (k.obj _ _ h f) (k.fb _ _ h f)
  | _, _, .exp h f h2 f2 n r => .exp (k.obj _ _ h f) (k.fb _ _ h f) (k.obj _ _ h2 f2) (k.fb _ _ h2 f2) n (Rep.kp k r)
theorem RepA.kp (k : Kp H H' Fb Fb' m m') : ∀ {vs : List V} {ds : List D}, RepA K H Fb m vs ds → RepA K H' Fb' m' vs ds
  | _, _, .nil => .nil
  | _, _, .cons h r => .cons (Rep.kp k h) (RepA.kp k r)
end
end
def Liv (m : List Addr) (S : Sto) (a : Addr) : Prop := ∃ (n : Nat) (o : Ob), m[n]? = some a ∧ S[n]? = some (some o)
def Fo (B : Addr → Prop) (m : List Addr) (S : Sto) (a : Addr) : Prop := B a ∨ Liv m S a
/-- what stands for a live object -/
inductive ObR (K : PySem.W.Frag) (mg : Str → Option Value) (H : Hp) (Fb : Addr → Prop) (m : List Addr) (a : Addr) : Ob → Prop
  | lst {vs : List V} {ds : List D} : H a = some (.lst vs) → vs.length ≤ sizeLine → RepA K H Fb m vs ds → ObR K mg H Fb m a (.lst ds)
  | dK {kv : List (Key × V)} {kvs : List (D × D)} : H a = some (.dK kv) → kv.length ≤ sizeLine → kvs.map (·.1) = kv.map (fun p => keyD p.1) → RepA K H Fb m (kv.map (·.2)) (kvs.map (·.2)) → ObR K mg H Fb m a (.dic false kvs)
  | dT {kv : List (List Key × V)} {kvs : List (D × D)} : H a = some (.dT kv) → kv.length ≤ sizeLine → kvs.map (·.1) = kv.map (fun p => keyT p.1) → RepA K H Fb m (kv.map (·.2)) (kvs.map (·.2)) → ObR K mg H Fb m a (.dic true kvs)
  | ins {c : Str} {C dx : Addr} {fv : List (Str × V)} {fs : List (Str × D)} : mg c = some (.ref C) → H a = some (.ins C dx fv) → fs.map (·.1) = fv.map (·.1) → RepA K H Fb m (fv.map (·.2)) (fs.map (·.2)) → ObR K mg H Fb m a (.ins c fs)
structure Rl (K : PySem.W.Frag) (mg : Str → Option Value) (B : Addr → Prop) (m : List Addr) (H : Hp) (S : Sto) : Prop where
  len : m.length = S.length
  nod : m.Nodup
  nb : ∀ a, Liv m S a → ¬ B a
  bt : ∀ a, B a → H a ≠ none
  mt : ∀ a, a ∈ m → H a ≠ none
  obj : ∀ (n : Nat) a o, m[n]? = some a → S[n]? = some (some o) → ObR K mg H (Fo B m S) m a o
structure Post (K : PySem.W.Frag) (mg : Str → Option Value) (B : Addr → Prop) (m : List Addr) (S : Sto) (H : Hp) (m' : List Addr) (S' : Sto) (H' : Hp) : Prop where
  ext : ∃ l, m' = m ++ l ∧ ∀ a, a ∈ l → H a = none
  keep : ∀ a o, H a = some o → ¬ Liv m S a → H' a = some o
  smm : ∀ a, H a ≠ none → H' a ≠ none
  rl : Rl K mg B m' H' S'
  liv : ∀ a, Liv m' S' a → Liv m S a ∨ H a = none
section
variable {K : PySem.W.Frag} {mg : Str → Option Value} {B : Addr → Prop} {m m' m1 m2 : List Addr} {S S' S1 S2 : Sto} {H H' H1 H2 : Hp}
theorem ObR.not_fix {Fb : Addr → Prop} {a : Addr} {o : Ob} (h : ObR K mg H Fb m a o) {u : HO} (f : Fixd u) (e : H a = some u) : False := by
  cases h with
  | lst h _ _ => rw [h] at e; cases e; exact f
  | dK h _ _ _ => rw [h] at e; cases e; exact f
  | dT h _ _ _ => rw [h] at e; cases e; exact f
  | ins _ h _ _ => rw [h] at e; cases e; exact f
theorem Post.refl (r : Rl K mg B m H S) : Post K mg B m S H m S H :=
  ⟨⟨[], by simp, fun a h => by simp at h⟩, fun _ _ h _ => h, fun _ h => h, r, fun _ h => .inl h⟩
theorem Post.trans (p : Post K mg B m S H m1 S1 H1) (q : Post K mg B m1 S1 H1 m2 S2 H2) : Post K mg B m S H m2 S2 H2 := by
  refine ⟨?_, fun a o h hl => ?_, fun a h => q.smm a (p.smm a h), q.rl, fun a h => ?_⟩
  · obtain ⟨l, e, f⟩ := p.ext
    obtain ⟨l', e', f'⟩ := q.ext
    refine ⟨l ++ l', by rw [e', e, List.append_assoc], fun a h => ?_⟩
    rcases List.mem_append.mp h with h | h
    · exact f a h
    · have z := f' a h
      cases q2 : H a with
      | none => rfl
      | some o => exact absurd z (p.smm a (by rw [q2]; simp))
  · refine q.keep a o (p.keep a o h hl) fun l1 => ?_
    rcases p.liv a l1 with z | z
    · exact hl z
    · rw [h] at z; cases z
  · rcases q.liv a h with z | z
    · exact p.liv a z
    · right
      cases q2 : H a with
      | none => rfl
      | some o => exact absurd z (p.smm a (by rw [q2]; simp))
theorem rd_some {a : Addr} {u : HO} (h : Rd H a u) : ∃ o, H a = some o := by
  rcases h with h | ⟨o, h⟩
  · exact ⟨_, h⟩
  · exact ⟨_, h⟩
theorem Post.kp (r : Rl K mg B m H S) (p : Post K mg B m S H m' S' H') : Kp H H' (Fo B m S) (Fo B m' S') m m' := by
  refine ⟨fun a xs h f => p.keep _ _ h fun z => f (.inr z), fun a u h f => ?_, fun a o f h => ?_, fun a u h f => ?_, fun n a h => ?_⟩
  · have nl : ¬ Liv m S a := fun z => f (.inr z)
    rcases h with h | ⟨o, h⟩
    · exact .inl (p.keep _ _ h nl)
    · exact .inr ⟨o, p.keep _ _ h nl⟩
  · exact p.keep _ _ h fun ⟨n, o, e1, e2⟩ => (r.obj n a o e1 e2).not_fix f h
  · rintro (z | z)
    · exact f (.inl z)
    · rcases p.liv a z with y | y
      · exact f (.inr y)
      · obtain ⟨o, e⟩ := rd_some h
        rw [y] at e; cases e
  · obtain ⟨l, e, _⟩ := p.ext
    rw [e, List.getElem?_append_left (List.getElem?_eq_some_iff.mp h).1]
    exact h
/-- the heap has grown -/
theorem Rl.grow (r : Rl K mg B m H S) (s : Same H H') : Rl K mg B m H' S := by
  have kp : Kp H H' (Fo B m S) (Fo B m S) m m := ⟨fun a xs h _ => s _ _ h, fun a u h _ => h.elim (fun h => .inl (s _ _ h)) fun ⟨o, h⟩ => .inr ⟨o, s _ _ h⟩, fun a o _ h => s _ _ h, fun _ _ _ f => f, fun _ _ h => h⟩
  have sm : ∀ a, H a ≠ none → H' a ≠ none := fun a h => by
    cases e : H a with
    | none => exact absurd e h
    | some o => rw [s _ _ e]; simp
  refine ⟨r.len, r.nod, r.nb, fun a h => sm a (r.bt a h), fun a h => sm a (r.mt a h), fun n a o e1 e2 => ?_⟩
  cases r.obj n a o e1 e2 with
  | lst h z q => exact .lst (s _ _ h) z (q.kp kp)
  | dK h z e q => exact .dK (s _ _ h) z e (q.kp kp)
  | dT h z e q => exact .dT (s _ _ h) z e (q.kp kp)
  | ins g h e q => exact .ins g (s _ _ h) e (q.kp kp)
theorem Post.grow (r : Rl K mg B m H S) (s : Same H H') : Post K mg B m S H m S H' :=
  ⟨⟨[], by simp, fun a h => by simp at h⟩, fun _ _ h _ => s _ _ h, fun a h => by
    cases e : H a with
    | none => exact absurd e h
    | some o => rw [s _ _ e]; simp, r.grow s, fun _ h => .inl h⟩
theorem same_upd {a : Addr} {o : HO} (h : H a = none) : Same H (upd H a o) := fun b u e => by
  rw [upd_ne (ne_of_none e h)]; exact e
end
/-- the slots -/
def RepE (K : PySem.W.Frag) (H : Hp) (Fb : Addr → Prop) (m : List Addr) (σ : L2.St) (ρ : Ev) : Prop :=
  σ.length = ρ.length ∧ ∀ (i : Nat) d, ρ[i]? = some (some d) → ∃ v, σ[i]? = some (some v) ∧ Rep K H Fb m v d
theorem RepE.kp {K : PySem.W.Frag} {H H' : Hp} {Fb Fb' : Addr → Prop} {m m' : List Addr} {σ : L2.St} {ρ : Ev} (k : Kp H H' Fb Fb' m m') (h : RepE K H Fb m σ ρ) : RepE K H' Fb' m' σ ρ :=
  ⟨h.1, fun i d e => let ⟨v, e1, r⟩ := h.2 i d e; ⟨v, e1, r.kp k⟩⟩
theorem RepE.set {K : PySem.W.Frag} {H : Hp} {Fb : Addr → Prop} {m : List Addr} {σ : L2.St} {ρ : Ev} {i : Nat} {v : V} {d : D} (h : RepE K H Fb m σ ρ) (r : Rep K H Fb m v d) : RepE K H Fb m (σ.set i (some v)) (ρ.set i (some d)) := by
  refine ⟨by simp [h.1], fun j e q => ?_⟩
  by_cases hj : j = i
  · subst hj
    have hl : j < ρ.length := by
      have := (List.getElem?_eq_some_iff.mp q).1
      simpa using this
    rw [List.getElem?_set_self hl] at q
    cases q
    exact ⟨v, List.getElem?_set_self (by rw [h.1]; exact hl), r⟩
  · rw [List.getElem?_set_ne (Ne.symm hj)] at q
    obtain ⟨w, e1, r1⟩ := h.2 j e q
    exact ⟨w, by rw [List.getElem?_set_ne (Ne.symm hj)]; exact e1, r1⟩
/-- an exception's class, its payload -/
def XcR (K : PySem.W.Frag) (mg : Str → Option Value) (H : Hp) (Fb : Addr → Prop) (m : List Addr) (c : Str) (p : D) (cls : Value) (dd : Option Addr) : Prop :=
  ∃ C, mg c = some (.ref C) ∧ cls = .ref C ∧ ((p = .non ∧ dd = none) ∨ (p ≠ .non ∧ ∃ a v, dd = some a ∧ H a = some (.xd [("key", v)]) ∧ Rep K H Fb m v p))
section
variable (K : PySem.W.Frag) (mg : Str → Option Value) (W : WX)
/-- what is left of a result, from (m, S, H) -/
def fin (B : Addr → Prop) (m : List Addr) (S : Sto) (σ : L2.St) (H : Hp) (r : R D) (Q : VK) : Prop := match r with
  | .ok d S' => ∀ m' H' v, Post K mg B m S H m' S' H' → Rep K H' (Fo B m' S') m' v d → Q v H'
  | .exc c p S' => ∀ m' H' cls dd, Post K mg B m S H m' S' H' → XcR K mg H' (Fo B m' S') m' c p cls dd → W cls dd σ H'
  | .bad => False
def up (f : Ex) : TE := fun σ H Q => ∃ B m ρ S, Rl K mg B m H S ∧ RepE K H (Fo B m S) m σ ρ ∧ fin K mg W B m S σ H (f ρ S) Q
end
section
variable {K : PySem.W.Frag} {mg : Str → Option Value} {W : WX} {B : Addr → Prop} {m m' m1 : List Addr} {S S' S1 : Sto} {H H' H1 : Hp} {σ : L2.St} {ρ : Ev}
/-- a later state -/
theorem fin.later (p : Post K mg B m S H m1 S1 H1) {r : R D} {Q : VK} (h : fin K mg W B m S σ H r Q) : fin K mg W B m1 S1 σ H1 r Q := by
  cases r with
  | ok d S' => exact fun m' H' v q => h m' H' v (p.trans q)
  | exc c p' S' => exact fun m' H' cls dd q => h m' H' cls dd (p.trans q)
  | bad => exact h
theorem fin.mono {r : R D} {Q Q' : VK} (h : fin K mg W B m S σ H r Q) (k : ∀ v H, Q v H → Q' v H) : fin K mg W B m S σ H r Q' := by
  cases r with
  | ok d S' => exact fun m' H' v p r => k _ _ (h m' H' v p r)
  | exc c p' S' => exact h
  | bad => exact h
/-- one step, then the rest -/
theorem fin.bind {r : R D} {g : D → Sto → R D} {Q : VK} (h : fin K mg W B m S σ H (r.bind g) Q) :
    fin K mg W B m S σ H r (fun v H1 => ∃ m1 S1 d, Post K mg B m S H m1 S1 H1 ∧ Rep K H1 (Fo B m1 S1) m1 v d ∧ fin K mg W B m1 S1 σ H1 (g d S1) Q) := by
  cases r with
  | ok d S' => exact fun m' H' v p r => ⟨m', S', d, p, r, fin.later p h⟩
  | exc c p' S' => exact h
  | bad => exact h
/-- a value at once -/
theorem fin.ok {d : D} {Q : VK} (r : Rl K mg B m H S) (h : fin K mg W B m S σ H (.ok d S) Q) {H' : Hp} {v : V} (s : Same H H') (q : Rep K H' (Fo B m S) m v d) : Q v H' := h m H' v (Post.grow r s) q
end
/-- an expression has a denotation -/
def EV (X : Cx) (W : WX) (e : Expr) (f : Ex) : Prop := PE X e (up X.K X.mg W f)
theorem pe_imp {X : Cx} {e : Expr} {t t' : TE} (h : PE X e t) (k : ∀ σ H Q, t' σ H Q → t σ H Q) : PE X e t' := ⟨fun pins s σ H Q I q => h.run pins s σ H Q I (k σ H Q q)⟩
def eVar (i : Nat) : Ex := fun ρ S => match ρ[i]? with
  | some (some d) => .ok d S
  | _ => .bad
def eC (d : D) : Ex := fun _ S => .ok d S
section
variable {X : Cx} {W : WX}
theorem ev_var {i : Nat} {x : Str} {pos : Pos} (hN : X.N[i]? = some x := by rfl) (hv : Vis X.env.scope x := by first | exact Or.inl rfl | exact Or.inr (Or.inl rfl) | exact Or.inr (Or.inr rfl)) (hd : (x == ("__debug__" : Str)) = false := by decide)
    (hcd : (x == ("__classdict__" : Str)) = false := by decide) : EV X W (.Name x pos) (eVar i) := by
  refine pe_imp (pe_var hN hv hd hcd) fun σ H Q h => ?_
  obtain ⟨B, m, ρ, S, r, re, f⟩ := h
  unfold eVar at f
  split at f
  · rename_i d e
    obtain ⟨v, e1, q⟩ := re.2 i d e
    exact ⟨v, e1, f.ok r (Same.refl H) q⟩
  · exact f.elim
theorem ev_int {i : Int} {j : Nat} {pos : Pos} : EV X W (.Constant (.int i) j pos) (eC (.int i)) := pe_imp pe_int fun σ H Q ⟨B, m, ρ, S, r, re, f⟩ => fin.ok r f (Same.refl H) (.int i)
theorem ev_bl {b : Bool} {j : Nat} {pos : Pos} : EV X W (.Constant (.bool b) j pos) (eC (.bl b)) := pe_imp pe_bl fun σ H Q ⟨B, m, ρ, S, r, re, f⟩ => fin.ok r f (Same.refl H) (.bl b)
theorem ev_non {j : Nat} {pos : Pos} : EV X W (.Constant .none j pos) (eC .non) := pe_imp pe_non fun σ H Q ⟨B, m, ρ, S, r, re, f⟩ => fin.ok r f (Same.refl H) .non
theorem ev_str {x : Str} {j : Nat} {pos : Pos} : EV X W (.Constant (.str x) j pos) (eC (.str x)) := pe_imp pe_str fun σ H Q ⟨B, m, ρ, S, r, re, f⟩ => fin.ok r f (Same.refl H) (.str x)
end
end DL
set_option Elab.async false
set_option linter.all false
set_option maxRecDepth 100000
set_option maxHeartbeats 4000000
namespace DL
open PySem PySem.Spec PyProof.Rows L2
/-- what a value reads as -/
def view (S : Sto) : D → D
  | .ref n => match S[n]? with
    | some (some (.lst xs)) => .lst xs
    | some (some (.dic t kvs)) => .dic t kvs
    | _ => .ref n
  | d => d
inductive Vw (K : PySem.W.Frag) (H : Hp) (Fb : Addr → Prop) (m : List Addr) : V → D → Prop
  | lst {a : Addr} {vs : List V} {ds : List D} : H a = some (.lst vs) → vs.length ≤ sizeLine → RepA K H Fb m vs ds → Vw K H Fb m (.ref a) (.lst ds)
  | dK {a : Addr} {kv : List (Key × V)} {kvs : List (D × D)} : Rd H a (.dK kv) → kv.length ≤ sizeLine → kvs.map (·.1) = kv.map (fun p => keyD p.1) → RepA K H Fb m (kv.map (·.2)) (kvs.map (·.2)) → Vw K H Fb m (.ref a) (.dic false kvs)
  | dT {a : Addr} {kv : List (List Key × V)} {kvs : List (D × D)} : Rd H a (.dT kv) → kv.length ≤ sizeLine → kvs.map (·.1) = kv.map (fun p => keyT p.1) → RepA K H Fb m (kv.map (·.2)) (kvs.map (·.2)) → Vw K H Fb m (.ref a) (.dic true kvs)
  | oth {v : V} {d : D} : Rep K H Fb m v d → Vw K H Fb m v d
section
variable {K : PySem.W.Frag} {mg : Str → Option Value} {B : Addr → Prop} {m : List Addr} {S : Sto} {H H' : Hp} {Fb : Addr → Prop} {v : V} {d : D}
theorem vw (r : Rl K mg B m H S) (h : Rep K H (Fo B m S) m v d) : Vw K H (Fo B m S) m v (view S d) := by
  cases d with
  | ref n =>
    simp only [view]
    cases h with
    | ref e1 =>
      cases e : S[n]? with
      | none => exact .oth (.ref e1)
      | some o =>
        cases o with
        | none => exact .oth (.ref e1)
        | some o =>
          have ob := r.obj n _ _ e1 e
          cases ob with
          | lst h z q => exact .lst h z q
          | dK h z q1 q => exact .dK (.inl h) z q1 q
          | dT h z q1 q => exact .dT (.inl h) z q1 q
          | ins _ _ _ _ => exact .oth (.ref e1)
  | _ => exact .oth h
theorem Vw.asL {xs : List D} (h : Vw K H Fb m v (.lst xs)) : ∃ a vs, v = .ref a ∧ H a = some (.lst vs) ∧ vs.length ≤ sizeLine ∧ RepA K H Fb m vs xs := by
  cases h with
  | lst h z q => exact ⟨_, _, rfl, h, z, q⟩
  | oth h => cases h with
    | lst h f z q => exact ⟨_, _, rfl, h, z, q⟩
theorem Vw.asT {xs : List D} (h : Vw K H Fb m v (.tup xs)) : ∃ a vs, v = .ref a ∧ SqX K H a vs ∧ vs.length ≤ sizeLine ∧ RepA K H Fb m vs xs := by
  cases h with
  | oth h => cases h with
    | tup h z q => exact ⟨_, _, rfl, h, z, q⟩
theorem Vw.asI {i : Int} (h : Vw K H Fb m v (.int i)) : v = .int i := by
  cases h with
  | oth h => cases h; rfl
theorem Vw.asS {x : Str} (h : Vw K H Fb m v (.str x)) : v = .str x := by
  cases h with
  | oth h => cases h; rfl
theorem RepA.length {vs : List V} {ds : List D} (h : RepA K H Fb m vs ds) : vs.length = ds.length := by
  induction vs generalizing ds with
  | nil => cases h; rfl
  | cons v vs ih => cases h with
    | cons h t => simp [ih t]
theorem RepA.append {vs ws : List V} {ds es : List D} (h : RepA K H Fb m vs ds) (h' : RepA K H Fb m ws es) : RepA K H Fb m (vs ++ ws) (ds ++ es) := by
  induction vs generalizing ds with
  | nil => cases h; exact h'
  | cons v vs ih => cases h with
    | cons h t => exact .cons h (ih t)
theorem RepA.get {vs : List V} {ds : List D} (h : RepA K H Fb m vs ds) {i : Nat} {d : D} (e : ds[i]? = some d) : ∃ v, vs[i]? = some v ∧ Rep K H Fb m v d := by
  induction vs generalizing ds i with
  | nil => cases h; simp at e
  | cons v vs ih => cases h with
    | cons h t =>
      cases i with
      | zero => simp at e; subst e; exact ⟨v, rfl, h⟩
      | succ i => obtain ⟨w, e1, r⟩ := ih t (by simpa using e); exact ⟨w, by simpa using e1, r⟩
theorem RepA.getV {vs : List V} {ds : List D} (h : RepA K H Fb m vs ds) {i : Nat} {v : V} (e : vs[i]? = some v) : ∃ d, ds[i]? = some d ∧ Rep K H Fb m v d := by
  induction vs generalizing ds i with
  | nil => simp at e
  | cons w vs ih => cases h with
    | cons h t =>
      cases i with
      | zero => simp at e; subst e; exact ⟨_, rfl, h⟩
      | succ i => obtain ⟨w, e1, r⟩ := ih t (by simpa using e); exact ⟨w, by simpa using e1, r⟩
theorem RepA.drop {vs : List V} {ds : List D} (h : RepA K H Fb m vs ds) (n : Nat) : RepA K H Fb m (vs.drop n) (ds.drop n) := by
  induction n generalizing vs ds with
  | zero => simpa using h
  | succ n ih => cases h with
    | nil => simpa using RepA.nil
    | cons h t => simpa using ih t
theorem RepA.take {vs : List V} {ds : List D} (h : RepA K H Fb m vs ds) (n : Nat) : RepA K H Fb m (vs.take n) (ds.take n) := by
  induction n generalizing vs ds with
  | zero => simpa using RepA.nil
  | succ n ih => cases h with
    | nil => simpa using RepA.nil
    | cons h t => simpa using RepA.cons h (ih t)
theorem RepA.set {vs : List V} {ds : List D} (h : RepA K H Fb m vs ds) (n : Nat) {v : V} {d : D} (r : Rep K H Fb m v d) : RepA K H Fb m (vs.set n v) (ds.set n d) := by
  induction n generalizing vs ds with
  | zero => cases h with
    | nil => exact .nil
    | cons h t => exact .cons r t
  | succ n ih => cases h with
    | nil => exact .nil
    | cons h t => exact .cons h (ih t)
theorem RepA.reverse {vs : List V} {ds : List D} (h : RepA K H Fb m vs ds) : RepA K H Fb m vs.reverse ds.reverse := by
  induction vs generalizing ds with
  | nil => cases h; exact .nil
  | cons v vs ih => cases h with
    | cons h t => simpa using (ih t).append (.cons h .nil)
theorem RepA.eraseIdx {vs : List V} {ds : List D} (h : RepA K H Fb m vs ds) (n : Nat) : RepA K H Fb m (vs.eraseIdx n) (ds.eraseIdx n) := by
  induction n generalizing vs ds with
  | zero => cases h with
    | nil => exact .nil
    | cons h t => exact t
  | succ n ih => cases h with
    | nil => exact .nil
    | cons h t => exact .cons h (ih t)
theorem RepA.rep {vs : List V} {ds : List D} (h : RepA K H Fb m vs ds) (n : Nat) : RepA K H Fb m (List.replicate n vs).flatten (List.replicate n ds).flatten := by
  induction n with
  | zero => exact .nil
  | succ n ih => simpa [List.replicate_succ] using h.append ih
theorem kp_same (s : Same H H') : Kp H H' Fb Fb m m := ⟨fun a xs h _ => s _ _ h, fun a u h _ => h.elim (fun h => .inl (s _ _ h)) fun ⟨o, h⟩ => .inr ⟨o, s _ _ h⟩, fun a o _ h => s _ _ h, fun _ _ _ f => f, fun _ _ h => h⟩
theorem fr_of (r : Rl K mg B m H S) : ∀ p, H p = none → ¬ Fo B m S p := fun p e z => by
  rcases z with z | ⟨n, o, e1, _⟩
  · exact r.bt p z e
  · exact r.mt p (List.mem_of_getElem? e1) e
end
section
variable {K : PySem.W.Frag} {mg : Str → Option Value} {W : WX} {σ : L2.St} {H : Hp} {Q : VK}
theorem up_one {fa : Ex} {g : D → Ev → Sto → R D} (h : up K mg W (fun ρ S => (fa ρ S).bind fun x S => g x ρ S) σ H Q) :
    up K mg W fa σ H fun x H1 => ∃ B m ρ S dx, Rl K mg B m H1 S ∧ RepE K H1 (Fo B m S) m σ ρ ∧ Rep K H1 (Fo B m S) m x dx ∧ fin K mg W B m S σ H1 (g dx ρ S) Q := by
  obtain ⟨B, m, ρ, S, r, re, f⟩ := h
  refine ⟨B, m, ρ, S, r, re, fin.mono (fin.bind f) fun v H1 => ?_⟩
  rintro ⟨m1, S1, d, p, q, f1⟩
  exact ⟨B, m1, ρ, S1, d, p.rl, re.kp (p.kp r), q, f1⟩
theorem up_two {fa fb : Ex} {g : D → D → Ev → Sto → R D} (h : up K mg W (fun ρ S => (fa ρ S).bind fun x S => (fb ρ S).bind fun y S => g x y ρ S) σ H Q) :
    up K mg W fa σ H fun x H1 => up K mg W fb σ H1 fun y H2 => ∃ B m ρ S dx dy, Rl K mg B m H2 S ∧ RepE K H2 (Fo B m S) m σ ρ ∧ Rep K H2 (Fo B m S) m x dx ∧ Rep K H2 (Fo B m S) m y dy ∧ fin K mg W B m S σ H2 (g dx dy ρ S) Q := by
  obtain ⟨B, m, ρ, S, r, re, f⟩ := h
  refine ⟨B, m, ρ, S, r, re, fin.mono (fin.bind f) fun v H1 => ?_⟩
  rintro ⟨m1, S1, d, p, q, f1⟩
  refine ⟨B, m1, ρ, S1, p.rl, re.kp (p.kp r), fin.mono (fin.bind f1) fun v2 H2 => ?_⟩
  rintro ⟨m2, S2, d2, p2, q2, f2⟩
  exact ⟨B, m2, ρ, S2, d, d2, p2.rl, (re.kp (p.kp r)).kp (p2.kp p.rl), q.kp (p2.kp p.rl), q2, f2⟩
end
/-- an answer without a change -/
def ans (S : Sto) : Option D → R D
  | some d => .ok d S
  | none => .bad
def eOp2 (g : D → D → Option D) (a b : Ex) : Ex := fun ρ S => (a ρ S).bind fun x S => (b ρ S).bind fun y S => ans S (g (view S x) (view S y))
def eOp1 (g : D → Option D) (a : Ex) : Ex := fun ρ S => (a ρ S).bind fun x S => ans S (g (view S x))
/-- what is asked of a rule by values: from readable arguments -/
def rG2 (K : PySem.W.Frag) (g : D → D → Option D) : R2 := fun x y H Q => ∃ Fb m dx dy d, (∀ p, H p = none → ¬ Fb p) ∧ Vw K H Fb m x dx ∧ Vw K H Fb m y dy ∧ g dx dy = some d ∧ ∀ H' z, Same H H' → Rep K H' Fb m z d → Q z H'
def rG1 (K : PySem.W.Frag) (g : D → Option D) : V → Hp → VK → Prop := fun x H Q => ∃ Fb m dx d, (∀ p, H p = none → ¬ Fb p) ∧ Vw K H Fb m x dx ∧ g dx = some d ∧ ∀ H' z, Same H H' → Rep K H' Fb m z d → Q z H'
section
variable {X : Cx} {W : WX} {a b : Expr} {fa fb : Ex} {pos : Pos}
theorem two_of {K : PySem.W.Frag} {mg : Str → Option Value} {W : WX} {σ : L2.St} {H : Hp} {Q : VK} {g : D → D → Option D} (h : up K mg W (eOp2 g fa fb) σ H Q) : tOp (rG2 K g) (up K mg W fa) (up K mg W fb) σ H Q := by
  obtain ⟨B, m, ρ, S, r, re, f⟩ := up_two (g := fun x y ρ S => ans S (g (view S x) (view S y))) h
  refine ⟨B, m, ρ, S, r, re, f.mono fun x H1 => ?_⟩
  rintro ⟨B, m, ρ, S, r, re, f⟩
  refine ⟨B, m, ρ, S, r, re, f.mono fun y H2 => ?_⟩
  rintro ⟨B, m, ρ, S, dx, dy, r, re, rx, ry, f⟩
  cases e : g (view S dx) (view S dy) with
  | none => rw [e] at f; exact f.elim
  | some d =>
    rw [e] at f
    exact ⟨_, m, _, _, d, fr_of r, vw r rx, vw r ry, e, fun H' z s q => f.ok r s q⟩
theorem one_of {K : PySem.W.Frag} {mg : Str → Option Value} {W : WX} {σ : L2.St} {H : Hp} {Q : VK} {g : D → Option D} (h : up K mg W (eOp1 g fa) σ H Q) : up K mg W fa σ H fun x H1 => rG1 K g x H1 Q := by
  obtain ⟨B, m, ρ, S, r, re, f⟩ := up_one (g := fun x ρ S => ans S (g (view S x))) h
  refine ⟨B, m, ρ, S, r, re, f.mono fun x H1 => ?_⟩
  rintro ⟨B, m, ρ, S, dx, r, re, rx, f⟩
  cases e : g (view S dx) with
  | none => rw [e] at f; exact f.elim
  | some d =>
    rw [e] at f
    exact ⟨_, m, _, d, fr_of r, vw r rx, e, fun H' z s q => f.ok r s q⟩
theorem ev_op {op : Operator} {g : D → D → Option D} (ho : OpR X (binaryOp op) (rG2 X.K g)) (ha : EV X W a fa) (hb : EV X W b fb) : EV X W (.BinOp a op b pos) (eOp2 g fa fb) := pe_imp (pe_op ho ha hb) fun σ H Q h => two_of h
theorem ev_cmp {op : CmpOp} {g : D → D → Option D} (ho : OpR X (compareOp op) (rG2 X.K g)) (ha : EV X W a fa) (hb : EV X W b fb) (hm : behindInMarks op b = false) : EV X W (.Compare a [op] [b] pos) (eOp2 g fa fb) := pe_imp (pe_cmpR ho ha hb hm) fun σ H Q h => two_of h
theorem ev_un {op : UnaryOp} {g : D → Option D} (ho : UnR X (unaryOp op) (rG1 X.K g)) (ha : EV X W a fa) : EV X W (.UnaryOp op a pos) (eOp1 g fa) := pe_imp (pe_un ho ha) fun σ H Q h => one_of h
end
def addD : D → D → Option D
  | .int i, .int j => some (.int (i + j))
  | .str x, .str y => if x.length + y.length ≤ sizeLine then some (.str (x ++ y)) else none
  | .tup xs, .tup ys => if xs.length + ys.length ≤ sizeLine then some (.tup (xs ++ ys)) else none
  | .lst xs, .lst ys => if xs.length + ys.length ≤ sizeLine then some (.lst (xs ++ ys)) else none
  | _, _ => none
def subD : D → D → Option D
  | .int i, .int j => some (.int (i - j))
  | _, _ => none
def mulD : D → D → Option D
  | .int i, .int j => if (-(2 ^ 64) < i ∧ i < 2 ^ 64) ∨ (-(2 ^ 64) < j ∧ j < 2 ^ 64) then some (.int (i * j)) else none
  | .tup xs, .int k => if k ≤ 1000000 ∧ -1000000 ≤ k ∧ xs.length * k.toNat ≤ sizeLine then some (.tup (List.replicate k.toNat xs).flatten) else none
  | .lst xs, .int k => if k ≤ 1000000 ∧ -1000000 ≤ k ∧ xs.length * k.toNat ≤ sizeLine then some (.lst (List.replicate k.toNat xs).flatten) else none
  | _, _ => none
def modD : D → D → Option D
  | .int i, .int j => if 0 < j then some (.int (i % j)) else none
  | _, _ => none
def divD : D → D → Option D
  | .int i, .int j => if 0 < j ∧ j < 1073741824 then some (.int (i / j)) else none
  | _, _ => none
def powD : D → D → Option D
  | .int i, .int j => if 0 ≤ j ∧ j ≤ 1000000 ∧ i.natAbs < 2 ^ 64 then some (.int (i ^ j.toNat)) else none
  | _, _ => none
section
variable {X : Cx}
/-- two ints: by the layer's own rule -/
theorem og_int {f : Value → Value → Sem Value} {g : D → D → Option D} {r : R2} (h : OpR X f r)
    (hg : ∀ dx dy d, g dx dy = some d → ∃ i j z, dx = .int i ∧ dy = .int j ∧ d = z ∧ ∀ (H : Hp) (Q : VK), (∀ v, (∀ (H : Hp) Fb m, Rep X.K H Fb m v d) → Q v H) → r (.int i) (.int j) H Q) : OpR X f (rG2 X.K g) := by
  intro pins s σ H x y v u Q I rx ry ⟨Fb, m, dx, dy, d, fr, vx, vy, e, k⟩
  obtain ⟨i, j, z, rfl, rfl, rfl, q⟩ := hg dx dy d e
  cases vx.asI
  cases vy.asI
  exact h pins s σ H _ _ v u Q I rx ry (q H Q fun v hv => k H v (Same.refl H) (hv _ _ _))
theorem og_sub : OpR X (binaryOp .Sub) (rG2 X.K subD) := og_int op_sub fun dx dy d e => by
  unfold subD at e
  split at e
  · rename_i i j
    cases e
    exact ⟨i, j, _, rfl, rfl, rfl, fun H Q k => ⟨i, j, rfl, rfl, k _ fun _ _ _ => .int _⟩⟩
  · cases e
theorem og_mod : OpR X (binaryOp .Mod) (rG2 X.K modD) := og_int op_mod fun dx dy d e => by
  unfold modD at e
  split at e
  · rename_i i j
    split at e
    · rename_i hj
      cases e
      exact ⟨i, j, _, rfl, rfl, rfl, fun H Q k => ⟨i, j, rfl, rfl, hj, k _ fun _ _ _ => .int _⟩⟩
    · cases e
  · cases e
theorem og_div : OpR X (binaryOp .FloorDiv) (rG2 X.K divD) := og_int op_fdiv fun dx dy d e => by
  unfold divD at e
  split at e
  · rename_i i j
    split at e
    · rename_i hj
      cases e
      exact ⟨i, j, _, rfl, rfl, rfl, fun H Q k => ⟨i, j, rfl, rfl, hj, k _ fun _ _ _ => .int _⟩⟩
    · cases e
  · cases e
theorem og_pow : OpR X (binaryOp .Pow) (rG2 X.K powD) := og_int op_pow fun dx dy d e => by
  unfold powD at e
  split at e
  · rename_i i j
    split at e
    · rename_i hj
      cases e
      exact ⟨i, j, _, rfl, rfl, rfl, fun H Q k => ⟨i, j, rfl, rfl, hj, k _ fun _ _ _ => .int _⟩⟩
    · cases e
  · cases e
theorem og_add : OpR X (binaryOp .Add) (rG2 X.K addD) := by
  intro pins s σ H x y v u Q I rx ry ⟨Fb, m, dx, dy, d, fr, vx, vy, e, k⟩
  unfold addD at e
  split at e
  · rename_i i j
    cases e
    cases vx.asI; cases vy.asI
    exact op_add pins s σ H _ _ v u Q I rx ry ⟨i, j, rfl, rfl, k H _ (Same.refl H) (.int _)⟩
  · rename_i i j
    split at e
    · rename_i hl
      cases e
      cases vx.asS; cases vy.asS
      exact op_add_str pins s σ H _ _ v u Q I rx ry ⟨i, j, rfl, rfl, hl, k H _ (Same.refl H) (.str _)⟩
    · cases e
  · rename_i xs ys
    split at e
    · rename_i hl
      cases e
      obtain ⟨a, vs, rfl, h1, z1, q1⟩ := vx.asT
      obtain ⟨b, ws, rfl, h2, z2, q2⟩ := vy.asT
      refine op_catA pins s σ H _ _ v u Q I rx ry ⟨a, b, vs, ws, rfl, rfl, h1, h2, by rw [q1.length, q2.length]; exact hl, ?_, ?_, ?_⟩
      · rintro rfl
        cases q1
        exact k H _ (Same.refl H) (.tup h2 z2 q2)
      · intro _ e2
        subst e2
        cases q2
        exact k H _ (Same.refl H) (by simpa using Rep.tup h1 z1 q1)
      · intro _ _ p hp
        exact k _ _ (same_upd hp) (.tup (.of upd_same) (by rw [List.length_append, q1.length, q2.length]; exact hl) ((q1.append q2).kp (kp_same (same_upd hp))))
    · cases e
  · rename_i xs ys
    split at e
    · rename_i hl
      cases e
      obtain ⟨a, vs, rfl, h1, z1, q1⟩ := vx.asL
      obtain ⟨b, ws, rfl, h2, z2, q2⟩ := vy.asL
      refine op_cat pins s σ H _ _ v u Q I rx ry ⟨a, b, vs, ws, rfl, rfl, h1, h2, by rw [q1.length, q2.length]; exact hl, fun p hp => ?_⟩
      exact k _ _ (same_upd hp) (.lst upd_same (fr p hp) (by rw [List.length_append, q1.length, q2.length]; exact hl) ((q1.append q2).kp (kp_same (same_upd hp))))
    · cases e
  · cases e
end
end DL
set_option Elab.async false
set_option linter.all false
set_option maxRecDepth 100000
set_option maxHeartbeats 4000000
namespace DL
open PySem PySem.Spec PyProof.Rows L2
theorem tuple_mul_same (l : Addr) (items : Array Value) (n : Nat) (dd : Option Addr) (sl : Array (Option Value)) (x : Int) (u : Tok) (c0 : (decide (x < -(2 ^ 63)) || decide (x ≥ 2 ^ 63)) = false) (c1 : (items.isEmpty || x == 1) = true) :
    Meets (Builtin.«tuple.__mul__» ⟨[.ref l, .int x u], []⟩) (fun _ R s => s.heap.get? l = some { cls := .type "tuple", dict := dd, data := .seq items n, slots := sl } ∧
      R (.ok (.ret (Value.ref l))) s) :=
  .of_wp fun prog w A R s h => by
    obtain ⟨hp, g, d, tk, os⟩ := s
    obtain ⟨hl, h⟩ := h
    have f1 := AutoSeq1.idx_int
    wp_walk using wpAny_loadPart' hl
    repeat (first
      | (refine wpAny_ite_false (decide_eq_false (by rw [c0]; exact Bool.false_ne_true)) ?_; wp_walk using wpAny_loadPart' hl)
      | (refine wpAny_ite_true (decide_eq_true c1) ?_; wp_walk using wpAny_loadPart' hl))
    first
      | exact ⟨_, rfl, h⟩
      | exact h
theorem tuple_mul_none (l : Addr) (items : Array Value) (n : Nat) (dd : Option Addr) (sl : Array (Option Value)) (x : Int) (u : Tok) (c0 : (decide (x < -(2 ^ 63)) || decide (x ≥ 2 ^ 63)) = false) (c1 : (items.isEmpty || x == 1) = false) (c2 : (decide (x ≤ 0) || items.isEmpty) = true) :
    Meets (Builtin.«tuple.__mul__» ⟨[.ref l, .int x u], []⟩) (fun _ R s => s.heap.get? l = some { cls := .type "tuple", dict := dd, data := .seq items n, slots := sl } ∧
      R (.ok (.ret (Value.ref s.heap.objs.size))) { s with heap := s.heap.push { cls := Value.type "tuple", data := Data.seq #[] }, toks := s.toks }) :=
  .of_wp fun prog w A R s h => by
    obtain ⟨hp, g, d, tk, os⟩ := s
    obtain ⟨hl, h⟩ := h
    have f1 := AutoSeq1.idx_int
    wp_walk using wpAny_loadPart' hl
    repeat (first
      | (refine wpAny_ite_false (decide_eq_false (by rw [c0]; exact Bool.false_ne_true)) ?_; wp_walk using wpAny_loadPart' hl)
      | (refine wpAny_ite_false (decide_eq_false (by rw [c1]; exact Bool.false_ne_true)) ?_; wp_walk using wpAny_loadPart' hl)
      | (refine wpAny_ite_true (decide_eq_true c2) ?_; wp_walk using wpAny_loadPart' hl))
    first
      | exact ⟨_, rfl, h⟩
      | exact h
section
variable {X : Cx}
def rRepA (K : PySem.W.Frag) : R2 := fun x y H Q => ∃ l k xs, x = .ref l ∧ y = .int k ∧ SqT K H l xs ∧ k ≤ 1000000 ∧ -1000000 ≤ k ∧ xs.length * k.toNat ≤ sizeLine ∧
  (xs = [] ∨ k = 1 → Q (.ref l) H) ∧ (∀ p, H p = none → Q (.ref p) (upd H p (.tup (List.replicate k.toNat xs).flatten)))
theorem op_repA : OpR X (binaryOp .Mult) (rRepA X.K) := by
  intro pins s σ H x y v u Q I rx ry h
  obtain ⟨l, k, xs, rfl, rfl, hT, h1, h2, hz, q1, q⟩ := h
  cases rx
  obtain ⟨t, rfl⟩ := ry
  obtain ⟨its, r, ⟨⟨cls, dd, data, sl⟩, ho, hc, n, hd⟩, hs⟩ := I.tuple hT
  simp only at hc hd
  subst hc hd
  have hle : its.length = xs.length := r.length.symm
  have hsz0 : its.toArray.size = xs.length := by rw [List.size_toArray, hle]
  have c0 : (decide (k < -(2 ^ 63)) || decide (k ≥ 2 ^ 63)) = false := by
    rw [decide_eq_false (by omega), decide_eq_false (by omega)] <;> rfl
  by_cases c1 : (its.toArray.isEmpty || k == 1) = true
  · refine wpAny_binaryOp_repeat_ref (T := "tuple") (U := "int") (by decide) ⟨_, ho, rfl⟩ (fun s' => typeIs_int s' k t) noFill_tuple_mul F.fills_int_mul F.slot_int_rmul repeat_tuple F.slot_int_index.lookup
      (call_meets F.slot_int_rmul (typeIs_int s k t) F.entry_int_rmul (F.args_int_rmul_2 _ _) (int_rmul_tuple k t l its.toArray n dd sl)
        ⟨ho, rfl, ⟨_, ho, rfl⟩, call_meets F.slot_tuple_mul ⟨_, ho, rfl⟩ F.entry_tuple_mul (F.args_tuple_mul_2 _ _) (tuple_mul_same l its.toArray n dd sl k t c0 c1) ⟨ho, ?_⟩⟩)
    refine ⟨.ref l, H, I, rfl, q1 ?_⟩
    rcases Bool.or_eq_true_iff.mp c1 with z | z
    · left
      have : its = [] := by cases its with
        | nil => rfl
        | cons a b => simp at z
      rw [this] at hle
      exact List.eq_nil_of_length_eq_zero hle.symm
    · right
      exact beq_iff_eq.mp z
  · have c1' : (its.toArray.isEmpty || k == 1) = false := by simpa using c1
    by_cases c2 : (decide (k ≤ 0) || its.toArray.isEmpty) = true
    · refine wpAny_binaryOp_repeat_ref (T := "tuple") (U := "int") (by decide) ⟨_, ho, rfl⟩ (fun s' => typeIs_int s' k t) noFill_tuple_mul F.fills_int_mul F.slot_int_rmul repeat_tuple F.slot_int_index.lookup
        (call_meets F.slot_int_rmul (typeIs_int s k t) F.entry_int_rmul (F.args_int_rmul_2 _ _) (int_rmul_tuple k t l its.toArray n dd sl)
          ⟨ho, rfl, ⟨_, ho, rfl⟩, call_meets F.slot_tuple_mul ⟨_, ho, rfl⟩ F.entry_tuple_mul (F.args_tuple_mul_2 _ _) (tuple_mul_none l its.toArray n dd sl k t c0 c1' c2) ⟨ho, ?_⟩⟩)
      have hk : k ≤ 0 := by
        rcases Bool.or_eq_true_iff.mp c2 with z | z
        · exact of_decide_eq_true z
        · rw [z] at c1'; simp at c1'
      have e0 : k.toNat = 0 := by omega
      have q' := q s.heap.objs.size (I.hok.fresh (Nat.le_refl _))
      rw [e0] at q'
      refine ⟨.ref s.heap.objs.size, _, I.laid (t' := s.toks) (o := .tup []) (fun b ob q => Heap.get?_push_of_some _ q) (Nat.le_refl _) ?_, rfl, q'⟩
      exact ⟨by simp, _, .nil, IsTup.new _ _⟩
    · have c2' : (decide (k ≤ 0) || its.toArray.isEmpty) = false := by simpa using c2
      have hk : 0 < k := by
        have := (Bool.or_eq_false_iff.mp c2').1
        simpa using this
      have hm : ((its.toArray.size : Nat) : Int) * k ≤ sizeLine := by
        rw [hsz0]
        have e : k = ((k.toNat : Nat) : Int) := by omega
        rw [e, ← Int.natCast_mul]
        exact Int.ofNat_le.mpr hz
      rw [sizeLine_eq] at hm
      have flen : (List.replicate k.toNat its).flatten.length ≤ sizeLine := by
        rw [PyProof.Rows.lm_len_rep_flat, hle, Nat.mul_comm]
        exact hz
      have c4 : Builtin.Tuple.tupleTooMany (((its.toArray.size : Nat) : Int) * k) = false := by
        unfold Builtin.Tuple.tupleTooMany
        rw [sizeLine_eq]
        exact decide_eq_false (by omega)
      refine wpAny_binaryOp_repeat_ref (T := "tuple") (U := "int") (by decide) ⟨_, ho, rfl⟩ (fun s' => typeIs_int s' k t) noFill_tuple_mul F.fills_int_mul F.slot_int_rmul repeat_tuple F.slot_int_index.lookup
        (call_meets F.slot_int_rmul (typeIs_int s k t) F.entry_int_rmul (F.args_int_rmul_2 _ _) (int_rmul_tuple k t l its.toArray n dd sl)
          ⟨ho, rfl, ⟨_, ho, rfl⟩, call_meets F.slot_tuple_mul ⟨_, ho, rfl⟩ F.entry_tuple_mul (F.args_tuple_mul_2 _ _) (tuple_mulW l its.toArray n dd sl k t c0 c1' c2' (by omega) c4 (by rw [size_rep, List.size_toArray]; exact flen)) ⟨ho, ?_⟩⟩)
      rw [size_rep]
      refine ⟨.ref s.heap.objs.size, _, I.laid (t' := s.toks) (o := .tup (List.replicate k.toNat xs).flatten) (fun b ob q => Heap.get?_push_of_some _ q) (Nat.le_refl _) ?_, rfl, q _ (I.hok.fresh (Nat.le_refl _))⟩
      exact ⟨by rw [PyProof.Rows.lm_len_rep_flat, Nat.mul_comm]; exact hz, _, r.rep k.toNat, IsTup.new _ _⟩
theorem flat_rep_one {α : Type} (xs : List α) : (List.replicate 1 xs).flatten = xs := by simp
theorem og_mul : OpR X (binaryOp .Mult) (rG2 X.K mulD) := by
  intro pins s σ H x y v u Q I rx ry ⟨Fb, m, dx, dy, d, fr, vx, vy, e, k⟩
  unfold mulD at e
  split at e
  · rename_i i j
    split at e
    · rename_i hc
      cases e
      cases vx.asI; cases vy.asI
      exact op_mul pins s σ H _ _ v u Q I rx ry ⟨i, j, rfl, rfl, hc, k H _ (Same.refl H) (.int _)⟩
    · cases e
  · rename_i xs n
    split at e
    · rename_i hl
      cases e
      obtain ⟨a, vs, rfl, h1, z1, q1⟩ := vx.asT
      cases vy.asI
      refine op_repA pins s σ H _ _ v u Q I rx ry ⟨a, n, vs, rfl, rfl, h1, hl.1, hl.2.1, by rw [q1.length]; exact hl.2.2, ?_, fun p hp => ?_⟩
      · intro z
        refine k H _ (Same.refl H) ?_
        rcases z with z | z
        · subst z
          cases q1
          have e0 : (List.replicate n.toNat ([] : List D)).flatten = [] := by simp
          rw [e0]
          exact .tup h1 z1 .nil
        · subst z
          rw [show (1 : Int).toNat = 1 from rfl, flat_rep_one]
          exact .tup h1 z1 q1
      · exact k _ _ (same_upd hp) (.tup (.of upd_same) (by rw [PyProof.Rows.lm_len_rep_flat, Nat.mul_comm, q1.length]; exact hl.2.2) ((q1.rep _).kp (kp_same (same_upd hp))))
    · cases e
  · rename_i xs n
    split at e
    · rename_i hl
      cases e
      obtain ⟨a, vs, rfl, h1, z1, q1⟩ := vx.asL
      cases vy.asI
      refine op_rep pins s σ H _ _ v u Q I rx ry ⟨a, n, vs, rfl, rfl, h1, by omega, by omega, by rw [q1.length]; exact hl.2.2, fun p hp => ?_⟩
      exact k _ _ (same_upd hp) (.lst upd_same (fr p hp) (by rw [PyProof.Rows.lm_len_rep_flat, Nat.mul_comm, q1.length]; exact hl.2.2) ((q1.rep _).kp (kp_same (same_upd hp))))
    · cases e
  · cases e
end
end DL
set_option Elab.async false
set_option linter.all false
set_option maxRecDepth 100000
set_option maxHeartbeats 4000000
namespace DL
open PySem PySem.Spec PyProof.Rows L2
def evL : List Ex → Ev → Sto → R (List D)
  | [], _, S => .ok [] S
  | f :: fs, ρ, S => (f ρ S).bind fun d S => (evL fs ρ S).bind fun ds S => .ok (d :: ds) S
section
variable (K : PySem.W.Frag) (mg : Str → Option Value) (W : WX)
def finA (B : Addr → Prop) (m : List Addr) (S : Sto) (σ : L2.St) (H : Hp) (r : R (List D)) (Q : List V → Hp → Prop) : Prop := match r with
  | .ok ds S' => ∀ m' H' vs, Post K mg B m S H m' S' H' → RepA K H' (Fo B m' S') m' vs ds → Q vs H'
  | .exc c p S' => ∀ m' H' cls dd, Post K mg B m S H m' S' H' → XcR K mg H' (Fo B m' S') m' c p cls dd → W cls dd σ H'
  | .bad => False
def upA (f : Ev → Sto → R (List D)) : TA := fun σ H Q => ∃ B m ρ S, Rl K mg B m H S ∧ RepE K H (Fo B m S) m σ ρ ∧ finA K mg W B m S σ H (f ρ S) Q
end
section
variable {K : PySem.W.Frag} {mg : Str → Option Value} {W : WX} {B : Addr → Prop} {m m' m1 : List Addr} {S S' S1 : Sto} {H H' H1 : Hp} {σ : L2.St} {ρ : Ev}
theorem finA.later (p : Post K mg B m S H m1 S1 H1) {r : R (List D)} {Q : List V → Hp → Prop} (h : finA K mg W B m S σ H r Q) : finA K mg W B m1 S1 σ H1 r Q := by
  cases r with
  | ok d S' => exact fun m' H' v q => h m' H' v (p.trans q)
  | exc c p' S' => exact fun m' H' cls dd q => h m' H' cls dd (p.trans q)
  | bad => exact h
theorem finA.mono {r : R (List D)} {Q Q' : List V → Hp → Prop} (h : finA K mg W B m S σ H r Q) (k : ∀ v H, Q v H → Q' v H) : finA K mg W B m S σ H r Q' := by
  cases r with
  | ok d S' => exact fun m' H' v p r => k _ _ (h m' H' v p r)
  | exc c p' S' => exact h
  | bad => exact h
theorem fin.bindA {r : R D} {g : D → Sto → R (List D)} {Q : List V → Hp → Prop} (h : finA K mg W B m S σ H (r.bind g) Q) :
    fin K mg W B m S σ H r (fun v H1 => ∃ m1 S1 d, Post K mg B m S H m1 S1 H1 ∧ Rep K H1 (Fo B m1 S1) m1 v d ∧ finA K mg W B m1 S1 σ H1 (g d S1) Q) := by
  cases r with
  | ok d S' => exact fun m' H' v p r => ⟨m', S', d, p, r, finA.later p h⟩
  | exc c p' S' => exact h
  | bad => exact h
theorem finA.bindA {r : R (List D)} {g : List D → Sto → R (List D)} {Q : List V → Hp → Prop} (h : finA K mg W B m S σ H (r.bind g) Q) :
    finA K mg W B m S σ H r (fun v H1 => ∃ m1 S1 d, Post K mg B m S H m1 S1 H1 ∧ RepA K H1 (Fo B m1 S1) m1 v d ∧ finA K mg W B m1 S1 σ H1 (g d S1) Q) := by
  cases r with
  | ok d S' => exact fun m' H' v p r => ⟨m', S', d, p, r, finA.later p h⟩
  | exc c p' S' => exact h
  | bad => exact h
theorem finA.bind {r : R (List D)} {g : List D → Sto → R D} {Q : VK} (h : fin K mg W B m S σ H (r.bind g) Q) :
    finA K mg W B m S σ H r (fun v H1 => ∃ m1 S1 d, Post K mg B m S H m1 S1 H1 ∧ RepA K H1 (Fo B m1 S1) m1 v d ∧ fin K mg W B m1 S1 σ H1 (g d S1) Q) := by
  cases r with
  | ok d S' => exact fun m' H' v p r => ⟨m', S', d, p, r, fin.later p h⟩
  | exc c p' S' => exact h
  | bad => exact h
theorem upA_nil {Q : List V → Hp → Prop} (h : upA K mg W (evL []) σ H Q) : tNil σ H Q := by
  obtain ⟨B, m, ρ, S, r, re, f⟩ := h
  exact f m H [] (Post.refl r) .nil
theorem upA_cons {fa : Ex} {fs : List Ex} {Q : List V → Hp → Prop} (h : upA K mg W (evL (fa :: fs)) σ H Q) : tCons (up K mg W fa) (upA K mg W (evL fs)) σ H Q := by
  obtain ⟨B, m, ρ, S, r, re, f⟩ := h
  refine ⟨B, m, ρ, S, r, re, fin.mono (fin.bindA f) fun v H1 => ?_⟩
  rintro ⟨m1, S1, d, p, q, f1⟩
  refine ⟨B, m1, ρ, S1, p.rl, re.kp (p.kp r), finA.mono (finA.bindA f1) fun vs H2 => ?_⟩
  rintro ⟨m2, S2, ds, p2, q2, f2⟩
  exact f2 m2 H2 (v :: vs) (Post.refl p2.rl) (.cons (q.kp (p2.kp p.rl)) q2)
theorem upA_one {f : Ev → Sto → R (List D)} {g : List D → Ev → Sto → R D} {Q : VK} (h : up K mg W (fun ρ S => (f ρ S).bind fun x S => g x ρ S) σ H Q) :
    upA K mg W f σ H fun xs H1 => ∃ B m ρ S ds, Rl K mg B m H1 S ∧ RepE K H1 (Fo B m S) m σ ρ ∧ RepA K H1 (Fo B m S) m xs ds ∧ fin K mg W B m S σ H1 (g ds ρ S) Q := by
  obtain ⟨B, m, ρ, S, r, re, f⟩ := h
  refine ⟨B, m, ρ, S, r, re, finA.mono (finA.bind f) fun v H1 => ?_⟩
  rintro ⟨m1, S1, d, p, q, f1⟩
  exact ⟨B, m1, ρ, S1, d, p.rl, re.kp (p.kp r), q, f1⟩
end
def EVA (X : Cx) (W : WX) (es : List Expr) (fs : List Ex) : Prop := PA X es (upA X.K X.mg W (evL fs))
theorem pa_imp {X : Cx} {es : List Expr} {t t' : TA} (h : PA X es t) (k : ∀ σ H Q, t' σ H Q → t σ H Q) : PA X es t' := ⟨fun pos pins s σ H Q I q => h.run pos pins s σ H Q I (k σ H Q q)⟩
section
variable {X : Cx} {W : WX} {e : Expr} {es : List Expr} {fa : Ex} {fs : List Ex} {pos : Pos}
theorem ea_nil : EVA X W [] [] := pa_imp pa_nil fun σ H Q h => upA_nil h
theorem ea_cons (ha : EV X W e fa) (hr : EVA X W es fs) (hs : starEach (e :: es) X.env = (false, eval e X.env) :: starEach es X.env := by rfl) : EVA X W (e :: es) (fa :: fs) := pa_imp (pa_cons ha hr hs) fun σ H Q h => upA_cons h
end
def eTup (fs : List Ex) : Ex := fun ρ S => (evL fs ρ S).bind fun ds S => if ds.length ≤ sizeLine then .ok (.tup ds) S else .bad
def eLst (fs : List Ex) : Ex := fun ρ S => (evL fs ρ S).bind fun ds S => if ds.length ≤ sizeLine then .ok (.lst ds) S else .bad
/-- a list that will be written: a new object -/
def eLstM (fs : List Ex) : Ex := fun ρ S => (evL fs ρ S).bind fun ds S => if ds.length ≤ sizeLine then .ok (.ref S.length) (S ++ [some (.lst ds)]) else .bad
section
variable {K : PySem.W.Frag} {mg : Str → Option Value} {B : Addr → Prop} {m : List Addr} {S : Sto} {H : Hp}
theorem liv_app {m : List Addr} {S : Sto} {p : Addr} {x : Option Ob} (hl : m.length = S.length) {a : Addr} (h : Liv (m ++ [p]) (S ++ [x]) a) : Liv m S a ∨ (a = p ∧ ∃ o, x = some o) := by
  obtain ⟨n, o, e1, e2⟩ := h
  by_cases hn : n < m.length
  · rw [List.getElem?_append_left hn] at e1
    rw [List.getElem?_append_left (by omega)] at e2
    exact .inl ⟨n, o, e1, e2⟩
  · rw [List.getElem?_append_right (by omega)] at e1
    rw [List.getElem?_append_right (by omega)] at e2
    have hz : n - m.length = 0 := by
      have := (List.getElem?_eq_some_iff.mp e1).1
      simp at this
      omega
    rw [hz] at e1
    rw [show n - S.length = 0 by omega] at e2
    simp at e1 e2
    exact .inr ⟨e1.symm, o, e2⟩
/-- a new object of ours -/
theorem kp_new (r : Rl K mg B m H S) {p : Addr} (hp : H p = none) {ho : HO} {o : Ob} : Kp H (upd H p ho) (Fo B m S) (Fo B (m ++ [p]) (S ++ [some o])) m (m ++ [p]) := by
  have s := same_upd (o := ho) hp
  refine ⟨fun a xs h _ => s _ _ h, fun a u h _ => h.elim (fun h => .inl (s _ _ h)) fun ⟨o, h⟩ => .inr ⟨o, s _ _ h⟩, fun a o _ h => s _ _ h, fun a u h f z => ?_, fun n a h => ?_⟩
  · rcases z with z | z
    · exact f (.inl z)
    · rcases liv_app r.len z with z | ⟨z, _⟩
      · exact f (.inr z)
      · obtain ⟨o, e⟩ := rd_some h
        rw [z, hp] at e; cases e
  · rw [List.getElem?_append_left (List.getElem?_eq_some_iff.mp h).1]; exact h
theorem Post.new (r : Rl K mg B m H S) {p : Addr} (hp : H p = none) {ho : HO} {o : Ob} (no : ObR K mg (upd H p ho) (Fo B (m ++ [p]) (S ++ [some o])) (m ++ [p]) p o) : Post K mg B m S H (m ++ [p]) (S ++ [some o]) (upd H p ho) := by
  have s := same_upd (o := ho) hp
  have sm : ∀ a, H a ≠ none → upd H p ho a ≠ none := fun a h => by
    cases e : H a with
    | none => exact absurd e h
    | some o => rw [s _ _ e]; simp
  have kp := kp_new (ho := ho) (o := o) r hp
  refine ⟨⟨[p], rfl, fun a h => by simp at h; rw [h]; exact hp⟩, fun a u h _ => s _ _ h, sm, ⟨by simp [r.len], ?_, fun a h => ?_, fun a h => sm a (r.bt a h), fun a h => ?_, fun n a u e1 e2 => ?_⟩, fun a h => ?_⟩
  · refine List.nodup_append.mpr ⟨r.nod, by simp, fun a h1 b h2 e => ?_⟩
    simp at h2
    subst h2
    subst e
    exact r.mt _ h1 hp
  · intro z
    rcases liv_app r.len h with h | ⟨h, _⟩
    · exact r.nb a h z
    · exact r.bt a z (h ▸ hp)
  · rcases List.mem_append.mp h with h | h
    · exact sm a (r.mt a h)
    · simp at h
      subst h
      rw [upd_same]; simp
  · by_cases hn : n < m.length
    · rw [List.getElem?_append_left hn] at e1
      rw [List.getElem?_append_left (by rw [← r.len]; exact hn)] at e2
      cases r.obj n a u e1 e2 with
      | lst h z q => exact .lst (s _ _ h) z (q.kp kp)
      | dK h z e q => exact .dK (s _ _ h) z e (q.kp kp)
      | dT h z e q => exact .dT (s _ _ h) z e (q.kp kp)
      | ins g h e q => exact .ins g (s _ _ h) e (q.kp kp)
    · rw [List.getElem?_append_right (by omega)] at e1
      have hl := r.len
      rw [List.getElem?_append_right (by omega)] at e2
      have hz : n - m.length = 0 := by
        have := (List.getElem?_eq_some_iff.mp e1).1
        simp at this
        omega
      rw [hz] at e1
      rw [show n - S.length = 0 by omega] at e2
      simp at e1 e2
      subst e1 e2
      exact no
  · rcases liv_app r.len h with h | ⟨h, _⟩
    · exact .inl h
    · right; rw [h]; exact hp
theorem rep_new (r : Rl K mg B m H S) {p : Addr} {H' : Hp} {Fb : Addr → Prop} : Rep K H' Fb (m ++ [p]) (.ref p) (.ref S.length) := .ref (by rw [List.getElem?_append_right (by rw [r.len]; exact Nat.le_refl _), r.len]; simp)
end
section
variable {X : Cx} {W : WX} {es : List Expr} {fs : List Ex} {pos : Pos}
theorem ev_tup {k : Nat} (h : EVA X W es fs) : EV X W (.Tuple es k pos) (eTup fs) := by
  refine pe_imp (pe_tup h) fun σ H Q h => ?_
  obtain ⟨B, m, ρ, S, r, re, f⟩ := upA_one (g := fun ds ρ S => if ds.length ≤ sizeLine then .ok (.tup ds) S else .bad) h
  refine ⟨B, m, ρ, S, r, re, finA.mono f fun vs H1 => ?_⟩
  rintro ⟨B, m, ρ, S, ds, r, re, q, f⟩
  split at f
  · rename_i hl
    refine ⟨by rw [q.length]; exact hl, fun p hp => f.ok r (same_upd hp) (.tup (.of upd_same) (by rw [q.length]; exact hl) (q.kp (kp_same (same_upd hp))))⟩
  · exact f.elim
theorem ev_lst (h : EVA X W es fs) : EV X W (.List es pos) (eLst fs) := by
  refine pe_imp (pe_lst h) fun σ H Q h => ?_
  obtain ⟨B, m, ρ, S, r, re, f⟩ := upA_one (g := fun ds ρ S => if ds.length ≤ sizeLine then .ok (.lst ds) S else .bad) h
  refine ⟨B, m, ρ, S, r, re, finA.mono f fun vs H1 => ?_⟩
  rintro ⟨B, m, ρ, S, ds, r, re, q, f⟩
  split at f
  · rename_i hl
    refine ⟨by rw [q.length]; exact hl, fun p hp => f.ok r (same_upd hp) (.lst upd_same (fr_of r p hp) (by rw [q.length]; exact hl) (q.kp (kp_same (same_upd hp))))⟩
  · exact f.elim
theorem ev_lstM (h : EVA X W es fs) : EV X W (.List es pos) (eLstM fs) := by
  refine pe_imp (pe_lst h) fun σ H Q h => ?_
  obtain ⟨B, m, ρ, S, r, re, f⟩ := upA_one (g := fun ds ρ S => if ds.length ≤ sizeLine then .ok (.ref S.length) (S ++ [some (.lst ds)]) else .bad) h
  refine ⟨B, m, ρ, S, r, re, finA.mono f fun vs H1 => ?_⟩
  rintro ⟨B, m, ρ, S, ds, r, re, q, f⟩
  split at f
  · rename_i hl
    refine ⟨by rw [q.length]; exact hl, fun p hp => f (m ++ [p]) _ _ (Post.new r hp (.lst upd_same (by rw [q.length]; exact hl) (q.kp (kp_new r hp)))) (rep_new r)⟩
  · exact f.elim
end
inductive VwA (K : PySem.W.Frag) (H : Hp) (Fb : Addr → Prop) (m : List Addr) : List V → List D → Prop
  | nil : VwA K H Fb m [] []
  | cons {v : V} {vs : List V} {d : D} {ds : List D} : Vw K H Fb m v d → VwA K H Fb m vs ds → VwA K H Fb m (v :: vs) (d :: ds)
theorem vwA {K : PySem.W.Frag} {mg : Str → Option Value} {B : Addr → Prop} {m : List Addr} {S : Sto} {H : Hp} (r : Rl K mg B m H S) : ∀ {vs : List V} {ds : List D}, RepA K H (Fo B m S) m vs ds → VwA K H (Fo B m S) m vs (ds.map (view S))
  | _, _, .nil => .nil
  | _, _, .cons h t => .cons (vw r h) (vwA r t)
def eCall (g : List D → Option D) (fs : List Ex) : Ex := fun ρ S => (evL fs ρ S).bind fun ds S => ans S (g (ds.map (view S)))
def rGn (K : PySem.W.Frag) (g : List D → Option D) : List V → Hp → VK → Prop := fun xs H Q => ∃ Fb m ds d, (∀ p, H p = none → ¬ Fb p) ∧ VwA K H Fb m xs ds ∧ g ds = some d ∧ ∀ H' z, Same H H' → Rep K H' Fb m z d → Q z H'
theorem n_of {K : PySem.W.Frag} {mg : Str → Option Value} {W : WX} {σ : L2.St} {H : Hp} {Q : VK} {g : List D → Option D} {fs : List Ex} (h : up K mg W (eCall g fs) σ H Q) : upA K mg W (evL fs) σ H fun xs H1 => rGn K g xs H1 Q := by
  obtain ⟨B, m, ρ, S, r, re, f⟩ := upA_one (g := fun ds ρ S => ans S (g (ds.map (view S)))) h
  refine ⟨B, m, ρ, S, r, re, finA.mono f fun vs H1 => ?_⟩
  rintro ⟨B, m, ρ, S, ds, r, re, q, f⟩
  cases e : g (ds.map (view S)) with
  | none => rw [e] at f; exact f.elim
  | some d =>
    rw [e] at f
    exact ⟨_, m, _, d, fr_of r, vwA r q, e, fun H' z s q => f.ok r s q⟩
section
variable {X : Cx} {W : WX} {e : Expr} {es : List Expr} {fs : List Ex} {pos p : Pos} {x : Str}
theorem ev_callB {id : String} {g : List D → Option D} (hc : CallR X (.builtin id) (rGn X.K g)) (hg : Gl X x) (hm : X.mg x = none) (hv : bootBuiltins x = some (.builtin id)) (ha : EVA X W (e :: es) fs) (hn : x ≠ "__name__" := by decide) (hdb : (x == ("__debug__" : Str)) = false := by decide)
    (he : starEach (e :: es) X.env = (false, eval e X.env) :: starEach es X.env := by rfl) (hpl : (backTo pos (starEach es X.env)).any (·.1) = false := by rfl) : EV X W (.Call (.Name x p) (e :: es) [] pos) (eCall g fs) :=
  pe_imp (pe_callB hc hg hm hv ha hn hdb he hpl) fun σ H Q h => n_of h
theorem ev_callTy {T : String} {g : List D → Option D} (hc : CallR X (.type T) (rGn X.K g)) (hg : Gl X x) (hm : X.mg x = none) (hv : bootBuiltins x = some (.type T)) (ha : EVA X W (e :: es) fs) (hn : x ≠ "__name__" := by decide) (hdb : (x == ("__debug__" : Str)) = false := by decide)
    (he : starEach (e :: es) X.env = (false, eval e X.env) :: starEach es X.env := by rfl) (hpl : (backTo pos (starEach es X.env)).any (·.1) = false := by rfl) : EV X W (.Call (.Name x p) (e :: es) [] pos) (eCall g fs) :=
  pe_imp (pe_callTy hc hg hm hv ha hn hdb he hpl) fun σ H Q h => n_of h
end
end DL
set_option Elab.async false
set_option linter.all false
set_option maxRecDepth 100000
set_option maxHeartbeats 4000000
namespace DL
open PySem PySem.Spec PyProof.Rows L2
inductive Fl where
  | nx (ρ : Ev) | rt (d : D) | bk (ρ : Ev) | ct (ρ : Ev)
inductive RS where
  | fl (f : Fl) (S : Sto) | exc (c : Str) (p : D) (ρ : Ev) (S : Sto) | bad
abbrev Sx := Ev → Sto → RS
/-- an expression's answer, then a statement -/
def R.bindS {α : Type} (r : R α) (ρ : Ev) (g : α → Sto → RS) : RS := match r with
  | .ok a S => g a S
  | .exc c p S => .exc c p ρ S
  | .bad => .bad
section
variable (K : PySem.W.Frag) (mg : Str → Option Value) (W : WX)
def finS (B : Addr → Prop) (m : List Addr) (S : Sto) (H : Hp) (r : RS) (E : Ends) : Prop := match r with
  | .fl (.nx ρ') S' => ∀ m' H' σ', Post K mg B m S H m' S' H' → RepE K H' (Fo B m' S') m' σ' ρ' → E.nx σ' H'
  | .fl (.bk ρ') S' => ∀ m' H' σ', Post K mg B m S H m' S' H' → RepE K H' (Fo B m' S') m' σ' ρ' → E.bk σ' H'
  | .fl (.ct ρ') S' => ∀ m' H' σ', Post K mg B m S H m' S' H' → RepE K H' (Fo B m' S') m' σ' ρ' → E.ct σ' H'
  | .fl (.rt d) S' => ∀ m' H' v, Post K mg B m S H m' S' H' → Rep K H' (Fo B m' S') m' v d → E.rt v H'
  | .exc c p ρ' S' => ∀ m' H' σ' cls dd, Post K mg B m S H m' S' H' → RepE K H' (Fo B m' S') m' σ' ρ' → XcR K mg H' (Fo B m' S') m' c p cls dd → W cls dd σ' H'
  | .bad => False
def upS (f : Sx) : TS := fun E σ H => ∃ B m ρ S, Rl K mg B m H S ∧ RepE K H (Fo B m S) m σ ρ ∧ finS K mg W B m S H (f ρ S) E
end
section
variable {K : PySem.W.Frag} {mg : Str → Option Value} {W : WX} {B : Addr → Prop} {m m' m1 : List Addr} {S S' S1 : Sto} {H H' H1 : Hp} {σ : L2.St} {ρ : Ev} {E : Ends}
theorem finS.later (p : Post K mg B m S H m1 S1 H1) {r : RS} (h : finS K mg W B m S H r E) : finS K mg W B m1 S1 H1 r E := by
  cases r with
  | fl f S' => cases f with
    | nx ρ => exact fun m' H' σ' q => h m' H' σ' (p.trans q)
    | bk ρ => exact fun m' H' σ' q => h m' H' σ' (p.trans q)
    | ct ρ => exact fun m' H' σ' q => h m' H' σ' (p.trans q)
    | rt d => exact fun m' H' v q => h m' H' v (p.trans q)
  | exc c p' ρ S' => exact fun m' H' σ' cls dd q => h m' H' σ' cls dd (p.trans q)
  | bad => exact h
theorem fin.bindS {r : R D} {g : D → Sto → RS} (re : RepE K H (Fo B m S) m σ ρ) (rl : Rl K mg B m H S) (h : finS K mg W B m S H (r.bindS ρ g) E) :
    fin K mg W B m S σ H r (fun v H1 => ∃ m1 S1 d, Post K mg B m S H m1 S1 H1 ∧ Rep K H1 (Fo B m1 S1) m1 v d ∧ finS K mg W B m1 S1 H1 (g d S1) E) := by
  cases r with
  | ok d S' => exact fun m' H' v p r => ⟨m', S', d, p, r, finS.later p h⟩
  | exc c p' S' => exact fun m' H' cls dd p x => h m' H' σ cls dd p (re.kp (p.kp rl)) x
  | bad => exact h
/-- an expression, then a statement's rest -/
theorem upS_one {fa : Ex} {g : D → Ev → Sto → RS} (h : upS K mg W (fun ρ S => (fa ρ S).bindS ρ fun x S => g x ρ S) E σ H) :
    up K mg W fa σ H fun x H1 => ∃ B m ρ S dx, Rl K mg B m H1 S ∧ RepE K H1 (Fo B m S) m σ ρ ∧ Rep K H1 (Fo B m S) m x dx ∧ finS K mg W B m S H1 (g dx ρ S) E := by
  obtain ⟨B, m, ρ, S, r, re, f⟩ := h
  refine ⟨B, m, ρ, S, r, re, fin.mono (fin.bindS re r f) fun v H1 => ?_⟩
  rintro ⟨m1, S1, d, p, q, f1⟩
  exact ⟨B, m1, ρ, S1, d, p.rl, re.kp (p.kp r), q, f1⟩
end
def SV (X : Cx) (W : WX) (st : Stmt) (f : Sx) : Prop := PS X st (upS X.K X.mg W f)
def SVs (X : Cx) (W : WX) (st : List Stmt) (f : Sx) : Prop := PSs X st (upS X.K X.mg W f)
theorem ps_imp {X : Cx} {st : Stmt} {t t' : TS} (h : PS X st t) (k : ∀ E σ H, t' E σ H → t E σ H) : PS X st t' := ⟨fun pins s σ H E I q => h.run pins s σ H E I (k E σ H q)⟩
theorem pss_imp {X : Cx} {st : List Stmt} {t t' : TS} (h : PSs X st t) (k : ∀ E σ H, t' E σ H → t E σ H) : PSs X st t' := ⟨fun pins s σ H E I q => h.run pins s σ H E I (k E σ H q)⟩
def sSkip : Sx := fun ρ S => .fl (.nx ρ) S
def sSeq (a b : Sx) : Sx := fun ρ S => match a ρ S with
  | .fl (.nx ρ') S' => b ρ' S'
  | r => r
def sRet (e : Ex) : Sx := fun ρ S => (e ρ S).bindS ρ fun d S => .fl (.rt d) S
def sRetN : Sx := fun ρ S => .fl (.rt .non) S
def sExpr (e : Ex) : Sx := fun ρ S => (e ρ S).bindS ρ fun _ S => .fl (.nx ρ) S
def sAsg (i : Nat) (e : Ex) : Sx := fun ρ S => (e ρ S).bindS ρ fun d S => .fl (.nx (ρ.set i (some d))) S
def sBrk : Sx := fun ρ S => .fl (.bk ρ) S
def sCont : Sx := fun ρ S => .fl (.ct ρ) S
section
variable {X : Cx} {W : WX} {st : Stmt} {sts : List Stmt} {a b : Sx} {e : Expr} {fe : Ex} {pos : Pos}
theorem sv_nil : SVs X W [] sSkip := pss_imp pss_nil fun E σ H ⟨B, m, ρ, S, r, re, f⟩ => f m H σ (Post.refl r) re
theorem sv_cons (h1 : SV X W st a) (h2 : SVs X W sts b) : SVs X W (st :: sts) (sSeq a b) := by
  refine pss_imp (pss_cons h1 h2) fun E σ H h => ?_
  obtain ⟨B, m, ρ, S, r, re, f⟩ := h
  refine ⟨B, m, ρ, S, r, re, ?_⟩
  unfold sSeq at f
  cases e1 : a ρ S with
  | bad => rw [e1] at f; exact f
  | exc c p ρ' S' => rw [e1] at f; exact f
  | fl fl S' =>
    rw [e1] at f
    cases fl with
    | nx ρ' => exact fun m' H' σ' p q => ⟨B, m', ρ', S', p.rl, q, finS.later p f⟩
    | rt d => exact f
    | bk ρ' => exact f
    | ct ρ' => exact f
theorem sv_one (h1 : SV X W st a) : SVs X W [st] a := pss_one h1
theorem sv_ret (h : EV X W e fe) : SV X W (.Return (some e) pos) (sRet fe) := by
  refine ps_imp (ps_ret h) fun E σ H h => ?_
  obtain ⟨B, m, ρ, S, r, re, f⟩ := upS_one (g := fun d ρ S => .fl (.rt d) S) h
  refine ⟨B, m, ρ, S, r, re, f.mono fun x H1 => ?_⟩
  rintro ⟨B, m, ρ, S, dx, r, re, rx, f⟩
  exact f m H1 x (Post.refl r) rx
theorem sv_expr (h : EV X W e fe) (hs : swapsWith e none pos.line X.env = pure false := by rfl) : SV X W (.Expr e pos) (sExpr fe) := by
  refine ps_imp (ps_expr h hs) fun E σ H h => ?_
  obtain ⟨B, m, ρ, S, r, re, f⟩ := upS_one (g := fun d ρ S => .fl (.nx ρ) S) h
  refine ⟨B, m, ρ, S, r, re, f.mono fun x H1 => ?_⟩
  rintro ⟨B, m, ρ, S, dx, r, re, rx, f⟩
  exact f m H1 σ (Post.refl r) re
theorem sv_asg {i : Nat} {x : Str} {pos' : Pos} (hN : X.N.Nodup) (hi : X.N[i]? = some x) (hx : Loc X.env.scope x) (h : EV X W e fe) (hs : swapsWith e (some (.Name x pos')) pos.line X.env = pure false := by rfl) (hf : X.fn x = true ∨ X.env.scope.names.lookup x = some .local := by first | exact .inl rfl | exact .inr rfl | assumption) :
    SV X W (.Assign [.Name x pos'] e pos) (sAsg i fe) := by
  refine ps_imp (ps_set hN hi hx h hs hf) fun E σ H h => ?_
  obtain ⟨B, m, ρ, S, r, re, f⟩ := upS_one (g := fun d ρ S => .fl (.nx (ρ.set i (some d))) S) h
  refine ⟨B, m, ρ, S, r, re, f.mono fun x H1 => ?_⟩
  rintro ⟨B, m, ρ, S, dx, r, re, rx, f⟩
  exact f m H1 _ (Post.refl r) (re.set rx)
end
abbrev Tx := Ev → Sto → R Bool
def tVal (e : Ex) : Tx := fun ρ S => (e ρ S).bind fun d S => match d with
  | .bl b => .ok b S
  | _ => .bad
def tNotX (t : Tx) : Tx := fun ρ S => (t ρ S).bind fun b S => .ok (!b) S
def tAndX (t u : Tx) : Tx := fun ρ S => (t ρ S).bind fun b S => if b = true then u ρ S else .ok false S
def tOrX (t u : Tx) : Tx := fun ρ S => (t ρ S).bind fun b S => if b = true then .ok true S else u ρ S
section
variable (K : PySem.W.Frag) (mg : Str → Option Value) (W : WX)
def finT (B : Addr → Prop) (m : List Addr) (S : Sto) (σ : L2.St) (H : Hp) (r : R Bool) (Q : Bool → Hp → Prop) : Prop := match r with
  | .ok b S' => ∀ m' H', Post K mg B m S H m' S' H' → Q b H'
  | .exc c p S' => ∀ m' H' cls dd, Post K mg B m S H m' S' H' → XcR K mg H' (Fo B m' S') m' c p cls dd → W cls dd σ H'
  | .bad => False
def upT (f : Tx) : TT := fun σ H Q => ∃ B m ρ S, Rl K mg B m H S ∧ RepE K H (Fo B m S) m σ ρ ∧ finT K mg W B m S σ H (f ρ S) Q
end
section
variable {K : PySem.W.Frag} {mg : Str → Option Value} {W : WX} {B : Addr → Prop} {m m' m1 : List Addr} {S S' S1 : Sto} {H H' H1 : Hp} {σ : L2.St} {ρ : Ev} {E : Ends}
theorem finT.later (p : Post K mg B m S H m1 S1 H1) {r : R Bool} {Q : Bool → Hp → Prop} (h : finT K mg W B m S σ H r Q) : finT K mg W B m1 S1 σ H1 r Q := by
  cases r with
  | ok d S' => exact fun m' H' q => h m' H' (p.trans q)
  | exc c p' S' => exact fun m' H' cls dd q => h m' H' cls dd (p.trans q)
  | bad => exact h
theorem finT.mono {r : R Bool} {Q Q' : Bool → Hp → Prop} (h : finT K mg W B m S σ H r Q) (k : ∀ v H, Q v H → Q' v H) : finT K mg W B m S σ H r Q' := by
  cases r with
  | ok d S' => exact fun m' H' p => k _ _ (h m' H' p)
  | exc c p' S' => exact h
  | bad => exact h
theorem fin.bindT {r : R D} {g : D → Sto → R Bool} {Q : Bool → Hp → Prop} (h : finT K mg W B m S σ H (r.bind g) Q) :
    fin K mg W B m S σ H r (fun v H1 => ∃ m1 S1 d, Post K mg B m S H m1 S1 H1 ∧ Rep K H1 (Fo B m1 S1) m1 v d ∧ finT K mg W B m1 S1 σ H1 (g d S1) Q) := by
  cases r with
  | ok d S' => exact fun m' H' v p r => ⟨m', S', d, p, r, finT.later p h⟩
  | exc c p' S' => exact h
  | bad => exact h
theorem finT.bindT {r : R Bool} {g : Bool → Sto → R Bool} {Q : Bool → Hp → Prop} (h : finT K mg W B m S σ H (r.bind g) Q) :
    finT K mg W B m S σ H r (fun b H1 => ∃ m1 S1, Post K mg B m S H m1 S1 H1 ∧ finT K mg W B m1 S1 σ H1 (g b S1) Q) := by
  cases r with
  | ok d S' => exact fun m' H' p => ⟨m', S', p, finT.later p h⟩
  | exc c p' S' => exact h
  | bad => exact h
theorem finT.bindS {r : R Bool} {g : Bool → Sto → RS} (re : RepE K H (Fo B m S) m σ ρ) (rl : Rl K mg B m H S) (h : finS K mg W B m S H (r.bindS ρ g) E) :
    finT K mg W B m S σ H r (fun b H1 => ∃ m1 S1, Post K mg B m S H m1 S1 H1 ∧ finS K mg W B m1 S1 H1 (g b S1) E) := by
  cases r with
  | ok d S' => exact fun m' H' p => ⟨m', S', p, finS.later p h⟩
  | exc c p' S' => exact fun m' H' cls dd p x => h m' H' σ cls dd p (re.kp (p.kp rl)) x
  | bad => exact h
theorem finT.bind {r : R Bool} {g : Bool → Sto → R D} {Q : VK} (h : fin K mg W B m S σ H (r.bind g) Q) :
    finT K mg W B m S σ H r (fun b H1 => ∃ m1 S1, Post K mg B m S H m1 S1 H1 ∧ fin K mg W B m1 S1 σ H1 (g b S1) Q) := by
  cases r with
  | ok d S' => exact fun m' H' p => ⟨m', S', p, fin.later p h⟩
  | exc c p' S' => exact h
  | bad => exact h
end
def TV (X : Cx) (W : WX) (e : Expr) (f : Tx) : Prop := PT X e (upT X.K X.mg W f)
def WV (X : Cx) (W : WX) (e : Expr) (f : Tx) : Prop := PW X e (upT X.K X.mg W f)
theorem pt_imp {X : Cx} {e : Expr} {t t' : TT} (h : PT X e t) (k : ∀ σ H Q, t' σ H Q → t σ H Q) : PT X e t' := ⟨fun pins s σ H Q I q => h.run pins s σ H Q I (k σ H Q q)⟩
theorem pw_imp {X : Cx} {e : Expr} {t t' : TT} (h : PW X e t) (k : ∀ σ H Q, t' σ H Q → t σ H Q) : PW X e t' := ⟨fun wh pins s σ H Q I q => h.run wh pins s σ H Q I (k σ H Q q)⟩
section
variable {X : Cx} {W : WX} {e e2 : Expr} {es : List Expr} {f : Ex} {t u : Tx} {pos : Pos}
theorem tval_of {K : PySem.W.Frag} {mg : Str → Option Value} {σ : L2.St} {H : Hp} {Q : Bool → Hp → Prop} (h : upT K mg W (tVal f) σ H Q) : up K mg W f σ H fun x H1 => ∃ c, x = .bl c ∧ Q c H1 := by
  obtain ⟨B, m, ρ, S, r, re, g⟩ := h
  refine ⟨B, m, ρ, S, r, re, fin.mono (fin.bindT g) fun v H1 => ?_⟩
  rintro ⟨m1, S1, d, p, q, g1⟩
  cases d with
  | bl b => cases q; exact ⟨b, rfl, g1 m1 H1 (Post.refl p.rl)⟩
  | _ => exact g1.elim
/-- an expression whose value is a truth -/
theorem tv_val (h : EV X W e f) (he : ∀ whole, isTrue e X.env whole = (do let v ← whole; standAt e.pos; holding [v] (truthy v)) := by intro _; rfl) : TV X W e (tVal f) := pt_imp (pt_val h he) fun σ H Q h => tval_of h
theorem tv_cmp {op : CmpOp} {a b : Expr} {fa fb : Ex} {g : D → D → Option D} (ho : OpR X (compareOp op) (rG2 X.K g)) (ha : EV X W a fa) (hb : EV X W b fb) (hm : behindInMarks op b = false) : TV X W (.Compare a [op] [b] pos) (tVal (eOp2 g fa fb)) := by
  refine pt_imp (pt_cmpR ho ha hb hm) fun σ H Q h => ?_
  obtain ⟨B, m, ρ, S, r, re, g⟩ := tval_of h
  exact two_of ⟨B, m, ρ, S, r, re, g⟩
theorem tv_not (h : TV X W e t) : TV X W (.UnaryOp .Not e pos) (tNotX t) := by
  refine pt_imp (pt_not h) fun σ H Q h => ?_
  obtain ⟨B, m, ρ, S, r, re, g⟩ := h
  refine ⟨B, m, ρ, S, r, re, finT.mono (finT.bindT g) fun b H1 => ?_⟩
  rintro ⟨m1, S1, p, g1⟩
  exact g1 m1 H1 (Post.refl p.rl)
theorem wv_and1 (h : TV X W e t) : WV X W (.BoolOp .And [e] pos) t := pw_and1 h
theorem wv_or1 (h : TV X W e t) : WV X W (.BoolOp .Or [e] pos) t := pw_or1 h
theorem wv_and (h : TV X W e t) (h2 : WV X W (.BoolOp .And (e2 :: es) pos) u) : WV X W (.BoolOp .And (e :: e2 :: es) pos) (tAndX t u) := by
  refine pw_imp (pw_and h h2) fun σ H Q h => ?_
  obtain ⟨B, m, ρ, S, r, re, g⟩ := h
  refine ⟨B, m, ρ, S, r, re, finT.mono (finT.bindT g) fun b H1 => ?_⟩
  rintro ⟨m1, S1, p, g1⟩
  cases b with
  | true =>
    rw [if_pos rfl] at g1 ⊢
    exact ⟨B, m1, ρ, S1, p.rl, re.kp (p.kp r), g1⟩
  | false =>
    rw [if_neg Bool.false_ne_true] at g1 ⊢
    exact g1 m1 H1 (Post.refl p.rl)
theorem wv_or (h : TV X W e t) (h2 : WV X W (.BoolOp .Or (e2 :: es) pos) u) : WV X W (.BoolOp .Or (e :: e2 :: es) pos) (tOrX t u) := by
  refine pw_imp (pw_or h h2) fun σ H Q h => ?_
  obtain ⟨B, m, ρ, S, r, re, g⟩ := h
  refine ⟨B, m, ρ, S, r, re, finT.mono (finT.bindT g) fun b H1 => ?_⟩
  rintro ⟨m1, S1, p, g1⟩
  cases b with
  | false =>
    rw [if_neg Bool.false_ne_true] at g1 ⊢
    exact ⟨B, m1, ρ, S1, p.rl, re.kp (p.kp r), g1⟩
  | true =>
    rw [if_pos rfl] at g1 ⊢
    exact g1 m1 H1 (Post.refl p.rl)
theorem tv_w (h : WV X W e t) : TV X W e t := PW.pt h
end
/-- a test as a value -/
def eAndX (a b : Ex) : Ex := fun ρ S => (a ρ S).bind fun d S => match d with
  | .bl true => b ρ S
  | .bl false => .ok (.bl false) S
  | _ => .bad
def eOrX (a b : Ex) : Ex := fun ρ S => (a ρ S).bind fun d S => match d with
  | .bl true => .ok (.bl true) S
  | .bl false => b ρ S
  | _ => .bad
def eNotX (a : Ex) : Ex := fun ρ S => (a ρ S).bind fun d S => match d with
  | .bl b => .ok (.bl (!b)) S
  | _ => .bad
def eIfX (t : Tx) (a b : Ex) : Ex := fun ρ S => (t ρ S).bind fun c S => if c = true then a ρ S else b ρ S
def sIf (t : Tx) (a b : Sx) : Sx := fun ρ S => (t ρ S).bindS ρ fun c S => if c = true then a ρ S else b ρ S
section
variable {X : Cx} {W : WX} {e e2 c : Expr} {es : List Expr} {f g : Ex} {t u : Tx} {pos : Pos} {op : BoolOp}
theorem ev_ifx (hc : TV X W c t) (ha : EV X W e f) (hb : EV X W e2 g) : EV X W (.IfExp c e e2 pos) (eIfX t f g) := by
  refine pe_imp (pe_ifExp hc ha hb) fun σ H Q h => ?_
  obtain ⟨B, m, ρ, S, r, re, k⟩ := h
  refine ⟨B, m, ρ, S, r, re, finT.mono (finT.bind k) fun b H1 => ?_⟩
  rintro ⟨m1, S1, p, g1⟩
  cases b with
  | true => rw [if_pos rfl] at g1 ⊢; exact ⟨B, m1, ρ, S1, p.rl, re.kp (p.kp r), g1⟩
  | false => rw [if_neg Bool.false_ne_true] at g1 ⊢; exact ⟨B, m1, ρ, S1, p.rl, re.kp (p.kp r), g1⟩
theorem sv_if {a b : List Stmt} {sa sb : Sx} (hc : TV X W c t) (ha : SVs X W a sa) (hb : SVs X W b sb) : SV X W (.If c a b pos) (sIf t sa sb) := by
  refine ps_imp (ps_if hc ha hb) fun E σ H h => ?_
  obtain ⟨B, m, ρ, S, r, re, k⟩ := h
  refine ⟨B, m, ρ, S, r, re, finT.mono (finT.bindS re r k) fun b H1 => ?_⟩
  rintro ⟨m1, S1, p, g1⟩
  cases b with
  | true => rw [if_pos rfl] at g1 ⊢; exact ⟨B, m1, ρ, S1, p.rl, re.kp (p.kp r), g1⟩
  | false => rw [if_neg Bool.false_ne_true] at g1 ⊢; exact ⟨B, m1, ρ, S1, p.rl, re.kp (p.kp r), g1⟩
end
end DL
set_option Elab.async false
set_option linter.all false
set_option maxRecDepth 100000
set_option maxHeartbeats 4000000
namespace DL
open PySem PySem.Spec PyProof.Rows L2
def unK : D → Option Key
  | .int i => some (.inl i)
  | .str x => some (.inr x)
  | _ => none
theorem unK_keyD (k : Key) : unK (keyD k) = some k := by cases k <;> rfl
def valD (kvs : List (D × D)) (k : Key) : Option D := (kvs.find? fun p => decide (unK p.1 = some k)).map (·.2)
def putD (kvs : List (D × D)) (k : Key) (d : D) : List (D × D) :=
  if (kvs.any fun p => decide (unK p.1 = some k)) = true then kvs.map (fun p => if unK p.1 = some k then (p.1, d) else p) else kvs ++ [(keyD k, d)]
def dropD (kvs : List (D × D)) (k : Key) : List (D × D) := kvs.filter fun p => decide (unK p.1 ≠ some k)
inductive KR (K : PySem.W.Frag) (H : Hp) (Fb : Addr → Prop) (m : List Addr) : List (Key × V) → List (D × D) → Prop
  | nil : KR K H Fb m [] []
  | cons {k : Key} {v : V} {d : D} {kv : List (Key × V)} {kvs : List (D × D)} : Rep K H Fb m v d → KR K H Fb m kv kvs → KR K H Fb m ((k, v) :: kv) ((keyD k, d) :: kvs)
section
variable {K : PySem.W.Frag} {H H' : Hp} {Fb Fb' : Addr → Prop} {m m' : List Addr}
theorem kr_of : ∀ {kv : List (Key × V)} {kvs : List (D × D)}, kvs.map (·.1) = kv.map (fun p => keyD p.1) → RepA K H Fb m (kv.map (·.2)) (kvs.map (·.2)) → KR K H Fb m kv kvs
  | [], [], _, _ => .nil
  | [], _ :: _, e, _ => by simp at e
  | _ :: _, [], e, _ => by simp at e
  | (k, v) :: kv, (x, d) :: kvs, e, q => by
    simp only [List.map_cons, List.cons.injEq] at e
    obtain ⟨rfl, e⟩ := e
    cases q with
    | cons q1 q2 => exact .cons q1 (kr_of e q2)
theorem KR.keys {kv : List (Key × V)} {kvs : List (D × D)} (h : KR K H Fb m kv kvs) : kvs.map (·.1) = kv.map (fun p => keyD p.1) := by
  induction h with
  | nil => rfl
  | cons _ _ ih => simp [ih]
theorem KR.vals {kv : List (Key × V)} {kvs : List (D × D)} (h : KR K H Fb m kv kvs) : RepA K H Fb m (kv.map (·.2)) (kvs.map (·.2)) := by
  induction h with
  | nil => exact .nil
  | cons r _ ih => exact .cons r ih
theorem KR.length {kv : List (Key × V)} {kvs : List (D × D)} (h : KR K H Fb m kv kvs) : kv.length = kvs.length := by
  induction h with
  | nil => rfl
  | cons _ _ ih => simp [ih]
theorem KR.kp (k : Kp H H' Fb Fb' m m') {kv : List (Key × V)} {kvs : List (D × D)} (h : KR K H Fb m kv kvs) : KR K H' Fb' m' kv kvs := by
  induction h with
  | nil => exact .nil
  | cons r _ ih => exact .cons (r.kp k) ih
theorem KR.val {kv : List (Key × V)} {kvs : List (D × D)} (h : KR K H Fb m kv kvs) (k : Key) : (∃ v d, valV kv k = some v ∧ valD kvs k = some d ∧ Rep K H Fb m v d) ∨ (valV kv k = none ∧ valD kvs k = none) := by
  induction h with
  | nil => exact .inr ⟨rfl, rfl⟩
  | @cons j v d kv kvs r h ih =>
    by_cases e : j = k
    · refine .inl ⟨v, d, valV_pos e, ?_, r⟩
      simp [valD, List.find?_cons, unK_keyD, e]
    · have e1 : valD ((keyD j, d) :: kvs) k = valD kvs k := by simp [valD, List.find?_cons, unK_keyD, e]
      rw [valV_neg (p := (j, v)) e, e1]
      exact ih
theorem KR.some {kv : List (Key × V)} {kvs : List (D × D)} (h : KR K H Fb m kv kvs) {k : Key} {d : D} (e : valD kvs k = some d) : ∃ v, valV kv k = some v ∧ Rep K H Fb m v d := by
  rcases h.val k with ⟨v, d', e1, e2, r⟩ | ⟨_, e2⟩
  · rw [e] at e2; cases e2; exact ⟨v, e1, r⟩
  · rw [e] at e2; cases e2
theorem KR.none {kv : List (Key × V)} {kvs : List (D × D)} (h : KR K H Fb m kv kvs) {k : Key} (e : valD kvs k = none) : valV kv k = none := by
  rcases h.val k with ⟨v, d', e1, e2, r⟩ | ⟨e1, _⟩
  · rw [e] at e2; cases e2
  · exact e1
theorem KR.isSome {kv : List (Key × V)} {kvs : List (D × D)} (h : KR K H Fb m kv kvs) (k : Key) : (valV kv k).isSome = (valD kvs k).isSome := by
  rcases h.val k with ⟨v, d', e1, e2, r⟩ | ⟨e1, e2⟩ <;> rw [e1, e2] <;> rfl
theorem KR.any {kv : List (Key × V)} {kvs : List (D × D)} (h : KR K H Fb m kv kvs) (k : Key) : (kv.any fun p => decide (p.1 = k)) = (kvs.any fun p => decide (unK p.1 = .some k)) := by
  induction h with
  | nil => rfl
  | cons r h ih => simp [List.any_cons, unK_keyD, ih]
theorem KR.repl {kv : List (Key × V)} {kvs : List (D × D)} (h : KR K H Fb m kv kvs) (k : Key) {v : V} {d : D} (r : Rep K H Fb m v d) : KR K H Fb m (kv.map fun p => if p.1 = k then (p.1, v) else p) (kvs.map fun p => if unK p.1 = .some k then (p.1, d) else p) := by
  induction h with
  | nil => exact .nil
  | @cons j w e kv kvs rw h ih =>
    simp only [List.map_cons, unK_keyD, Option.some.injEq]
    by_cases ej : j = k
    · rw [if_pos ej, if_pos ej]; exact .cons r ih
    · rw [if_neg ej, if_neg ej]; exact .cons rw ih
theorem KR.snoc {kv : List (Key × V)} {kvs : List (D × D)} (h : KR K H Fb m kv kvs) (k : Key) {v : V} {d : D} (r : Rep K H Fb m v d) : KR K H Fb m (kv ++ [(k, v)]) (kvs ++ [(keyD k, d)]) := by
  induction h with
  | nil => exact .cons r .nil
  | cons rw h ih => exact .cons rw ih
theorem KR.put {kv : List (Key × V)} {kvs : List (D × D)} (h : KR K H Fb m kv kvs) (k : Key) {v : V} {d : D} (r : Rep K H Fb m v d) : KR K H Fb m (putK kv k v) (putD kvs k d) := by
  unfold putK putD
  rw [h.any k]
  split
  · exact h.repl k r
  · exact h.snoc k r
theorem KR.drop {kv : List (Key × V)} {kvs : List (D × D)} (h : KR K H Fb m kv kvs) (k : Key) : KR K H Fb m (dropK kv k) (dropD kvs k) := by
  unfold dropK dropD
  induction h with
  | nil => exact .nil
  | @cons j w e kv kvs rw h ih =>
    by_cases ej : j = k
    · simpa [List.filter_cons, unK_keyD, ej] using ih
    · simp only [List.filter_cons, unK_keyD, ej, Option.some.injEq, ne_eq, not_false_eq_true, decide_true, if_true]
      exact .cons rw ih
theorem Vw.asD {v : V} {kvs : List (D × D)} (h : Vw K H Fb m v (.dic false kvs)) : ∃ a kv, v = .ref a ∧ Rd H a (.dK kv) ∧ kv.length ≤ sizeLine ∧ KR K H Fb m kv kvs := by
  cases h with
  | dK h z e q => exact ⟨_, _, rfl, h, z, kr_of e q⟩
  | oth h => cases h with
    | dK h z e q => exact ⟨_, _, rfl, .inr h, z, kr_of e q⟩
theorem Vw.key {v : V} {d : D} {k : Key} (h : Vw K H Fb m v d) (e : unK d = .some k) : v = kV k := by
  cases d with
  | int i => cases e; cases h.asI; rfl
  | str x => cases e; cases h.asS; rfl
  | _ => simp [unK] at e
theorem Rep.key {v : V} {d : D} {k : Key} (h : Rep K H Fb m v d) (e : unK d = .some k) : v = kV k := Vw.key (.oth h) e
end
/-- what a dict tells of a key -/
def dgetD (x y : D) : Option D := match x with
  | .dic false kvs => (unK y).bind (valD kvs)
  | _ => none
def dhasD (x y : D) : Option Bool := match x with
  | .dic false kvs => (unK y).map fun k => (valD kvs k).isSome
  | _ => none
section
variable {K : PySem.W.Frag} {H : Hp} {Fb : Addr → Prop} {m : List Addr} {x y : V} {dx dy d : D}
theorem dget_ok (vx : Vw K H Fb m x dx) (vy : Vw K H Fb m y dy) (e : dgetD dx dy = some d) : ∃ a w, x = .ref a ∧ DGet H a y (some w) ∧ Rep K H Fb m w d := by
  unfold dgetD at e
  split at e
  · obtain ⟨k, e1, e2⟩ := Option.bind_eq_some_iff.mp e
    obtain ⟨a, kv, rfl, h1, z1, q1⟩ := vx.asD
    obtain ⟨w, e3, r⟩ := q1.some e2
    exact ⟨a, w, rfl, .inl ⟨kv, k, h1, vy.key e1, e3.symm⟩, r⟩
  · cases e
theorem dhas_ok {b : Bool} (vx : Vw K H Fb m x dx) (vy : Vw K H Fb m y dy) (e : dhasD dx dy = some b) : ∃ a o, x = .ref a ∧ DGet H a y o ∧ o.isSome = b := by
  unfold dhasD at e
  split at e
  · obtain ⟨k, e1, rfl⟩ := Option.map_eq_some_iff.mp e
    obtain ⟨a, kv, rfl, h1, z1, q1⟩ := vx.asD
    exact ⟨a, _, rfl, .inl ⟨kv, k, h1, vy.key e1, rfl⟩, q1.isSome k⟩
  · cases e
end
section
variable {X : Cx}
/-- d[y] by values -/
theorem ix_dict (hu : X.A.units + 1 < cLine) : IxR X (fun x y H Q => ∃ a v, x = .ref a ∧ DGet H a y (some v) ∧ Q v H) := by
  intro value slice pins s σ H x y o i Q I rx ry ⟨a, v, ex, g, q⟩ hs
  subst ex
  obtain rfl : o = Value.ref a := rx
  have hT := dict_typeIs I g
  unfold subscriptTail
  refine wpAny_bind ?_
  rw [getitemInPython_of_ne hT.not_modules]
  refine wpAny_bind (wpAny_specialOf hT PySem.F.slot_dict_getitem.lookup ?_)
  have fin : wpAny (model X.prog X.w) X.A (subscripted slice false (.ref a) i) (fun r s₃ => wpAny (model X.prog X.w) X.A (letTemporaryGo value (.ref a) r >>= fun _ => pure r) (EP X pins σ Q) X.xe s₃) X.xe s := by
    rw [hs]
    refine wpAny_operating (d_getItem hu I g ry fun w' s3 I3 rw' => wpAny_bind (wpAny_letTemporaryGo (wpAny_pure ⟨v, H, I3, rw', q⟩)))
  first
    | exact wpAny_pure (wpAny_bind fin)
    | exact wpAny_bind (wpAny_pure (wpAny_bind fin))
    | exact wpAny_bind fin
end
end DL
set_option Elab.async false
set_option linter.all false
set_option maxRecDepth 100000
set_option maxHeartbeats 4000000
namespace DL
open PySem PySem.Spec PyProof.Rows L2
inductive Tg where
  | nm (i : Nat) | tp (ts : List Tg)
mutual
def Tg.put : Tg → D → Ev → Option Ev
  | .nm i, d, ρ => some (ρ.set i (some d))
  | .tp ts, .tup ds, ρ => Tg.puts ts ds ρ
  | .tp _, _, _ => none
def Tg.puts : List Tg → List D → Ev → Option Ev
  | [], [], ρ => some ρ
  | t :: ts, d :: ds, ρ => match t.put d ρ with
    | some ρ' => Tg.puts ts ds ρ'
    | none => none
  | _, _, _ => none
end
mutual
def Tg.rd (K : PySem.W.Frag) : Tg → TG
  | .nm i => gName i
  | .tp ts => gTup K ts.length (Tg.rds K ts)
def Tg.rds (K : PySem.W.Frag) : List Tg → TGs
  | [] => gNil
  | t :: ts => gCons (Tg.rd K t) (Tg.rds K ts)
end
section
variable {K : PySem.W.Frag} {H : Hp} {Fb : Addr → Prop} {m : List Addr}
mutual
theorem Tg.rd_ok : ∀ (t : Tg) {v : V} {d : D} {σ : L2.St} {ρ ρ' : Ev} {Q : L2.St → Hp → Prop}, t.put d ρ = some ρ' → Rep K H Fb m v d → RepE K H Fb m σ ρ → (∀ σ', RepE K H Fb m σ' ρ' → Q σ' H) → Tg.rd K t v σ H Q
  | .nm i, v, d, σ, ρ, ρ', Q, e, r, re, q => by
    simp only [Tg.put, Option.some.injEq] at e
    subst e
    exact q _ (re.set r)
  | .tp ts, v, d, σ, ρ, ρ', Q, e, r, re, q => by
    cases d with
    | tup ds =>
      cases r with
      | tup h z rr =>
        have e' : Tg.puts ts ds ρ = some ρ' := by simpa [Tg.put] using e
        exact ⟨_, _, rfl, h, by rw [rr.length]; exact (Tg.puts_len ts e').symm, Tg.rds_ok ts e' rr re q⟩
    | _ => simp [Tg.put] at e
theorem Tg.puts_len : ∀ (ts : List Tg) {ds : List D} {ρ ρ' : Ev}, Tg.puts ts ds ρ = some ρ' → ts.length = ds.length
  | [], [], _, _, _ => rfl
  | [], _ :: _, _, _, e => by simp [Tg.puts] at e
  | _ :: _, [], _, _, e => by simp [Tg.puts] at e
  | t :: ts, d :: ds, ρ, ρ', e => by
    simp only [Tg.puts] at e
    split at e
    · rename_i ρ1 e1
      simp [Tg.puts_len ts e]
    · cases e
theorem Tg.rds_ok : ∀ (ts : List Tg) {vs : List V} {ds : List D} {σ : L2.St} {ρ ρ' : Ev} {Q : L2.St → Hp → Prop}, Tg.puts ts ds ρ = some ρ' → RepA K H Fb m vs ds → RepE K H Fb m σ ρ → (∀ σ', RepE K H Fb m σ' ρ' → Q σ' H) → Tg.rds K ts vs σ H Q
  | [], vs, ds, σ, ρ, ρ', Q, e, r, re, q => by
    cases ds with
    | nil =>
      cases r
      simp only [Tg.puts, Option.some.injEq] at e
      subst e
      exact ⟨rfl, q σ re⟩
    | cons _ _ => simp [Tg.puts] at e
  | t :: ts, vs, ds, σ, ρ, ρ', Q, e, r, re, q => by
    cases ds with
    | nil => simp [Tg.puts] at e
    | cons d ds =>
      cases r with
      | cons r rr =>
        simp only [Tg.puts] at e
        split at e
        · rename_i ρ1 e1
          exact ⟨_, _, rfl, Tg.rd_ok t e1 r re fun σ' re' => Tg.rds_ok ts e rr re' q⟩
        · cases e
end
end
/-- the target of the text is this one -/
def GV (X : Cx) (e : Expr) (t : Tg) : Prop := PG X e (Tg.rd X.K t)
def GVs (X : Cx) (es : List Expr) (ts : List Tg) : Prop := PGs X es (Tg.rds X.K ts)
section
variable {X : Cx} {pos : Pos} {e : Expr} {es : List Expr} {t : Tg} {ts : List Tg}
theorem gv_nm {i : Nat} {x : Str} (hN : X.N.Nodup) (hi : X.N[i]? = some x) (hx : Loc X.env.scope x) (hf : X.fn x = true ∨ X.env.scope.names.lookup x = some .local := by first | exact .inl rfl | exact .inr rfl | assumption) : GV X (.Name x pos) (.nm i) := pg_name hN hi hx hf
theorem gv_nil : GVs X [] [] := pgs_nil
theorem gv_cons (h : GV X e t) (hr : GVs X es ts) (hs : (assignEach (e :: es) X.env).map (·.2) = assign e X.env :: (assignEach es X.env).map (·.2) := by rfl) : GVs X (e :: es) (t :: ts) := pgs_cons h hr hs
theorem gv_tp {k : Nat} (hc : X.calm = true) (h : GVs X es ts) (hn : (assignEach es X.env).length = ts.length := by rfl) (hst : (assignEach es X.env).findIdx? (·.1) = none := by rfl) : GV X (.Tuple es k pos) (.tp ts) := pg_tup hc h hn hst
end
def sAsgT (t : Tg) (e : Ex) : Sx := fun ρ S => (e ρ S).bindS ρ fun d S => match t.put d ρ with
  | some ρ' => .fl (.nx ρ') S
  | none => .bad
section
variable {X : Cx} {W : WX} {tg e : Expr} {fe : Ex} {t : Tg} {pos : Pos}
theorem sv_asgT (h : EV X W e fe) (hg : GV X tg t) (hs : swapsWithSole [tg] e pos.line X.env = pure false := by rfl) (hw : swappedStores [tg] e X.env = pure none := by rfl)
    (h1 : (assignEach [tg] X.env).map (·.2) = [assign tg X.env] := by rfl) : SV X W (.Assign [tg] e pos) (sAsgT t fe) := by
  refine ps_imp (ps_asg h hg hs hw h1) fun E σ H h => ?_
  obtain ⟨B, m, ρ, S, r, re, f⟩ := upS_one (g := fun d ρ S => match t.put d ρ with | some ρ' => .fl (.nx ρ') S | none => .bad) h
  refine ⟨B, m, ρ, S, r, re, f.mono fun x H1 => ?_⟩
  rintro ⟨B, m, ρ, S, dx, r, re, rx, f⟩
  split at f
  · rename_i ρ' e1
    exact Tg.rd_ok t e1 rx re fun σ' re' => f m H1 σ' (Post.refl r) re'
  · exact f.elim
end
theorem Kp.trans {H H1 H2 : Hp} {F F1 F2 : Addr → Prop} {m m1 m2 : List Addr} (p : Kp H H1 F F1 m m1) (q : Kp H1 H2 F1 F2 m1 m2) : Kp H H2 F F2 m m2 :=
  ⟨fun a xs h f => q.lst a xs (p.lst a xs h f) (p.fb a _ (.inl h) f), fun a u h f => q.obj a u (p.obj a u h f) (p.fb a u h f), fun a o f h => q.fix a o f (p.fix a o f h), fun a u h f => q.fb a u (p.obj a u h f) (p.fb a u h f), fun n a h => q.ix n a (p.ix n a h)⟩
def ItR (K : PySem.W.Frag) (H : Hp) (Fb : Addr → Prop) (m : List Addr) (J : It) (xs : List D) : Prop :=
  ∀ H2 Fb2 m2, Kp H H2 Fb Fb2 m m2 → (∀ i, i < xs.length → J.go i H2 ∧ ∀ x H3, J.yld i H2 x H3 → ∃ d, xs[i]? = some d ∧ Same H2 H3 ∧ Rep K H3 Fb2 m2 x d) ∧ (∀ i, xs.length ≤ i → J.stop i H2)
abbrev Ix := Ev → Sto → R (List D)
section
variable (K : PySem.W.Frag) (mg : Str → Option Value) (W : WX)
def finI (B : Addr → Prop) (m : List Addr) (S : Sto) (σ : L2.St) (H : Hp) (r : R (List D)) (Q : It → Hp → Prop) : Prop := match r with
  | .ok xs S' => ∀ m' H' J, Post K mg B m S H m' S' H' → ItR K H' (Fo B m' S') m' J xs → Q J H'
  | .exc c p S' => ∀ m' H' cls dd, Post K mg B m S H m' S' H' → XcR K mg H' (Fo B m' S') m' c p cls dd → W cls dd σ H'
  | .bad => False
def upI (f : Ix) : TI := fun σ H Q => ∃ B m ρ S, Rl K mg B m H S ∧ RepE K H (Fo B m S) m σ ρ ∧ finI K mg W B m S σ H (f ρ S) Q
end
def IV (X : Cx) (W : WX) (tg iter : Expr) (f : Ix) : Prop := PI X tg iter (upI X.K X.mg W f)
theorem pi_imp {X : Cx} {tg e : Expr} {t t' : TI} (h : PI X tg e t) (k : ∀ σ H Q, t' σ H Q → t σ H Q) : PI X tg e t' := ⟨fun pins s σ H Q I q => h.run pins s σ H Q I (k σ H Q q)⟩
section
variable {K : PySem.W.Frag} {mg : Str → Option Value} {W : WX} {B : Addr → Prop} {m m' m1 : List Addr} {S S' S1 : Sto} {H H' H1 : Hp} {σ : L2.St} {ρ : Ev} {E : Ends}
theorem finI.later (p : Post K mg B m S H m1 S1 H1) {r : R (List D)} {Q : It → Hp → Prop} (h : finI K mg W B m S σ H r Q) : finI K mg W B m1 S1 σ H1 r Q := by
  cases r with
  | ok d S' => exact fun m' H' v q => h m' H' v (p.trans q)
  | exc c p' S' => exact fun m' H' cls dd q => h m' H' cls dd (p.trans q)
  | bad => exact h
theorem finI.mono {r : R (List D)} {Q Q' : It → Hp → Prop} (h : finI K mg W B m S σ H r Q) (k : ∀ v H, Q v H → Q' v H) : finI K mg W B m S σ H r Q' := by
  cases r with
  | ok d S' => exact fun m' H' v p r => k _ _ (h m' H' v p r)
  | exc c p' S' => exact h
  | bad => exact h
theorem fin.bindI {r : R D} {g : D → Sto → R (List D)} {Q : It → Hp → Prop} (h : finI K mg W B m S σ H (r.bind g) Q) :
    fin K mg W B m S σ H r (fun v H1 => ∃ m1 S1 d, Post K mg B m S H m1 S1 H1 ∧ Rep K H1 (Fo B m1 S1) m1 v d ∧ finI K mg W B m1 S1 σ H1 (g d S1) Q) := by
  cases r with
  | ok d S' => exact fun m' H' v p r => ⟨m', S', d, p, r, finI.later p h⟩
  | exc c p' S' => exact h
  | bad => exact h
theorem finI.bindS {r : R (List D)} {g : List D → Sto → RS} (re : RepE K H (Fo B m S) m σ ρ) (rl : Rl K mg B m H S) (h : finS K mg W B m S H (r.bindS ρ g) E) :
    finI K mg W B m S σ H r (fun J H1 => ∃ m1 S1 xs, Post K mg B m S H m1 S1 H1 ∧ ItR K H1 (Fo B m1 S1) m1 J xs ∧ finS K mg W B m1 S1 H1 (g xs S1) E) := by
  cases r with
  | ok d S' => exact fun m' H' J p q => ⟨m', S', d, p, q, finS.later p h⟩
  | exc c p' S' => exact fun m' H' cls dd p x => h m' H' σ cls dd p (re.kp (p.kp rl)) x
  | bad => exact h
end
/-- a tuple, or a list that nobody writes meanwhile -/
def iSeq (e : Ex) : Ix := fun ρ S => (e ρ S).bind fun d S => match d with
  | .tup xs => .ok xs S
  | .lst xs => .ok xs S
  | .dic false kvs => .ok (kvs.map (·.1)) S
  | _ => .bad
def iRng (a b : Int) : List D := (List.range (b - a).toNat).map fun k => .int (a + (k : Nat))
def iRng1X (e : Ex) : Ix := fun ρ S => (e ρ S).bind fun d S => match d with
  | .int j => if -(2 ^ 62) ≤ j ∧ j < 2 ^ 62 then .ok (iRng 0 j) S else .bad
  | _ => .bad
def iRng2X (e e2 : Ex) : Ix := fun ρ S => (e ρ S).bind fun d S => (e2 ρ S).bind fun d2 S => match d, d2 with
  | .int i, .int j => if -(2 ^ 62) ≤ i ∧ i < 2 ^ 62 ∧ -(2 ^ 62) ≤ j ∧ j < 2 ^ 62 then .ok (iRng i j) S else .bad
  | _, _ => .bad
section
variable {X : Cx} {W : WX} {tg e e2 : Expr} {fe fe2 : Ex} {pos p : Pos}
theorem itr_list {K : PySem.W.Frag} {mg : Str → Option Value} {B : Addr → Prop} {m : List Addr} {S : Sto} {H : Hp} {a : Addr} {vs : List V} {xs : List D} (r : Rl K mg B m H S) (h : H a = some (.lst vs)) (nf : ¬ Fo B m S a) (q : RepA K H (Fo B m S) m vs xs) : ItR K H (Fo B m S) m (Itl K a) xs := by
  intro H2 F2 m2 p
  have h2 : SqL K H2 a vs := SqL.of (p.lst _ _ h nf)
  have q2 := q.kp p
  refine ⟨fun i hi => ?_, fun i hi => ⟨vs, h2, by rw [q.length]; exact hi⟩⟩
  obtain ⟨v, ev, rv⟩ := q2.get (d := xs[i]) (List.getElem?_eq_getElem hi)
  refine ⟨⟨vs, v, h2, ev⟩, fun x H3 y => ?_⟩
  obtain ⟨e, y⟩ := y
  subst e
  have := y vs h2
  rw [ev] at this; cases this
  exact ⟨_, List.getElem?_eq_getElem hi, Same.refl _, rv⟩
theorem itr_tup {K : PySem.W.Frag} {mg : Str → Option Value} {B : Addr → Prop} {m : List Addr} {S : Sto} {H : Hp} {a : Addr} {vs : List V} {xs : List D} (r : Rl K mg B m H S) (h : SqT K H a vs) (q : RepA K H (Fo B m S) m vs xs) : ItR K H (Fo B m S) m (Itt K a) xs := by
  intro H2 F2 m2 p
  have h2 : SqT K H2 a vs := p.sqT h
  have q2 := q.kp p
  refine ⟨fun i hi => ?_, fun i hi => ⟨vs, h2, by rw [q.length]; exact hi⟩⟩
  obtain ⟨v, ev, rv⟩ := q2.get (d := xs[i]) (List.getElem?_eq_getElem hi)
  refine ⟨⟨vs, v, h2, ev⟩, fun x H3 y => ?_⟩
  obtain ⟨e, y⟩ := y
  subst e
  have := y vs h2
  rw [ev] at this; cases this
  exact ⟨_, List.getElem?_eq_getElem hi, Same.refl _, rv⟩
theorem itr_rng {K : PySem.W.Frag} {Fb : Addr → Prop} {m : List Addr} {H : Hp} {a b : Int} : ItR K H Fb m (Itr a (b - a).toNat) (iRng a b) := by
  intro H2 F2 m2 p
  refine ⟨fun i hi => ⟨?_, fun x H3 y => ?_⟩, fun i hi => ?_⟩
  · show i < (b - a).toNat
    simpa [iRng] using hi
  · obtain ⟨e, y⟩ := y
    subst e y
    have hi' : i < (b - a).toNat := by simpa [iRng] using hi
    exact ⟨.int (a + (i : Nat)), by simp only [iRng, List.getElem?_map, List.getElem?_range hi', Option.map_some], Same.refl _, .int _⟩
  · show (b - a).toNat ≤ i
    simpa [iRng] using hi
theorem rep_key {K : PySem.W.Frag} {H : Hp} {Fb : Addr → Prop} {m : List Addr} (k : Key) : Rep K H Fb m (kV k) (keyD k) := by
  cases k
  · exact .int _
  · exact .str _
theorem itr_keys {K : PySem.W.Frag} {H : Hp} {Fb : Addr → Prop} {m : List Addr} {a : Addr} {o : Obj} {kv : List (Key × V)} {kvs : List (D × D)} (h : H a = some (.frz o (.dK kv))) (q : KR K H Fb m kv kvs) : ItR K H Fb m (Itk a o kv) (kvs.map (·.1)) := by
  intro H2 F2 m2 p
  have h2 := p.fix _ (.frz o (.dK kv)) trivial h
  have hl := q.length
  refine ⟨fun i hi => ⟨⟨h2, by rw [List.length_map] at hi; omega⟩, fun x H3 y => ?_⟩, fun i hi => ⟨h2, by rw [List.length_map] at hi; omega⟩⟩
  obtain ⟨rfl, k, v, ek, rfl⟩ := y
  refine ⟨keyD k, ?_, Same.refl _, rep_key k⟩
  rw [q.keys, List.getElem?_map, ek]
  rfl
theorem upI_one {K : PySem.W.Frag} {mg : Str → Option Value} {σ : L2.St} {H : Hp} {fa : Ex} {g : D → Ev → Sto → R (List D)} {Q : It → Hp → Prop} (h : upI K mg W (fun ρ S => (fa ρ S).bind fun x S => g x ρ S) σ H Q) :
    up K mg W fa σ H fun x H1 => ∃ B m ρ S dx, Rl K mg B m H1 S ∧ RepE K H1 (Fo B m S) m σ ρ ∧ Rep K H1 (Fo B m S) m x dx ∧ finI K mg W B m S σ H1 (g dx ρ S) Q := by
  obtain ⟨B, m, ρ, S, r, re, f⟩ := h
  refine ⟨B, m, ρ, S, r, re, fin.mono (fin.bindI f) fun v H1 => ?_⟩
  rintro ⟨m1, S1, d, p, q, f1⟩
  exact ⟨B, m1, ρ, S1, d, p.rl, re.kp (p.kp r), q, f1⟩
theorem iv_seq (h : EV X W e fe) : IV X W tg e (iSeq fe) := by
  refine ⟨fun pins s σ H Q I h0 => ?_⟩
  -- whichever it is: told by the value
  have h1 := upI_one (g := fun d ρ S => match d with | .tup xs => .ok xs S | .lst xs => .ok xs S | .dic false kvs => .ok (kvs.map (·.1)) S | _ => .bad) h0
  refine thn (h.run pins s σ H _ I h1) fun v s1 ⟨x, H1, I1, r1, B, m, ρ, S, dx, r, re, rx, f⟩ => ?_
  cases dx with
  | tup xs =>
    cases rx with
    | @tup a vs _ h z q =>
      cases r1
      obtain ⟨its, rv, p, hz⟩ := I1.tuple h.sq
      refine wpAny_pyIter_tuple (show s1.heap.IsTuple a its.toArray from p) ?_
      refine ⟨s1.heap.objs.size, [s1.heap.objs.size], _, _, H1, rfl, I1.kept (t' := s1.toks) fun b o e => Heap.get?_push_of_some _ e, turn_tuple a _, ⟨_, Heap.get?_push_size _ rfl, rfl, rfl⟩, fun b hb => ?_, f m H1 _ (Post.refl r) (itr_tup r h q)⟩
      have e : b = s1.heap.objs.size := by simpa using hb
      subst e
      exact I1.fpOk (Nat.le_refl _) (I1.hok.fresh (Nat.le_refl _))
  | lst xs =>
    cases rx with
    | @lst a vs _ h nf z q =>
      cases r1
      obtain ⟨its, rv, p, hz⟩ := I1.list (SqL.of (K := X.K) h)
      refine wpAny_pyIter_list p.isList ?_
      refine ⟨s1.heap.objs.size, [s1.heap.objs.size], _, _, H1, rfl, I1.kept (t' := s1.toks) fun b o e => Heap.get?_push_of_some _ e, turn_list a _, ⟨_, Heap.get?_push_size _ rfl, rfl, rfl⟩, fun b hb => ?_, f m H1 _ (Post.refl r) (itr_list r h nf q)⟩
      have e : b = s1.heap.objs.size := by simpa using hb
      subst e
      exact I1.fpOk (Nat.le_refl _) (I1.hok.fresh (Nat.le_refl _))
  | dic t kvs =>
    cases t with
    | true => exact f.elim
    | false =>
      cases rx with
      | @dK a kv _ h z e q =>
        obtain ⟨o, hd⟩ := h
        obtain rfl : v = Value.ref a := r1
        obtain ⟨hs, hgd, hx, es, ep, vs, hdt, hsz, kv', hm⟩ := I1.frzK hd
        refine iter_keys hs hgd hx hdt (pi_one (tk := s1.toks) I1 _ (turn_keys _ hdt) ⟨_, Heap.get?_push_size _ rfl, rfl, ?_⟩ (f m H1 _ (Post.refl r) (itr_keys hd (kr_of e q))))
        rw [hsz] <;> rfl
  | _ => exact f.elim
theorem iv_rng1 (hg : Gl X "range") (hm : X.mg "range" = none) (ha : EV X W e fe) (hs : starEach [e] X.env = [(false, eval e X.env)] := by rfl) : IV X W tg (.Call (.Name "range" p) [e] [] pos) (iRng1X fe) := by
  refine pi_imp (pi_range1 hg hm (pa_cons ha pa_nil hs) hs) fun σ H Q h => ?_
  obtain ⟨B, m, ρ, S, r, re, f⟩ := upI_one (g := fun d ρ S => match d with | .int j => if -(2 ^ 62) ≤ j ∧ j < 2 ^ 62 then .ok (iRng 0 j) S else .bad | _ => .bad) h
  refine ⟨B, m, ρ, S, r, re, f.mono fun x H1 => ?_⟩
  rintro ⟨B, m, ρ, S, dx, r, re, rx, f⟩
  cases dx with
  | int j =>
    cases rx
    dsimp only at f
    split at f
    · rename_i hj
      refine ⟨j, rfl, hj.1, hj.2, f m H1 _ (Post.refl r) ?_⟩
      have := itr_rng (K := X.K) (Fb := Fo B m S) (m := m) (H := H1) (a := 0) (b := j)
      rwa [show (j - 0) = j by omega] at this
    · exact f.elim
  | _ => exact f.elim
end
def loopS (t : Tg) (b : Sx) : List D → Sx
  | [], ρ, S => .fl (.nx ρ) S
  | d :: ds, ρ, S => match t.put d ρ with
    | none => .bad
    | some ρ1 => match b ρ1 S with
      | .fl (.nx ρ2) S2 => loopS t b ds ρ2 S2
      | .fl (.ct ρ2) S2 => loopS t b ds ρ2 S2
      | .fl (.bk ρ2) S2 => .fl (.nx ρ2) S2
      | .fl (.rt d) S2 => .fl (.rt d) S2
      | .exc c p ρ2 S2 => .exc c p ρ2 S2
      | .bad => .bad
def sFor (it : Ix) (t : Tg) (b : Sx) : Sx := fun ρ S => (it ρ S).bindS ρ fun xs S => loopS t b xs ρ S
section
variable {X : Cx} {W : WX} {tg iter : Expr} {fi : Ix} {t : Tg} {body : List Stmt} {b : Sx} {pos : Pos}
theorem sv_for (hp : PassesOwn (model X.prog X.w) X.A X.env X.xe) (hc : X.calm = true) (hi : IV X W tg iter fi) (hg : GV X tg t) (hb : SVs X W body b) (hs : ∀ x, foldedSetIterable iter X.env x = pure x := by intro _; rfl) :
    SV X W (.For tg iter body [] pos) (sFor fi t b) := by
  refine ps_imp (ps_for hp hc hi hg hb hs) fun E σ H h => ?_
  obtain ⟨B, m, ρ, S, r, re, f⟩ := h
  refine ⟨B, m, ρ, S, r, re, finI.mono (finI.bindS re r f) fun J H1 => ?_⟩
  rintro ⟨m1, S1, xs, p1, itr, f1⟩
  refine ⟨fun i n σ H => n = xs.length - i ∧ i ≤ xs.length ∧ ∃ m2 S2 ρ2, Post X.K X.mg B m1 S1 H1 m2 S2 H ∧ RepE X.K H (Fo B m2 S2) m2 σ ρ2 ∧ finS X.K X.mg W B m2 S2 H (loopS t b (xs.drop i) ρ2 S2) E,
    ⟨xs.length, by simp, Nat.zero_le _, m1, S1, ρ, Post.refl p1.rl, re.kp (p1.kp r), by simpa using f1⟩, ?_⟩
  rintro i n σ2 H2 ⟨rfl, hi, m2, S2, ρ2, p2, re2, f2⟩
  obtain ⟨go, stop⟩ := itr H2 _ m2 (p2.kp p1.rl)
  by_cases hlt : i < xs.length
  · right
    refine ⟨(go i hlt).1, fun σ' H' => ∃ m3 S3 ρ3, Post X.K X.mg B m1 S1 H1 m3 S3 H' ∧ RepE X.K H' (Fo B m3 S3) m3 σ' ρ3 ∧ finS X.K X.mg W B m3 S3 H' (loopS t b (xs.drop (i + 1)) ρ3 S3) E, ?_, ?_⟩
    · rintro σ' H' ⟨m3, S3, ρ3, p3, re3, f3⟩
      exact ⟨_, by omega, rfl, hlt, m3, S3, ρ3, p3, re3, f3⟩
    · intro x H3 y
      obtain ⟨d, ed, sm, rx⟩ := (go i hlt).2 x H3 y
      have p3 : Post X.K X.mg B m2 S2 H2 m2 S2 H3 := Post.grow p2.rl sm
      have f3 := finS.later p3 f2
      have re3 := re2.kp (p3.kp p2.rl)
      rw [List.drop_eq_getElem_cons hlt] at f3
      have ed' : xs[i] = d := by
        have := List.getElem?_eq_getElem hlt
        rw [this] at ed
        exact Option.some.inj ed
      rw [ed'] at f3
      unfold loopS at f3
      cases e1 : t.put d ρ2 with
      | none => rw [e1] at f3; exact f3.elim
      | some ρ4 =>
        rw [e1] at f3
        dsimp only at f3
        refine Tg.rd_ok t e1 rx re3 fun σ4 re4 => ?_
        refine ⟨B, m2, ρ4, S2, p3.rl, re4, ?_⟩
        cases e2 : b ρ4 S2 with
        | bad => rw [e2] at f3; exact f3.elim
        | exc c p ρ5 S5 => rw [e2] at f3; exact f3
        | fl fl S5 =>
          rw [e2] at f3
          cases fl with
          | nx ρ5 => exact fun m5 H5 σ5 p5 re5 => ⟨m5, S5, ρ5, (p2.trans p3).trans p5, re5, finS.later p5 f3⟩
          | ct ρ5 => exact fun m5 H5 σ5 p5 re5 => ⟨m5, S5, ρ5, (p2.trans p3).trans p5, re5, finS.later p5 f3⟩
          | bk ρ5 => exact fun m5 H5 σ5 p5 re5 => f3 m5 H5 σ5 p5 re5
          | rt d => exact f3
  · left
    have hd : xs.drop i = [] := List.drop_eq_nil_of_le (by omega)
    rw [hd] at f2
    exact ⟨stop i (by omega), f2 m2 H2 σ2 (Post.refl p2.rl) re2⟩
end
def whileS (n : Nat) (t : Tx) (b : Sx) : Sx := match n with
  | 0 => fun _ _ => .bad
  | n + 1 => fun ρ S => (t ρ S).bindS ρ fun c S => if c = true then (match b ρ S with
      | .fl (.nx ρ2) S2 => whileS n t b ρ2 S2
      | .fl (.ct ρ2) S2 => whileS n t b ρ2 S2
      | .fl (.bk ρ2) S2 => .fl (.nx ρ2) S2
      | .fl (.rt d) S2 => .fl (.rt d) S2
      | .exc c p ρ2 S2 => .exc c p ρ2 S2
      | .bad => .bad) else .fl (.nx ρ) S
section
variable {X : Cx} {W : WX} {c : Expr} {t : Tx} {body : List Stmt} {b : Sx} {pos : Pos}
theorem sv_while {n : Ev → Sto → Nat} (hp : PassesOwn (model X.prog X.w) X.A X.env X.xe) (hc : TV X W c t) (hb : SVs X W body b) : SV X W (.While c body [] pos) (fun ρ S => whileS (n ρ S) t b ρ S) := by
  refine ps_imp (ps_while hp hc hb) fun E σ H h => ?_
  obtain ⟨B, m, ρ, S, r, re, f⟩ := h
  refine ⟨fun k σ H => ∃ m2 S2 ρ2, Rl X.K X.mg B m2 H S2 ∧ RepE X.K H (Fo B m2 S2) m2 σ ρ2 ∧ finS X.K X.mg W B m2 S2 H (whileS k t b ρ2 S2) E, ⟨n ρ S, m, S, ρ, r, re, f⟩, ?_⟩
  rintro k σ2 H2 ⟨m2, S2, ρ2, r2, re2, f2⟩
  cases k with
  | zero => exact f2.elim
  | succ k =>
    unfold whileS at f2
    refine ⟨B, m2, ρ2, S2, r2, re2, finT.mono (finT.bindS re2 r2 f2) fun c H3 => ?_⟩
    rintro ⟨m3, S3, p3, f3⟩
    cases c with
    | false =>
      rw [if_neg Bool.false_ne_true] at f3 ⊢
      exact f3 m3 H3 σ2 (Post.refl p3.rl) (re2.kp (p3.kp r2))
    | true =>
      rw [if_pos rfl] at f3 ⊢
      refine ⟨fun σ' H' => ∃ m4 S4 ρ4, Rl X.K X.mg B m4 H' S4 ∧ RepE X.K H' (Fo B m4 S4) m4 σ' ρ4 ∧ finS X.K X.mg W B m4 S4 H' (whileS k t b ρ4 S4) E, fun σ' H' h => ⟨k, Nat.lt_succ_self _, h⟩, ?_⟩
      refine ⟨B, m3, ρ2, S3, p3.rl, re2.kp (p3.kp r2), ?_⟩
      cases e2 : b ρ2 S3 with
      | bad => rw [e2] at f3; exact f3.elim
      | exc c p ρ5 S5 => rw [e2] at f3; exact f3
      | fl fl S5 =>
        rw [e2] at f3
        cases fl with
        | nx ρ5 => exact fun m5 H5 σ5 p5 re5 => ⟨m5, S5, ρ5, p5.rl, re5, finS.later p5 f3⟩
        | ct ρ5 => exact fun m5 H5 σ5 p5 re5 => ⟨m5, S5, ρ5, p5.rl, re5, finS.later p5 f3⟩
        | bk ρ5 => exact fun m5 H5 σ5 p5 re5 => f3 m5 H5 σ5 p5 re5
        | rt d => exact f3
end
end DL
set_option Elab.async false
set_option linter.all false
set_option maxRecDepth 100000
set_option maxHeartbeats 4000000
namespace DL
open PySem PySem.Spec PyProof.Rows L2
/-- room for k levels; no guard of a repr stands -/
structure Room (k : Nat) (A : Around) : Prop where
  r : L2.Room k A
  g : A.guards = some []
theorem Room.mono {j k : Nat} {A : Around} (x : DL.Room k A) (h : j ≤ k) : DL.Room j A := ⟨x.r.mono h, x.g⟩
theorem Room.deeper {k : Nat} {A : Around} (x : DL.Room (k + 1) A) (env : Env) : DL.Room k (A.deeper env) := ⟨x.r.deeper env, x.g⟩
theorem Room.units {k : Nat} {A : Around} (x : DL.Room k A) : A.units + 64 < cLine := x.r.units
/-- what a def promises, called where there is room -/
structure FnOk (P : Program) (w : World) (K : PySem.W.Frag) (mg : Str → Option Value) (base : Heap) (CX : CXT) (k : Nat) (f : Addr) (fd : FuncData) (ps : List Str) (sp : Sp) : Prop where
  len : ∀ xs H Q E, sp xs H Q E → xs.length = ps.length
  run : ∀ (B : Around) (ol : List Env) (s : Shared) (H : Hp) (ar : Args) (ys : List Value) (xs : List V) (Q : VK) (E : XK), DL.Room k B → Env0 P w K mg base B ol s H → BindsTo s fd ar (ps.zip ys) → Vals xs ys → sp xs H Q E →
    codeAny (model P w) B (.call (.ref f) ar) (CR CX ol P w H s Q E) s
section
variable {P : Program} {w : World} {K : PySem.W.Frag} {mg : Str → Option Value} {base : Heap} {CX : CXT} {k j : Nat} {f : Addr} {fd : FuncData} {N ps : List Str} {sp sp' : Sp}
theorem FnOk.mono (F : DL.FnOk P w K mg base CX j f fd ps sp) (h : j ≤ k) : DL.FnOk P w K mg base CX k f fd ps sp where
  len := F.len
  run := fun B ol s H ar ys xs Q E hb => F.run B ol s H ar ys xs Q E (hb.mono h)
theorem FnOk.imp (F : DL.FnOk P w K mg base CX k f fd ps sp) (h : ∀ xs H Q E, sp' xs H Q E → sp xs H Q E) : DL.FnOk P w K mg base CX k f fd ps sp' where
  len := fun xs H Q E q => F.len xs H Q E (h xs H Q E q)
  run := fun B ol s H ar ys xs Q E hb he hbi hv q => F.run B ol s H ar ys xs Q E hb he hbi hv (h xs H Q E q)
/-- a def by its body -/
theorem fn_body {name qual : Str} {params : Arguments} {body : List Stmt} {scope : Scope} {dV kV doc pm cdv ct oc : Value} {an od : Option Addr} {osl : Array (Option Value)}
    (look : K.lookup f = some ⟨oc, od, .func (PySem.W.fnOf name qual params body scope dV kV doc pm an cdv ct), osl⟩) (code : PySem.W.codeIn K cdv qual = true) (sc : FnScope N ps scope)
    (hlen : ∀ xs H Q E, sp xs H Q E → xs.length = ps.length)
    (bod : ∀ (B : Around) (ol : List Env) (s : Shared) (H : Hp) (xs : List V) (Q : VK) (E : XK), DL.Room k (B.deeper (envOfC qual scope s.heap.objs.size f cdv)) → sp xs H Q E →
      ∃ rd, PSs (cxOf CX P w K mg base N qual scope f cdv B ol s H E) body rd ∧ rd { nx := fun _ H2 => Q .non H2, rt := Q } (start N xs) H) :
    DL.FnOk P w K mg base CX (k + 1) f (PySem.W.fnOf name qual params body scope dV kV doc pm an cdv ct) ps sp := by
  refine ⟨hlen, ?_⟩
  intro B ol s H ar ys xs Q E room en bi rel want
  have many := hlen _ _ _ _ want
  have inK : K.In s.heap := en.mod.kin.keeps fun c ob z => (en.bs c ob z).1
  have noLim : s.heap.NoLimit := en.mod.nolimit.keeps fun c ob z => (en.bs c ob z).1
  have kinds : ∀ z ∈ ps.zip ys, scope.names.lookup z.1 = some .local ∨ (scope.names.lookup z.1 = some .cell ∧ ((cellsFrom (s.heap.objs.size + 1) scope.names []).lookup z.1).isSome = true) := by
    rintro ⟨nm, vl⟩ hz
    cases sc.par nm (List.of_mem_zip hz).1 with
    | inl q => exact Or.inl q
    | inr q => exact Or.inr ⟨q, PySem.W.cellsFrom_some _ _ _ (Or.inl q)⟩
  refine codeAny_call_function room.r.depth (inK _ _ look) rfl sc.co sc.gen rfl (PySem.W.codeRec_of inK code) (bi _ _ _ _ ?_)
  refine wpAny_newFunctionEnv_cells sc.kind kinds ?_
  rintro env rfl s1 inc
  refine ⟨noLim.keeps inc.toInCall.keep, codeAny_func ?_⟩
  obtain ⟨rd, hrd, hw⟩ := bod B ol s H xs Q E (room.deeper _) want
  have J0 : Inv (cxOf CX P w K mg base N qual scope f cdv B ol s H E) [] (start N xs) H s1 := inv_start sc room.r.hd en many rel inc
  have close : ∀ {σ2 : L2.St} {H2 : Hp} {v : V} {u : Value} {s2 : Shared}, Inv (cxOf CX P w K mg base N qual scope f cdv B ol s H E) [] σ2 H2 s2 → RelV v u → Q v H2 → CE ol P w H s Q u s2 := by
    intro σ2 H2 v u s2 J rv q
    exact ⟨v, H2, J.os, J.bare, J.base, J.hok, rv, q⟩
  refine wpAny_mono (hrd.run [] s1 (start N xs) H _ J0 hw) ?_ (fun er s2 z => z)
  intro flow s2 hs2
  cases flow with
  | next =>
    obtain ⟨σ2, H2, J, q⟩ := hs2
    exact close (v := V.non) (u := Value.none) J rfl q
  | ret u =>
    obtain ⟨v, σ2, H2, J, rv, q⟩ := hs2
    exact close J rv q
  | brk => exact (hs2.elim fun _ z => z.elim fun _ z => z.2 : False).elim
  | cont => exact (hs2.elim fun _ z => z.elim fun _ z => z.2 : False).elim
theorem funD_ok {x qual : Str} {params : Arguments} {body : List Stmt} {scope : Scope} {dvs : List V} {kws : List (Str × V)} (F : FunD K x qual params body scope dvs kws f fd) (sc : FnScope N ps scope) (hlen : ∀ xs H Q E, sp xs H Q E → xs.length = ps.length)
    (bod : ∀ (cdv : Value) (B : Around) (ol : List Env) (s : Shared) (H : Hp) (xs : List V) (Q : VK) (E : XK), DL.Room k (B.deeper (envOfC qual scope s.heap.objs.size f cdv)) → sp xs H Q E →
      ∃ rd, PSs (cxOf CX P w K mg base N qual scope f cdv B ol s H E) body rd ∧ rd { nx := fun _ H2 => Q .non H2, rt := Q } (start N xs) H) : DL.FnOk P w K mg base CX (k + 1) f fd ps sp := by
  obtain ⟨_, _, _, _, _, _, _, cdv, _, _, rfl, look, code, _, _⟩ := F.ex
  exact fn_body look code sc hlen fun B ol s H xs Q E hr want => bod cdv B ol s H xs Q E hr want
end
section
variable {X : Cx} {CX : CXT} {k : Nat} {f : Addr} {fd : FuncData} {ps : List Str} {sp : Sp} {E : L2.St → XK} {x : Str} {p pos : Pos} {e : Expr} {es : List Expr} {t : TA} {dvs : List V} {ds : List Value}
/-- the callee runs; ds the defaults that fill up -/
theorem run_call {pins : List (Addr × Obj)} {σ : L2.St} {H : Hp} {s : Shared} {Q : VK} {ys : List Value} {xs : List V} (F : DL.FnOk X.prog X.w X.K X.mg X.base CX k f fd ps sp) (room : DL.Room k X.A) (bi : Binds X.K fd ps ds) (hd : Vals dvs ds) (pass : PassesAt CX X σ (E σ))
    (J : Inv X pins σ H s) (rel : Vals xs ys) (want : sp (xs ++ dvs) H Q (E σ)) : wpAny (model X.prog X.w) X.A (call (.ref f) ys) (EP X pins σ Q) X.xe s := by
  have rel2 := rel.append hd
  have many : (ys ++ ds).length = ps.length := by rw [← rel2.length]; exact F.len _ _ _ _ want
  refine wpAny_call (codeAny_mono (F.run X.A X.stack s H ⟨ys, []⟩ (ys ++ ds) (xs ++ dvs) Q (E σ) room J.env0 (bi s ys J.kIn many) rel2 want) ?_)
  intro res s2 hres
  match res, hres with
  | .ok (.ret u), hres => exact J.after hres
  | .ok .next, hres => exact False.elim hres
  | .ok .brk, hres => exact False.elim hres
  | .ok .cont, hres => exact False.elim hres
  | .error er, hres => exact pass pins H s er s2 J hres
def tCallG (sp : Sp) (dvs : List V) (E : L2.St → XK) (t : TA) : TE := fun σ H Q => t σ H fun xs H1 => sp (xs ++ dvs) H1 Q (E σ)
theorem pe_callG (F : DL.FnOk X.prog X.w X.K X.mg X.base CX k f fd ps sp) (room : DL.Room k X.A) (hg : Gl X x) (hm : X.mg x = some (.ref f)) (hk : PySem.W.keepIn X.K (.ref f) = true) (bi : Binds X.K fd ps ds) (hd : Vals dvs ds) (pass : ∀ σ, PassesAt CX X σ (E σ))
    (ha : PA X (e :: es) t) (hdb : (x == ("__debug__" : Str)) = false := by decide) (hse : starEach (e :: es) X.env = (false, eval e X.env) :: starEach es X.env := by rfl) (hpl : (backTo pos (starEach es X.env)).any (·.1) = false := by rfl) :
    PE X (.Call (.Name x p) (e :: es) [] pos) (tCallG sp dvs E t) := ⟨fun pins s σ H Q J want =>
  wpAny_Call_Name_kw (ld_glob J hg hm (PySem.W.callWith_K (h₀ := X.base) J.ok.mod.kin hk (thn (ha.run pos pins s σ H _ J want) fun ys s1 ⟨xs, H1, J1, rel, q⟩ => ⟨J1.kIn, run_call F room bi hd (pass σ) J1 rel q⟩) hse hpl) hdb)⟩
end
section
variable {X : Cx} {CX : CXT} {k : Nat} {f : Addr} {fd : FuncData} {ps : List Str} {sp : Sp} {E : L2.St → XK} {x : Str} {p pos : Pos} {e : Expr} {es : List Expr} {t : TA}
theorem pe_callD1 (F : DL.FnOk X.prog X.w X.K X.mg X.base CX k f fd ps sp) (room : DL.Room k X.A) (hg : Gl X x) (hm : X.mg x = some (.ref f)) (hk : PySem.W.keepIn X.K (.ref f) = true) (bi : Binds X.K fd ps []) (pass : ∀ σ, PassesAt CX X σ (E σ))
    (ha : PA X (e :: es) t) (hdb : (x == ("__debug__" : Str)) = false := by decide) (hse : starEach (e :: es) X.env = (false, eval e X.env) :: starEach es X.env := by rfl) (hpl : (backTo pos (starEach es X.env)).any (·.1) = false := by rfl) :
    PE X (.Call (.Name x p) (e :: es) [] pos) (fun σ H Q => t σ H fun xs H1 => sp xs H1 Q (E σ)) := by
  have z := pe_callG (p := p) (dvs := []) F room hg hm hk bi .nil pass ha hdb hse hpl
  refine pe_imp z fun σ H Q h => ?_
  unfold tCallG
  simp only [List.append_nil]
  exact h
end
/-- the law's call -/
theorem law_run {P : Program} {w : World} {K : PySem.W.Frag} {mg mb : Str → Option Value} {CX : CXT} {k : Nat} {fa a : Addr} {fd : FuncData} {x : Str} {sp : Sp} {t : Shared} {us : List Value} {ns : List Int}
    (inK : K.In t.heap) (nsm : t.heap.Ns mainGlobals mg) (nsb : t.heap.Ns builtinsNs mb) (bbs : ∀ x : Str, x ≠ "__name__" → mb x = bootBuiltins x) (noLim : t.heap.NoLimit) (gns : t.gens = #[])
    (scr : t.heap.get? a = some { cls := .type "list", data := .seq us.toArray }) (isI : IntsAre us ns) (small : ns.length ≤ sizeLine) (room : DL.Room k callerA)
    (F : ∀ base : Heap, K.In base → base.Ns mainGlobals mg → DL.FnOk P w K mg base CX k fa fd [x] sp) (bi : ∀ (s : Shared) (u : Value), BindsTo s fd ⟨[u], []⟩ [(x, u)])
    (want : ∀ H : Hp, L2.Only H → SqL K H a (ns.map V.int) → sp [.ref a] H (fun v _ => v = .bl true) fun _ _ _ => False)
    (noEx : ∀ H e s', CX [] H t (fun _ _ _ => False) e s' → False) :
    codeAny (model P w) callerA (.call (.ref fa) ⟨[.ref a], []⟩) (fun r s' => r = .ok (.ret (.bool true)) ∧ OldK t.heap s'.heap ∧ s'.os = t.os ∧ AllBare s'.gens) t := by
  have relI := vals_ints isI
  have go : ∀ H : Hp, L2.Only H → SqL K H a (ns.map V.int) → HOk P w H t.heap → (∀ c, H c ≠ none → c = a) → (H a ≠ none → K.lookup a = none) →
      codeAny (model P w) callerA (.call (.ref fa) ⟨[.ref a], []⟩) (fun r s' => r = .ok (.ret (.bool true)) ∧ OldK t.heap s'.heap ∧ s'.os = t.os ∧ AllBare s'.gens) t := by
    intro H only sq held one apart
    have free : ∀ {c : Addr} {ob : Obj} {es : Array DictEntry} {ep : Nat}, t.heap.get? c = some ob → ob.data = .dict es ep → H c = none := by
      intro c ob es ep e dt
      cases hc : H c with
      | none => rfl
      | some u =>
        obtain rfl : c = a := one c (by simp [hc])
        rw [scr] at e
        cases e
        exact nomatch (show Data.seq us.toArray _ = Data.dict es ep from dt)
    have keepN : ∀ {c : Addr} {m : Str → Option Value}, t.heap.Ns c m → (hidT t.heap H).Ns c m := by
      rintro c m ⟨ob, es, ep, e, dt, rest⟩
      exact ⟨ob, es, ep, hidT_get e (free e dt), dt, rest⟩
    have keepK : K.In (hidT t.heap H) := by
      intro c ob e
      refine hidT_get (inK c ob e) ?_
      cases hc : H c with
      | none => rfl
      | some u =>
        obtain rfl : c = a := one c (by simp [hc])
        have z := apart (by simp [hc])
        rw [z] at e
        cases e
    have md : Mod K mg (hidT t.heap H) := by
      refine ⟨keepK, keepN nsm, ⟨mb, keepN nsb, bbs⟩, ?_⟩
      obtain ⟨mc, q1, q2⟩ := noLim
      exact ⟨mc, keepN q1, q2⟩
    have en : Env0 P w K mg (hidT t.heap H) callerA [] t H := ⟨rfl, md, fun c ob e => of_hidT e, Nat.le_of_eq (hidT_size _ _), trivial, fun c hc => (List.not_mem_nil (show c ∈ ([] : List Addr) from hc)).elim, held, .of_eq gns⟩
    refine codeAny_mono ((F _ keepK (keepN nsm)).run callerA [] t H ⟨[.ref a], []⟩ [.ref a] [.ref a] _ _ room en (bi t (.ref a)) (.cons rfl .nil) (want H only sq)) ?_
    intro res s2 hres
    match res, hres with
    | .error er, hres => exact (noEx H er s2 hres).elim
    | .ok .next, hres => exact False.elim hres
    | .ok .brk, hres => exact False.elim hres
    | .ok .cont, hres => exact False.elim hres
    | .ok (.ret u), hres =>
      obtain ⟨v, H2, hos, hbare, un, held2, rv, (rfl : v = .bl true)⟩ := hres
      cases (show u = Value.bool true from rv)
      refine ⟨rfl, OldK.of_keep ?_, hos, hbare⟩
      intro c ob e
      cases hc : H c with
      | none => exact un.keep c ob e hc (fun z => List.not_mem_nil (show c ∈ ([] : List Addr) from z)) (List.not_mem_nil)
      | some u =>
        rcases only c with z | ⟨o2, ys, z⟩
        · rw [hc] at z
          cases z
        · obtain ⟨g1, _⟩ := held c _ z
          obtain ⟨g2, _⟩ := held2 c _ (un.frzs c o2 _ z)
          rw [e] at g1
          cases g1
          exact g2
  cases hk : K.lookup a with
  | some ob =>
    have z := inK a ob hk
    rw [scr] at z
    cases z
    have sq : SqL K (fun _ => none) a (ns.map V.int) := Or.inr ⟨_, us.toArray, _, hk, rfl, rfl, rfl, by rw [List.size_toArray, isI.length]; exact small, by simpa using relI⟩
    exact go (fun _ => none) (fun _ => Or.inl rfl) sq (fun c u z => nomatch (show (none : Option HO) = some u from z)) (fun c z => (z rfl).elim) fun z => (z rfl).elim
  | none =>
    obtain ⟨ob, hob⟩ : ∃ ob : Obj, ob = { cls := .type "list", data := .seq us.toArray } := ⟨_, rfl⟩
    rw [← hob] at scr
    have atA : (upd (fun _ => none) a (.frz ob (.lst (ns.map V.int))) : Hp) a = some (.frz ob (.lst (ns.map V.int))) := upd_same
    have off : ∀ c, c ≠ a → (upd (fun _ => none) a (.frz ob (.lst (ns.map V.int))) : Hp) c = none := fun c hc => upd_ne hc
    refine go (upd (fun _ => none) a (.frz ob (.lst (ns.map V.int)))) ?_ (Or.inl (Or.inr ⟨ob, atA⟩)) ?_ ?_ (fun _ => hk)
    · intro c
      by_cases hc : c = a
      · subst hc
        exact Or.inr ⟨_, _, atA⟩
      · exact Or.inl (off c hc)
    · intro c u z
      by_cases hc : c = a
      · subst hc
        rw [atA] at z
        cases z
        exact ⟨scr, by rw [List.length_map]; exact small, us, _, relI, by rw [scr, hob]⟩
      · rw [off c hc] at z
        cases z
    · intro c z
      by_cases hc : c = a
      · exact hc
      · exact (z (off c hc)).elim
theorem walk_ofG {l : PySem.W.OpenLaw} {n k : Nat} {q : Program} {loose : List Str} {XP : (Str → Option Value) → Heap → Prop} {YP : World → Heap → Prop} {d : DefRec} {CX : World → CXT} {x : Str}
    (hn : l.most = some n) (hn2 : n ≤ sizeLine) (hdf : d.params.defaults = []) (room : DL.Room k callerA)
    (F : ∀ (w : World) (mg : Str → Option Value) (fa : Addr) (h : Heap), YP w h → h.Ns mainGlobals mg → mg d.name = some (.ref fa) →
      ∃ (K : PySem.W.Frag) (fd : FuncData) (sp : Sp), K.In h ∧ (∀ (s : Shared) (u : Value), BindsTo s fd ⟨[u], []⟩ [(x, u)]) ∧
        (∀ (H : Hp) (a : Addr) (ns : List Int), ns.length ≤ n → L2.Only H → SqL K H a (ns.map V.int) → sp [.ref a] H (fun v _ => v = .bl true) fun _ _ _ => False) ∧
        ∀ base : Heap, K.In base → base.Ns mainGlobals mg → DL.FnOk l.prog w K mg base (CX w) k fa fd [x] sp)
    (noEx : ∀ (w : World) (H : Hp) (s : Shared) (e : Value) (s' : Shared), CX w [] H s (fun _ _ _ => False) e s' → False) :
    PySem.W.WalkO q loose XP YP l.row.toRowW d [] (fun f vs => PySem.call f vs) := by
  refine Att.attach_call hn hdf ?_
  intro w _ t mg _ fa _ _ _ _ a us ns G Y _ _ _ hmg scr isI many gns
  obtain ⟨K, fd, sp, inK, bi, want, hF⟩ := F w mg fa _ Y G.T.g hmg
  exact law_run inK G.T.g G.T.b G.T.builtins G.T.nolimit gns scr isI (Nat.le_trans many hn2) room hF bi (fun H hO hS => want H a ns many hO hS) fun H e s' => noEx w H t e s'
end DL
set_option Elab.async false
set_option linter.all false
set_option maxRecDepth 100000
set_option maxHeartbeats 4000000
namespace DL
open PySem PySem.Spec PyProof.Rows L2
abbrev Fn := List D → Sto → R D
def spD (K : PySem.W.Frag) (mg : Str → Option Value) (n : Nat) (F : Fn) : Sp := fun vs H Q E => ∃ B m S ds, Rl K mg B m H S ∧ RepA K H (Fo B m S) m vs ds ∧ vs.length = n ∧ fin K mg (fun cls dd _ H' => E cls dd H') B m S [] H (F ds S) Q
/-- a def's body -/
def fnB (n : Nat) (b : Sx) : Fn := fun ds S => match b (ds.map some ++ List.replicate (n - ds.length) none) S with
  | .fl (.nx _) S' => .ok .non S'
  | .fl (.rt d) S' => .ok d S'
  | .exc c p _ S' => .exc c p S'
  | _ => .bad
section
variable {K : PySem.W.Frag} {mg : Str → Option Value} {H : Hp} {Fb : Addr → Prop} {m : List Addr}
theorem repE_start {N : List Str} {vs : List V} {ds : List D} (q : RepA K H Fb m vs ds) : RepE K H Fb m (L2.start N vs) (ds.map some ++ List.replicate (N.length - ds.length) none) := by
  have hl := q.length
  refine ⟨by simp [L2.start, hl], fun i d e => ?_⟩
  by_cases hi : i < ds.length
  · rw [List.getElem?_append_left (by simpa using hi)] at e
    rw [List.getElem?_map] at e
    cases e1 : ds[i]? with
    | none => rw [e1] at e; cases e
    | some d' =>
      rw [e1] at e
      cases e
      obtain ⟨v, ev, r⟩ := q.get e1
      refine ⟨v, ?_, r⟩
      unfold L2.start
      rw [List.getElem?_append_left (by simp [hl]; exact hi), List.getElem?_map, ev]
      rfl
  · rw [List.getElem?_append_right (by simpa using hi)] at e
    rw [List.getElem?_replicate] at e
    split at e <;> cases e
end
section
variable {P : Program} {w : World} {K : PySem.W.Frag} {mg : Str → Option Value} {base : Heap}
/-- the wish of a def's body -/
abbrev WB (E : XK) : WX := fun c d _ H => E c d H
end
/-- a call -/
def eFn (F : Fn) (fs : List Ex) : Ex := fun ρ S => (evL fs ρ S).bind fun ds S => F ds S
section
variable {X : Cx} {W : WX} {f : Addr} {fd : FuncData} {ps : List Str} {n k : Nat} {F : Fn} {x : Str} {p pos : Pos} {e : Expr} {es : List Expr} {fs : List Ex}
theorem fin_call {K : PySem.W.Frag} {mg : Str → Option Value} {B : Addr → Prop} {m : List Addr} {S : Sto} {σ : L2.St} {H : Hp} {Q : VK} {r : R D} (h : fin K mg W B m S σ H r Q) : fin K mg (fun cls dd _ H' => WE W σ cls dd H') B m S [] H r Q := by
  cases r with
  | ok d S' => exact h
  | exc c p S' => exact h
  | bad => exact h
theorem ev_fn (FO : DL.FnOk X.prog X.w X.K X.mg X.base (L2.CX X.prog X.w) k f fd ps (spD X.K X.mg n F)) (hr : DL.Room k X.A) (hg : Gl X x) (hm : X.mg x = some (.ref f)) (hk : PySem.W.keepIn X.K (.ref f) = true) (hb : Binds X.K fd ps []) (tk : Takes X W)
    (ha : EVA X W (e :: es) fs) (hn : fs.length = n) (hdb : (x == ("__debug__" : Str)) = false := by decide) (he : starEach (e :: es) X.env = (false, eval e X.env) :: starEach es X.env := by rfl) (hpl : (backTo pos (starEach es X.env)).any (·.1) = false := by rfl) :
    EV X W (.Call (.Name x p) (e :: es) [] pos) (eFn F fs) := by
  refine pe_imp (pe_callD1 FO hr hg hm hk hb (fun σ => passAt tk σ) ha hdb he hpl) fun σ H Q h => ?_
  obtain ⟨B, m, ρ, S, r, re, g⟩ := h
  refine ⟨B, m, ρ, S, r, re, ?_⟩
  -- the number of arguments
  have hl : ∀ (fs : List Ex) (ρ : Ev) (S S' : Sto) (ds : List D), evL fs ρ S = .ok ds S' → ds.length = fs.length := by
    intro fs
    induction fs with
    | nil => intro ρ S S' ds e; unfold evL at e; cases e; rfl
    | cons f fs ih =>
      intro ρ S S' ds e
      unfold evL at e
      cases e1 : f ρ S with
      | bad => rw [e1] at e; cases e
      | exc c p S1 => rw [e1] at e; cases e
      | ok d S1 =>
        rw [e1] at e
        simp only [R.bind] at e
        cases e2 : evL fs ρ S1 with
        | bad => rw [e2] at e; cases e
        | exc c p S1 => rw [e2] at e; cases e
        | ok ds2 S2 =>
          rw [e2] at e
          cases e
          simp [ih ρ S1 _ ds2 e2]
  have g' : fin X.K X.mg W B m S σ H ((evL fs ρ S).bind fun ds S => F ds S) Q := g
  cases e1 : evL fs ρ S with
  | bad => rw [e1] at g'; exact g'.elim
  | exc c p S1 => rw [e1] at g'; exact g'
  | ok ds S1 =>
    rw [e1] at g'
    exact fun m1 H1 vs p q => ⟨B, m1, S1, ds, p.rl, q, by rw [q.length, hl _ _ _ _ _ e1, hn], fin_call (fin.later p g')⟩
end
mutual
def noRef : D → Bool
  | .ref _ => false
  | .tup xs => noRefs xs
  | .lst xs => noRefs xs
  | .dic _ kvs => noRefK kvs
  | .exn _ p => noRef p
  | _ => true
def noRefs : List D → Bool
  | [] => true
  | d :: ds => noRef d && noRefs ds
def noRefK : List (D × D) → Bool
  | [] => true
  | (a, b) :: ds => noRef b && noRefK ds
end
/-- a def that asks and tells plain data: run apart -/
def fnP (F : Fn) : Fn := fun ds S => if noRefs ds = true then match F ds [] with
  | .ok d _ => if noRef d = true then .ok d S else .bad
  | .exc c p _ => if noRef p = true then .exc c p S else .bad
  | .bad => .bad else .bad
section
variable {K : PySem.W.Frag} {mg : Str → Option Value} {H : Hp} {Fb Fb' : Addr → Prop} {m m' : List Addr}
mutual
theorem Rep.noRef (hf : ∀ a, Fb' a → Fb a) : ∀ {v : V} {d : D}, Rep K H Fb m v d → noRef d = true → Rep K H Fb' m' v d
  | _, _, .non, _ => .non
  | _, _, .bl b, _ => .bl b
  | _, _, .int i, _ => .int i
  | _, _, .str x, _ => .str x
  | _, _, .tup h z r, e => .tup h z (RepA.noRef hf r (by simpa [DL.noRef] using e))
  | _, _, .lst h f z r, e => .lst h (fun y => f (hf _ y)) z (RepA.noRef hf r (by simpa [DL.noRef] using e))
  | _, _, .dK h z q r, e => .dK h z q (RepA.noRef hf r (noRefK_vals _ (by simpa [DL.noRef] using e)))
  | _, _, .dT h z q r, e => .dT h z q (RepA.noRef hf r (noRefK_vals _ (by simpa [DL.noRef] using e)))
  | _, _, .ref h, e => by simp [DL.noRef] at e
  | _, _, .raw v, _ => .raw v
  | _, _, .scr h z, _ => .scr (h.imp (fun h => ⟨h.1, fun y => h.2 (hf _ y)⟩) id) z
  | _, _, .exn h f, _ => .exn h (fun y => f (hf _ y))
  | _, _, .exp h f h2 f2 n r, e => .exp h (fun y => f (hf _ y)) h2 (fun y => f2 (hf _ y)) n (Rep.noRef hf r (by simpa [DL.noRef] using e))
theorem RepA.noRef (hf : ∀ a, Fb' a → Fb a) : ∀ {vs : List V} {ds : List D}, RepA K H Fb m vs ds → noRefs ds = true → RepA K H Fb' m' vs ds
  | _, _, .nil, _ => .nil
  | _, _, .cons h r, e => by
    have e' := Bool.and_eq_true_iff.mp (by simpa [DL.noRefs] using e : (DL.noRef _ && DL.noRefs _) = true)
    exact .cons (Rep.noRef hf h e'.1) (RepA.noRef hf r e'.2)
theorem noRefK_vals : ∀ (kvs : List (D × D)), noRefK kvs = true → noRefs (kvs.map (·.2)) = true
  | [], _ => by simp [noRefs]
  | (a, b) :: r, e => by
    simp only [noRefK, Bool.and_eq_true] at e
    simp [noRefs, e.1, noRefK_vals r e.2]
end
/-- run apart: what a caller sees -/
theorem Post.apart {B : Addr → Prop} {m m' : List Addr} {S S' : Sto} {H H' : Hp} (r : Rl K mg B m H S) (p : Post K mg (Fo B m S) [] [] H m' S' H') : Post K mg B m S H m S H' ∧ ∀ v d, Rep K H' (Fo (Fo B m S) m' S') m' v d → DL.noRef d = true → Rep K H' (Fo B m S) m v d := by
  have sm : Same H H' := fun a o e => p.keep a o e fun ⟨n, o, e1, e2⟩ => by simp at e1
  exact ⟨Post.grow r sm, fun v d h e => h.noRef (fun a z => .inl z) e⟩
theorem spP_of {n : Nat} {F : Fn} (vs : List V) (H : Hp) (Q : VK) (E : XK) (h : spD K mg n (fnP F) vs H Q E) : spD K mg n F vs H Q E := by
  obtain ⟨B, m, S, ds, r, q, e, g⟩ := h
  unfold fnP at g
  split at g
  · rename_i hd
    refine ⟨Fo B m S, [], [], ds, ⟨rfl, List.nodup_nil, fun a ⟨n, o, e1, e2⟩ => by simp at e1, fun a z => ?_, fun a z => by simp at z, fun n a o e1 e2 => by simp at e1⟩, q.noRef (fun a z => z.elim id fun ⟨n, o, e1, e2⟩ => by simp at e1) hd, e, ?_⟩
    · intro z2
      exact fr_of r a z2 z
    · cases e1 : F ds [] with
      | bad => rw [e1] at g; exact g.elim
      | ok d S' =>
        rw [e1] at g
        dsimp only at g
        split at g
        · rename_i hn
          intro m' H' v p rv
          obtain ⟨p2, k⟩ := Post.apart r p
          exact g m H' v p2 (k v d rv hn)
        · exact g.elim
      | exc c pl S' =>
        rw [e1] at g
        dsimp only at g
        split at g
        · rename_i hn
          intro m' H' cls dd p x
          obtain ⟨p2, k⟩ := Post.apart r p
          refine g m H' cls dd p2 ?_
          obtain ⟨C, h1, h2, h3⟩ := x
          refine ⟨C, h1, h2, h3.imp id ?_⟩
          rintro ⟨h0, a, v, h4, h5, h6⟩
          exact ⟨h0, a, v, h4, h5, k v pl h6 hn⟩
        · exact g.elim
  · exact g.elim
end
def R.nox {α : Type} : R α → R α
  | .ok a S => .ok a S
  | _ => .bad
def wipeD (ρ : Ev) : List Nat → Ev
  | [] => ρ
  | v :: vs => (wipeD ρ vs).set v none
def compL (t : Tg) (tt : Tx) (e : Ex) (vs : List Nat) : List D → Ev → Sto → List D → R (List D)
  | [], _, S, acc => .ok acc S
  | d :: ds, ρ, S, acc => match t.put d (wipeD ρ vs) with
    | none => .bad
    | some ρ1 => (tt ρ1 S).nox.bind fun b S => if b = true then (e ρ1 S).nox.bind fun y S => if acc.length < sizeLine then compL t tt e vs ds ρ S (acc ++ [y]) else .bad else compL t tt e vs ds ρ S acc
def tYesX : Tx := fun _ S => .ok true S
def eComp (it : Ix) (t : Tg) (tt : Tx) (e : Ex) (vs : List Nat) : Ex := fun ρ S => (it ρ S).bind fun xs S => (compL t tt e vs xs ρ S []).bind fun acc S => .ok (.lst acc) S
theorem tg_puts_len : ∀ (ts : List Tg) {ds : List D} {ρ ρ' : Ev}, Tg.puts ts ds ρ = some ρ' → ts.length = ds.length
  | [], [], _, _, _ => rfl
  | [], _ :: _, _, _, e => by simp [Tg.puts] at e
  | _ :: _, [], _, _, e => by simp [Tg.puts] at e
  | t :: ts, d :: ds, ρ, ρ', e => by
    simp only [Tg.puts] at e
    split at e
    · rename_i ρ1 e1
      simp [tg_puts_len ts e]
    · cases e
mutual
def Tg.sl : Tg → List Nat
  | .nm i => [i]
  | .tp ts => Tg.sls ts
def Tg.sls : List Tg → List Nat
  | [] => []
  | t :: ts => t.sl ++ Tg.sls ts
end
section
variable {K : PySem.W.Frag} {H : Hp} {Fb : Addr → Prop} {m : List Addr}
mutual
theorem Tg.rd_okP {A : L2.St → Prop} : ∀ (t : Tg) {v : V} {d : D} {σ : L2.St} {ρ ρ' : Ev} {Q : L2.St → Hp → Prop}, (∀ σ i v, i ∈ t.sl → A σ → A (σ.set i (some v))) → t.put d ρ = some ρ' → Rep K H Fb m v d → RepE K H Fb m σ ρ → A σ → (∀ σ', RepE K H Fb m σ' ρ' → A σ' → Q σ' H) → Tg.rd K t v σ H Q
  | .nm i, v, d, σ, ρ, ρ', Q, hA, e, r, re, a, q => by
    simp only [Tg.put, Option.some.injEq] at e
    subst e
    exact q _ (re.set r) (hA _ _ _ (by simp [Tg.sl]) a)
  | .tp ts, v, d, σ, ρ, ρ', Q, hA, e, r, re, a, q => by
    cases d with
    | tup ds =>
      cases r with
      | tup h z rr =>
        have e' : Tg.puts ts ds ρ = some ρ' := by simpa [Tg.put] using e
        exact ⟨_, _, rfl, h, by rw [rr.length]; exact (tg_puts_len ts e').symm, Tg.rds_okP ts (by simpa [Tg.sl] using hA) e' rr re a q⟩
    | _ => simp [Tg.put] at e
theorem Tg.rds_okP {A : L2.St → Prop} : ∀ (ts : List Tg) {vs : List V} {ds : List D} {σ : L2.St} {ρ ρ' : Ev} {Q : L2.St → Hp → Prop}, (∀ σ i v, i ∈ Tg.sls ts → A σ → A (σ.set i (some v))) → Tg.puts ts ds ρ = some ρ' → RepA K H Fb m vs ds → RepE K H Fb m σ ρ → A σ → (∀ σ', RepE K H Fb m σ' ρ' → A σ' → Q σ' H) → Tg.rds K ts vs σ H Q
  | [], vs, ds, σ, ρ, ρ', Q, hA, e, r, re, a, q => by
    cases ds with
    | nil =>
      cases r
      simp only [Tg.puts, Option.some.injEq] at e
      subst e
      exact ⟨rfl, q σ re a⟩
    | cons _ _ => simp [Tg.puts] at e
  | t :: ts, vs, ds, σ, ρ, ρ', Q, hA, e, r, re, a, q => by
    cases ds with
    | nil => simp [Tg.puts] at e
    | cons d ds =>
      cases r with
      | cons r rr =>
        simp only [Tg.puts] at e
        split at e
        · rename_i ρ1 e1
          exact ⟨_, _, rfl, Tg.rd_okP t (fun σ i v h => hA σ i v (by simp [Tg.sls, h])) e1 r re a fun σ' re' a' => Tg.rds_okP ts (fun σ i v h => hA σ i v (by simp [Tg.sls, h])) e rr re' a' q⟩
        · cases e
end
theorem wipe_get (σ : L2.St) : ∀ (vs : List Nat) (j : Nat), (wipe σ vs)[j]? = if j ∈ vs ∧ j < σ.length then some none else σ[j]?
  | [], j => by simp [wipe]
  | v :: vs, j => by
    unfold wipe
    rw [List.getElem?_set, wipe_get σ vs j, wipe_length]
    by_cases h1 : v = j
    · subst h1
      by_cases h2 : v < σ.length <;> simp [h2]
    · have : ¬ j = v := fun e => h1 e.symm
      simp [h1, this]
theorem wipe_set {σ : L2.St} {vs : List Nat} {i : Nat} {v : Option V} (h : i ∈ vs) : wipe (σ.set i v) vs = wipe σ vs := by
  apply List.ext_getElem?
  intro j
  rw [wipe_get, wipe_get]
  by_cases h1 : j = i
  · subst h1
    by_cases h2 : j < σ.length <;> simp [h, h2]
  · rw [List.getElem?_set_ne (Ne.symm h1)]
    simp
theorem wipeD_get (ρ : Ev) : ∀ (vs : List Nat) (j : Nat) d, (wipeD ρ vs)[j]? = some (some d) → ρ[j]? = some (some d) ∧ j ∉ vs
  | [], j, d, h => by simpa [wipeD] using h
  | v :: vs, j, d, h => by
    unfold wipeD at h
    rw [List.getElem?_set] at h
    split at h
    · split at h <;> simp at h
    · rename_i hj
      have := wipeD_get ρ vs j d h
      exact ⟨this.1, by simp; exact ⟨fun e => hj e.symm, this.2⟩⟩
theorem wipeD_length (ρ : Ev) : ∀ vs : List Nat, (wipeD ρ vs).length = ρ.length
  | [] => rfl
  | v :: vs => by unfold wipeD; rw [List.length_set, wipeD_length ρ vs]
theorem RepE.wipe {σ : L2.St} {ρ : Ev} (h : RepE K H Fb m σ ρ) (vs : List Nat) : RepE K H Fb m (L2.wipe σ vs) (wipeD ρ vs) := by
  refine ⟨by rw [wipe_length, wipeD_length]; exact h.1, fun i d e => ?_⟩
  obtain ⟨e1, e2⟩ := wipeD_get ρ vs i d e
  obtain ⟨v, ev, r⟩ := h.2 i d e1
  refine ⟨v, ?_, r⟩
  rw [wipe_get, if_neg (fun z => e2 z.1)]
  exact ev
end
abbrev W0 : WX := fun _ _ _ _ => False
theorem fin.nox {K : PySem.W.Frag} {mg : Str → Option Value} {W : WX} {B : Addr → Prop} {m : List Addr} {S : Sto} {σ : L2.St} {H : Hp} {r : R D} {Q : VK} (h : fin K mg W B m S σ H r.nox Q) : fin K mg W0 B m S σ H r Q := by
  cases r with
  | ok d S' => exact h
  | exc c p S' => exact h.elim
  | bad => exact h
theorem R.nox_ok {α β : Type} {r : R α} {g : α → Sto → R β} : (∃ a S, r = .ok a S ∧ r.nox.bind g = g a S) ∨ r.nox.bind g = .bad := by
  cases r with
  | ok a S => exact .inl ⟨a, S, rfl, rfl⟩
  | exc c p S => exact .inr rfl
  | bad => exact .inr rfl
/-- all but what is live: without the state's own rule -/
structure Pc (m : List Addr) (S : Sto) (H : Hp) (m' : List Addr) (S' : Sto) (H' : Hp) : Prop where
  ext : ∃ l, m' = m ++ l ∧ ∀ a, a ∈ l → H a = none
  keep : ∀ a o, H a = some o → ¬ Liv m S a → H' a = some o
  smm : ∀ a, H a ≠ none → H' a ≠ none
  liv : ∀ a, Liv m' S' a → Liv m S a ∨ H a = none
section
variable {K : PySem.W.Frag} {mg : Str → Option Value} {B : Addr → Prop} {m m' m1 m2 : List Addr} {S S' S1 S2 : Sto} {H H' H1 H2 : Hp}
theorem Post.pc (p : Post K mg B m S H m' S' H') : Pc m S H m' S' H' := ⟨p.ext, p.keep, p.smm, p.liv⟩
theorem Pc.trans (p : Pc m S H m1 S1 H1) (q : Pc m1 S1 H1 m2 S2 H2) : Pc m S H m2 S2 H2 := by
  refine ⟨?_, fun a o h hl => ?_, fun a h => q.smm a (p.smm a h), fun a h => ?_⟩
  · obtain ⟨l, e, f⟩ := p.ext
    obtain ⟨l', e', f'⟩ := q.ext
    refine ⟨l ++ l', by rw [e', e, List.append_assoc], fun a h => ?_⟩
    rcases List.mem_append.mp h with h | h
    · exact f a h
    · have z := f' a h
      cases q2 : H a with
      | none => rfl
      | some o => exact absurd z (p.smm a (by rw [q2]; simp))
  · refine q.keep a o (p.keep a o h hl) fun l1 => ?_
    rcases p.liv a l1 with z | z
    · exact hl z
    · rw [h] at z; cases z
  · rcases q.liv a h with z | z
    · exact p.liv a z
    · right
      cases q2 : H a with
      | none => rfl
      | some o => exact absurd z (p.smm a (by rw [q2]; simp))
/-- a place that is not ours is written: D was new -/
theorem Pc.over (p : Pc m S H m' S' H') {D : Addr} {o : HO} (hD : H D = none) : Pc m S H m' S' (upd H' D o) :=
  ⟨p.ext, fun a u h hl => by rw [upd_ne (ne_of_none h hD)]; exact p.keep a u h hl, fun a h => by
    by_cases e : a = D
    · subst e; rw [upd_same]; simp
    · rw [upd_ne e]; exact p.smm a h, p.liv⟩
/-- B and one place more -/
def BD (B : Addr → Prop) (D : Addr) : Addr → Prop := fun a => B a ∨ a = D
theorem kp_write {Fb : Addr → Prop} {D : Addr} {acc : List V} {o : HO} (hD : H D = some (.lst acc)) (hF : Fb D) : Kp H (upd H D o) Fb Fb m m := by
  have ne : ∀ a, ¬ Fb a → a ≠ D := fun a f e => f (e ▸ hF)
  refine ⟨fun a xs h f => by rw [upd_ne (ne a f)]; exact h, fun a u h f => ?_, fun a o f h => ?_, fun _ _ _ f => f, fun _ _ h => h⟩
  · unfold Rd; rw [upd_ne (ne a f)]; exact h
  · have : a ≠ D := by
      rintro rfl
      rw [hD] at h
      cases h
      exact f
    rw [upd_ne this]; exact h
theorem Rl.write {D : Addr} {acc : List V} {o : HO} (r : Rl K mg (BD B D) m H S) (hD : H D = some (.lst acc)) : Rl K mg (BD B D) m (upd H D o) S := by
  have kp : Kp H (upd H D o) (Fo (BD B D) m S) (Fo (BD B D) m S) m m := kp_write hD (.inl (.inr rfl))
  have nD : ∀ a, Liv m S a → a ≠ D := fun a h e => r.nb a h (.inr e)
  have sm : ∀ a, H a ≠ none → upd H D o a ≠ none := fun a h => by
    by_cases e : a = D
    · subst e; rw [upd_same]; simp
    · rw [upd_ne e]; exact h
  refine ⟨r.len, r.nod, r.nb, fun a h => sm a (r.bt a h), fun a h => sm a (r.mt a h), fun n a u e1 e2 => ?_⟩
  have na : a ≠ D := nD a ⟨n, u, e1, e2⟩
  cases r.obj n a u e1 e2 with
  | lst h z q => exact .lst (by rw [upd_ne na]; exact h) z (q.kp kp)
  | dK h z e q => exact .dK (by rw [upd_ne na]; exact h) z e (q.kp kp)
  | dT h z e q => exact .dT (by rw [upd_ne na]; exact h) z e (q.kp kp)
  | ins g h e q => exact .ins g (by rw [upd_ne na]; exact h) e (q.kp kp)
theorem kp_anti {Fb Fb' : Addr → Prop} (h : ∀ a, Fb' a → Fb a) : Kp H H Fb Fb' m m := ⟨fun _ _ h _ => h, fun _ _ h _ => h, fun _ _ _ h => h, fun a _ _ f z => f (h a z), fun _ _ h => h⟩
theorem Rl.less {B' : Addr → Prop} (r : Rl K mg B m H S) (h : ∀ a, B' a → B a) : Rl K mg B' m H S := by
  have kp : Kp H H (Fo B m S) (Fo B' m S) m m := kp_anti fun a z => z.imp (h a) id
  refine ⟨r.len, r.nod, fun a l z => r.nb a l (h a z), fun a z => r.bt a (h a z), r.mt, fun n a u e1 e2 => ?_⟩
  cases r.obj n a u e1 e2 with
  | lst h z q => exact .lst h z (q.kp kp)
  | dK h z e q => exact .dK h z e (q.kp kp)
  | dT h z e q => exact .dT h z e (q.kp kp)
  | ins g h e q => exact .ins g h e (q.kp kp)
/-- a new place D that is not ours -/
theorem kp_aside {D : Addr} {o : HO} (hD : H D = none) : Kp H (upd H D o) (Fo B m S) (Fo (BD B D) m S) m m := by
  have s := same_upd (o := o) hD
  refine ⟨fun a xs h _ => s _ _ h, fun a u h _ => h.elim (fun h => .inl (s _ _ h)) fun ⟨o, h⟩ => .inr ⟨o, s _ _ h⟩, fun a o _ h => s _ _ h, fun a u h f z => ?_, fun _ _ h => h⟩
  rcases z with (z | z) | z
  · exact f (.inl z)
  · obtain ⟨o, e⟩ := rd_some h
    rw [z, hD] at e; cases e
  · exact f (.inr z)
theorem Rl.aside (r : Rl K mg B m H S) {D : Addr} {o : HO} (hD : H D = none) : Rl K mg (BD B D) m (upd H D o) S := by
  have s := same_upd (o := o) hD
  have kp := kp_aside (B := B) (m := m) (S := S) (o := o) hD
  have sm : ∀ a, H a ≠ none → upd H D o a ≠ none := fun a h => by
    cases e : H a with
    | none => exact absurd e h
    | some o => rw [s _ _ e]; simp
  refine ⟨r.len, r.nod, fun a l z => ?_, fun a z => ?_, fun a h => sm a (r.mt a h), fun n a u e1 e2 => ?_⟩
  · rcases z with z | z
    · exact r.nb a l z
    · obtain ⟨n, u, e1, e2⟩ := l
      exact r.mt a (List.mem_of_getElem? e1) (z ▸ hD)
  · rcases z with z | z
    · exact sm a (r.bt a z)
    · rw [z, upd_same]; simp
  · cases r.obj n a u e1 e2 with
    | lst h z q => exact .lst (s _ _ h) z (q.kp kp)
    | dK h z e q => exact .dK (s _ _ h) z e (q.kp kp)
    | dT h z e q => exact .dT (s _ _ h) z e (q.kp kp)
    | ins g h e q => exact .ins g (s _ _ h) e (q.kp kp)
end
section
variable {X : Cx} {W : WX} {tg iter elt : Expr} {ifs : List Expr} {fi : Ix} {t : Tg} {tt : Tx} {fe : Ex} {scope : Scope} {own : List (Str × Nat)} {pos : Pos}
/-- the tests of a clause -/
def TVs (X : Cx) (W : WX) (ifs : List Expr) (f : Tx) : Prop := PTs X ifs (upT X.K X.mg W f)
theorem tvs_nil : TVs X W [] tYesX := ⟨fun pins s σ H Q I ⟨B, m, ρ, S, r, re, f⟩ => pts_nil.run pins s σ H Q I (f m H (Post.refl r))⟩
theorem tvs_one {c : Expr} (h : TV X W c tt) : TVs X W [c] tt := ⟨fun pins s σ H Q I q => (pts_one h).run pins s σ H Q I q⟩
theorem finI.bind {K : PySem.W.Frag} {mg : Str → Option Value} {B : Addr → Prop} {m : List Addr} {S : Sto} {σ : L2.St} {H : Hp} {Q : VK} {r : R (List D)} {g : List D → Sto → R D} (h : fin K mg W B m S σ H (r.bind g) Q) :
    finI K mg W B m S σ H r (fun J H1 => ∃ m1 S1 xs, Post K mg B m S H m1 S1 H1 ∧ ItR K H1 (Fo B m1 S1) m1 J xs ∧ fin K mg W B m1 S1 σ H1 (g xs S1) Q) := by
  cases r with
  | ok d S' => exact fun m' H' J p q => ⟨m', S', d, p, q, fin.later p h⟩
  | exc c p' S' => exact h
  | bad => exact h
theorem notin_ext {D : Addr} {m m' : List Addr} {H : Hp} {o : HO} (h : D ∉ m) (e : ∃ l, m' = m ++ l ∧ ∀ a, a ∈ l → H a = none) (hD : H D = some o) : D ∉ m' := by
  obtain ⟨l, e, f⟩ := e
  subst e
  intro z
  rcases List.mem_append.mp z with z | z
  · exact h z
  · rw [f D z] at hD; cases hD
/-- the walk of a comprehension, whatever is made of the list -/
theorem lc_of {K : PySem.W.Frag} {mg : Str → Option Value} {σ : L2.St} {H : Hp} {Q : VK} {vs : List Nat} {Fin : List D → Sto → R D} (hv : ∀ i ∈ t.sl, i ∈ vs) (h : up K mg W (fun ρ S => (fi ρ S).bind fun xs S => (compL t tt fe vs xs ρ S []).bind Fin) σ H Q)
    (hf : ∀ B m1 S1 H1 m2 S2 H2 D acc ds, Rl K mg B m1 H1 S1 → H1 D = none → Pc m1 S1 H1 m2 S2 H2 → Rl K mg (BD B D) m2 H2 S2 → H2 D = some (.lst acc) → RepA K H2 (Fo (BD B D) m2 S2) m2 acc ds → acc.length ≤ sizeLine → D ∉ m2 → fin K mg W B m1 S1 σ H1 (Fin ds S2) Q → Q (.ref D) H2) :
    tLc (upI K mg W fi) (Tg.rd K t) (upT K mg W0 tt) (up K mg W0 fe) vs σ H Q := by
  obtain ⟨B, m, ρ, S, r, re, f⟩ := h
  refine ⟨B, m, ρ, S, r, re, finI.mono (finI.bind f) fun J H1 => ?_⟩
  rintro ⟨m1, S1, xs, p1, itr, f1⟩ D hD
  have re1 := re.kp (p1.kp r)
  have k0 := kp_aside (B := B) (m := m1) (S := S1) (o := .lst []) hD
  refine ⟨fun i n H => n = xs.length - i ∧ i ≤ xs.length ∧ ∃ m2 S2 acc ds, Pc m1 S1 H1 m2 S2 H ∧ Kp H1 H (Fo B m1 S1) (Fo (BD B D) m2 S2) m1 m2 ∧ Rl K mg (BD B D) m2 H S2 ∧ H D = some (.lst acc) ∧ RepA K H (Fo (BD B D) m2 S2) m2 acc ds ∧ acc.length ≤ sizeLine ∧ D ∉ m2 ∧
      fin K mg W B m1 S1 σ H1 ((compL t tt fe vs (xs.drop i) ρ S2 ds).bind Fin) Q,
    ⟨xs.length, by simp, Nat.zero_le _, m1, S1, [], [], (Post.refl p1.rl).pc.over hD, k0, p1.rl.aside hD, upd_same, .nil, by simp, fun z => p1.rl.mt D z hD, by simpa using f1⟩, ?_⟩
  rintro i n H2 ⟨rfl, hi, m2, S2, acc, ds, pc, kp, rl, hacc, qa, za, nD, f2⟩
  obtain ⟨go, stop⟩ := itr H2 _ m2 kp
  by_cases hlt : i < xs.length
  · right
    refine ⟨(go i hlt).1, fun H' => ∃ m3 S3 acc ds, Pc m1 S1 H1 m3 S3 H' ∧ Kp H1 H' (Fo B m1 S1) (Fo (BD B D) m3 S3) m1 m3 ∧ Rl K mg (BD B D) m3 H' S3 ∧ H' D = some (.lst acc) ∧ RepA K H' (Fo (BD B D) m3 S3) m3 acc ds ∧ acc.length ≤ sizeLine ∧ D ∉ m3 ∧
      fin K mg W B m1 S1 σ H1 ((compL t tt fe vs (xs.drop (i + 1)) ρ S3 ds).bind Fin) Q, ?_, ?_⟩
    · rintro H' ⟨m3, S3, acc3, ds3, h3⟩
      exact ⟨_, by omega, rfl, hlt, m3, S3, acc3, ds3, h3⟩
    · intro x H3 y
      obtain ⟨d, ed, sm, rx⟩ := (go i hlt).2 x H3 y
      have p3 : Post K mg (BD B D) m2 S2 H2 m2 S2 H3 := Post.grow rl sm
      have kp3 := kp.trans (p3.kp rl)
      have ed' : xs[i] = d := by
        have := List.getElem?_eq_getElem hlt
        rw [this] at ed
        exact Option.some.inj ed
      rw [List.drop_eq_getElem_cons hlt, ed'] at f2
      unfold compL at f2
      cases e1 : t.put d (wipeD ρ vs) with
      | none => rw [e1] at f2; exact f2.elim
      | some ρ4 =>
        rw [e1] at f2
        dsimp only at f2
        refine Tg.rd_okP (A := fun σ' => L2.wipe σ' vs = L2.wipe σ vs) t (fun σ i v h1 h2 => by rw [wipe_set (hv i h1)]; exact h2) e1 rx ((re1.kp kp3).wipe vs) ?_ fun σ4 re4 a4 => ⟨a4, BD B D, m2, ρ4, S2, p3.rl, re4, ?_⟩
        · apply List.ext_getElem?
          intro j
          rw [wipe_get, wipe_get, wipe_length]
          by_cases h1 : j ∈ vs ∧ j < σ.length
          · simp [h1]
          · simp [h1]
        · -- the test
          rcases R.nox_ok (r := tt ρ4 S2) (g := fun b S => if b = true then (fe ρ4 S).nox.bind fun y S => if ds.length < sizeLine then compL t tt fe vs (xs.drop (i + 1)) ρ S (ds ++ [y]) else .bad else compL t tt fe vs (xs.drop (i + 1)) ρ S ds) with ⟨b, S5, e5, e6⟩ | e6
          · rw [e6] at f2
            rw [e5]
            intro m5 H5 p5
            have kp5 := kp3.trans (p5.kp p3.rl)
            have pc5 : Pc m1 S1 H1 m5 S5 H5 := (pc.trans p3.pc).trans p5.pc
            have hacc5 : H5 D = some (.lst acc) := p5.keep _ _ (p3.keep _ _ hacc fun z => rl.nb _ z (.inr rfl)) fun z => p3.rl.nb _ z (.inr rfl)
            have qa5 := (qa.kp (p3.kp rl)).kp (p5.kp p3.rl)
            have nD5 : D ∉ m5 := notin_ext nD p5.ext (p3.keep _ _ hacc fun z => rl.nb _ z (.inr rfl))
            cases b with
            | false =>
              rw [if_neg Bool.false_ne_true] at f2 ⊢
              exact ⟨m5, S5, acc, ds, pc5, kp5, p5.rl, hacc5, qa5, za, nD5, f2⟩
            | true =>
              rw [if_pos rfl] at f2 ⊢
              rcases R.nox_ok (r := fe ρ4 S5) (g := fun y S => if ds.length < sizeLine then compL t tt fe vs (xs.drop (i + 1)) ρ S (ds ++ [y]) else .bad) with ⟨y, S6, e7, e8⟩ | e8
              · rw [e8] at f2
                refine ⟨BD B D, m5, ρ4, S5, p5.rl, re4.kp (p5.kp p3.rl), ?_⟩
                rw [e7]
                intro m6 H6 v p6 rv
                have hacc6 : H6 D = some (.lst acc) := p6.keep _ _ hacc5 fun z => p5.rl.nb _ z (.inr rfl)
                split at f2
                · rename_i hz
                  have hl : acc.length = ds.length := qa.length
                  refine ⟨acc, hacc6, by rw [hl]; exact hz, m6, S6, acc ++ [v], ds ++ [y], (pc5.trans p6.pc).over hD, (kp5.trans (p6.kp p5.rl)).trans (kp_write hacc6 (.inl (.inr rfl))), p6.rl.write hacc6, upd_same, ?_, by simp; omega, notin_ext nD5 p6.ext hacc5, f2⟩
                  exact ((qa5.kp (p6.kp p5.rl)).append (.cons rv .nil)).kp (kp_write hacc6 (.inl (.inr rfl)))
                · exact f2.elim
              · rw [e8] at f2; exact f2.elim
          · rw [e6] at f2; exact f2.elim
  · left
    have hd : xs.drop i = [] := List.drop_eq_nil_of_le (by omega)
    rw [hd] at f2
    exact ⟨stop i (by omega), hf B m1 S1 H1 m2 S2 H2 D acc ds p1.rl hD pc rl hacc qa za nD f2⟩
theorem post_of_pc {K : PySem.W.Frag} {mg : Str → Option Value} {B : Addr → Prop} {m m' : List Addr} {S S' : Sto} {H H' : Hp} (p : Pc m S H m' S' H') (r : Rl K mg B m' H' S') : Post K mg B m S H m' S' H' := ⟨p.ext, p.keep, p.smm, r, p.liv⟩
theorem fo_bd {B : Addr → Prop} {D : Addr} {m : List Addr} {S : Sto} : ∀ a, Fo B m S a → Fo (BD B D) m S a := fun a z => z.imp .inl id
theorem ev_comp (hc : X.calm = true) (hN : X.N.Nodup) (hi : IV X W tg iter fi) (ok : BlkOk X.N X.env.scope scope own)
    (hg : ∀ (s : Shared) (H : Hp) (C : Addr) (cl : List (Str × Addr)) (fp : List Addr), GV (X.blk s H scope (compEnvC scope cl C X.env) fp) tg t) (ht : ∀ (s : Shared) (H : Hp) (C : Addr) (cl : List (Str × Addr)) (fp : List Addr), TVs (X.blk s H scope (compEnvC scope cl C X.env) fp) W0 ifs tt)
    (he : ∀ (s : Shared) (H : Hp) (C : Addr) (cl : List (Str × Addr)) (fp : List Addr), EV (X.blk s H scope (compEnvC scope cl C X.env) fp) W0 elt fe) (hv : ∀ i ∈ t.sl, i ∈ own.map (·.2) := by decide) (hs : ∀ x, foldedSetIterable iter X.env x = pure x := by intro _; rfl) :
    EV X W (.ListComp elt [⟨tg, iter, ifs, 0⟩] scope pos) (eComp fi t tt fe (own.map (·.2))) := by
  refine pe_imp (pe_lc (g := Tg.rd X.K t) (tt := upT X.K X.mg W0 tt) (te := up X.K X.mg W0 fe) hc hN hi ok hg ht he hs) fun σ H Q h => lc_of hv h fun B m1 S1 H1 m2 S2 H2 D acc ds r1 hD pc rl hacc qa za nD f => ?_
  have rl2 : Rl X.K X.mg B m2 H2 S2 := rl.less fun a z => .inl z
  have nf : ¬ Fo B m2 S2 D := by
    rintro (z | z)
    · exact r1.bt D z hD
    · exact rl.nb D z (.inr rfl)
  exact f m2 H2 _ (post_of_pc pc rl2) (.lst hacc nf za (qa.kp (kp_anti fo_bd)))
end
end DL
set_option Elab.async false
set_option linter.all false
set_option maxRecDepth 100000
set_option maxHeartbeats 4000000
namespace DL
open PySem PySem.Spec PyProof.Rows L2
mutual
def toP : D → Option PyData
  | .non => some .none
  | .bl b => some (.bool b)
  | .int i => some (.int i)
  | .str x => some (.str x)
  | .tup xs => (toPs xs).map .tuple
  | .lst xs => (toPs xs).map .list
  | _ => none
def toPs : List D → Option (List PyData)
  | [] => some []
  | d :: ds => match toP d, toPs ds with
    | some p, some ps => some (p :: ps)
    | _, _ => none
end
def eqS : D → D → Option Bool
  | .str x, .str y => some (decide (x = y))
  | _, _ => none
def eqB (a b : D) : Option Bool := match eqS a b with
  | some c => some c
  | none => match toP a, toP b with
    | some p, some q => if SeqAt.shaped p && SeqAt.shaped q then some (PyData.eqv p q) else none
    | _, _ => none
def eqD (a b : D) : Option D := (eqB a b).map .bl
def neD (a b : D) : Option D := (eqB a b).map fun c => .bl (!c)
section
variable {K : PySem.W.Frag} {H : Hp} {Fb : Addr → Prop} {m : List Addr}
mutual
theorem Rep.dp : ∀ {v : V} {d : D} {p : PyData}, Rep K H Fb m v d → toP d = some p → Dp K H v p
  | _, _, _, .non, e => by cases e; exact .non
  | _, _, _, .bl b, e => by cases e; exact .bl b
  | _, _, _, .int i, e => by cases e; exact .int i
  | _, _, _, .str x, e => by cases e; exact .str x
  | _, _, _, .tup (ds := ds) h z r, e => by
    cases e1 : toPs ds with
    | none => simp [toP, e1] at e
    | some ps => simp [toP, e1] at e; subst e; exact .tup h (RepA.dp r e1)
  | _, _, _, .lst (ds := ds) h f z r, e => by
    cases e1 : toPs ds with
    | none => simp [toP, e1] at e
    | some ps => simp [toP, e1] at e; subst e; exact .lst (SqL.of h) (RepA.dp r e1)
  | _, _, _, .dK h z q r, e => by simp [toP] at e
  | _, _, _, .dT h z q r, e => by simp [toP] at e
  | _, _, _, .ref h, e => by simp [toP] at e
  | _, _, _, .raw v, e => by simp [toP] at e
  | _, _, _, .scr h z, e => by simp [toP] at e
  | _, _, _, .exn h f, e => by simp [toP] at e
  | _, _, _, .exp h f h2 f2 n r, e => by simp [toP] at e
theorem RepA.dp : ∀ {vs : List V} {ds : List D} {ps : List PyData}, RepA K H Fb m vs ds → toPs ds = some ps → DpAll K H vs ps
  | _, _, _, .nil, e => by cases e; exact .nil
  | _, _, _, .cons (d := d) (ds := ds) h r, e => by
    cases e1 : toP d with
    | none => simp [toPs, e1] at e
    | some p =>
      cases e2 : toPs ds with
      | none => simp [toPs, e1, e2] at e
      | some ps => simp [toPs, e1, e2] at e; subst e; exact .cons (Rep.dp h e1) (RepA.dp r e2)
end
theorem Vw.dp {v : V} {d : D} {p : PyData} (h : Vw K H Fb m v d) (e : toP d = some p) : Dp K H v p := by
  cases h with
  | oth h => exact h.dp e
  | lst h z r =>
    rename_i ds
    cases e1 : toPs ds with
    | none => simp [toP, e1] at e
    | some ps => simp [toP, e1] at e; subst e; exact .lst (SqL.of h) (r.dp e1)
  | dK h z q r => simp [toP] at e
  | dT h z q r => simp [toP] at e
end
section
variable {X : Cx}
theorem eqS_some {a b : D} {c : Bool} (e : eqS a b = some c) : ∃ x y, a = .str x ∧ b = .str y ∧ c = decide (x = y) := by
  unfold eqS at e
  split at e
  · cases e
    exact ⟨_, _, rfl, rfl, rfl⟩
  · cases e
theorem eqB_some {a b : D} {c : Bool} (e : eqB a b = some c) : (∃ x y, a = .str x ∧ b = .str y ∧ c = decide (x = y)) ∨ ∃ p q, toP a = some p ∧ toP b = some q ∧ SeqAt.shaped p = true ∧ SeqAt.shaped q = true ∧ c = PyData.eqv p q := by
  unfold eqB at e
  split at e
  · rename_i e0
    cases e
    exact .inl (eqS_some e0)
  · right
    split at e
    · rename_i p q e1 e2
      split at e
      · rename_i h
        cases e
        have := Bool.and_eq_true_iff.mp h
        exact ⟨p, q, e1, e2, this.1, this.2, rfl⟩
      · cases e
    · cases e
theorem og_eq (hu : X.A.units + 64 < cLine) : OpR X (compareOp .Eq) (rG2 X.K eqD) := by
  intro pins s σ H x y v u Q I rx ry ⟨Fb, m, dx, dy, d, fr, vx, vy, e, k⟩
  obtain ⟨c, e1, rfl⟩ := Option.map_eq_some_iff.mp e
  rcases eqB_some e1 with ⟨a, b, rfl, rfl, rfl⟩ | ⟨p, q, a1, a2, a3, a4, rfl⟩
  · cases vx.asS
    cases vy.asS
    have e2 : decide (V.str a = V.str b) = decide (a = b) := by by_cases z : a = b <;> simp [z]
    exact op_eq pins s σ H _ _ v u Q I rx ry ⟨rfl, by rw [e2]; exact k H _ (Same.refl H) (.bl _)⟩
  exact op_eqD hu pins s σ H x y v u Q I rx ry ⟨p, q, vx.dp a1, vy.dp a2, a3, a4, k H _ (Same.refl H) (.bl _)⟩
theorem og_ne (hu : X.A.units + 64 < cLine) : OpR X (compareOp .NotEq) (rG2 X.K neD) := by
  intro pins s σ H x y v u Q I rx ry ⟨Fb, m, dx, dy, d, fr, vx, vy, e, k⟩
  obtain ⟨c, e1, rfl⟩ := Option.map_eq_some_iff.mp e
  rcases eqB_some e1 with ⟨a, b, rfl, rfl, rfl⟩ | ⟨p, q, a1, a2, a3, a4, rfl⟩
  · cases vx.asS
    cases vy.asS
    have e2 : decide (V.str a = V.str b) = decide (a = b) := by by_cases z : a = b <;> simp [z]
    exact op_ne pins s σ H _ _ v u Q I rx ry ⟨rfl, by rw [e2]; exact k H _ (Same.refl H) (.bl _)⟩
  exact op_neD hu pins s σ H x y v u Q I rx ry ⟨p, q, vx.dp a1, vy.dp a2, a3, a4, k H _ (Same.refl H) (.bl _)⟩
def ltD : D → D → Option D
  | .int i, .int j => some (.bl (decide (i < j)))
  | _, _ => none
def leD : D → D → Option D
  | .int i, .int j => some (.bl (decide (i ≤ j)))
  | _, _ => none
def gtD : D → D → Option D
  | .int i, .int j => some (.bl (decide (j < i)))
  | _, _ => none
def geD : D → D → Option D
  | .int i, .int j => some (.bl (decide (j ≤ i)))
  | _, _ => none
theorem og_lt : OpR X (compareOp .Lt) (rG2 X.K ltD) := og_int op_lt fun dx dy d e => by
  unfold ltD at e
  split at e
  · rename_i i j; cases e; exact ⟨i, j, _, rfl, rfl, rfl, fun H Q k => ⟨i, j, rfl, rfl, k _ fun _ _ _ => .bl _⟩⟩
  · cases e
theorem og_gt : OpR X (compareOp .Gt) (rG2 X.K gtD) := og_int op_gt fun dx dy d e => by
  unfold gtD at e
  split at e
  · rename_i i j; cases e; exact ⟨i, j, _, rfl, rfl, rfl, fun H Q k => ⟨i, j, rfl, rfl, k _ fun _ _ _ => .bl _⟩⟩
  · cases e
theorem og_ge : OpR X (compareOp .GtE) (rG2 X.K geD) := og_int op_ge fun dx dy d e => by
  unfold geD at e
  split at e
  · rename_i i j; cases e; exact ⟨i, j, _, rfl, rfl, rfl, fun H Q k => ⟨i, j, rfl, rfl, k _ fun _ _ _ => .bl _⟩⟩
  · cases e
/-- is None -/
def isNonD : D → Option Bool
  | .non => some true
  | .bl _ => some false
  | .int _ => some false
  | .str _ => some false
  | .tup _ => some false
  | .lst _ => some false
  | .dic _ _ => some false
  | .ref _ => some false
  | .scr _ => some false
  | .exn _ _ => some false
  | .raw _ => none
def isD (a b : D) : Option D := match b with
  | .non => (isNonD a).map .bl
  | _ => none
def isntD (a b : D) : Option D := match b with
  | .non => (isNonD a).map fun c => .bl (!c)
  | _ => none
theorem Rep.isNon {K : PySem.W.Frag} {H : Hp} {Fb : Addr → Prop} {m : List Addr} {v : V} {d : D} {c : Bool} (h : Rep K H Fb m v d) (e : isNonD d = some c) : decide (v = .non) = c := by
  cases h <;> simp [isNonD] at e <;> subst e <;> simp
theorem Vw.isNon {K : PySem.W.Frag} {H : Hp} {Fb : Addr → Prop} {m : List Addr} {v : V} {d : D} {c : Bool} (h : Vw K H Fb m v d) (e : isNonD d = some c) : decide (v = .non) = c := by
  cases h with
  | oth h => exact h.isNon e
  | _ => simp [isNonD] at e; subst e; simp
theorem og_is : OpR X (compareOp .Is) (rG2 X.K isD) := by
  intro pins s σ H x y v u Q I rx ry ⟨Fb, m, dx, dy, d, fr, vx, vy, e, k⟩
  unfold isD at e
  split at e
  · obtain ⟨c, e1, rfl⟩ := Option.map_eq_some_iff.mp e
    have : y = .non := by cases vy with | oth h => cases h; rfl
    subst this
    refine op_isN pins s σ H _ _ v u Q I rx ry ⟨rfl, ?_⟩
    rw [vx.isNon e1]
    exact k H _ (Same.refl H) (.bl _)
  · cases e
theorem og_isnt : OpR X (compareOp .IsNot) (rG2 X.K isntD) := by
  intro pins s σ H x y v u Q I rx ry ⟨Fb, m, dx, dy, d, fr, vx, vy, e, k⟩
  unfold isntD at e
  split at e
  · obtain ⟨c, e1, rfl⟩ := Option.map_eq_some_iff.mp e
    have : y = .non := by cases vy with | oth h => cases h; rfl
    subst this
    refine op_notN pins s σ H _ _ v u Q I rx ry ⟨rfl, ?_⟩
    rw [vx.isNon e1]
    exact k H _ (Same.refl H) (.bl _)
  · cases e
def negD : D → Option D
  | .int i => some (.int (-i))
  | _ => none
theorem og_neg : UnR X (unaryOp .USub) (rG1 X.K negD) := by
  intro pins s σ H x v Q I rx ⟨Fb, m, dx, d, fr, vx, e, k⟩
  unfold negD at e
  split at e
  · rename_i i
    cases e
    cases vx.asI
    exact un_neg pins s σ H _ v Q I rx ⟨i, rfl, k H _ (Same.refl H) (.int _)⟩
  · cases e
def ixD : D → D → Option D
  | .lst xs, .int i => atI xs i
  | .tup xs, .int i => atI xs i
  | .str z, .int i => if z.length ≤ sizeLine then (atI z.cps.toList i).map fun c => .str ⟨#[c]⟩ else none
  | .dic t kvs, y => dgetD (.dic t kvs) y
  | _, _ => none
theorem RepA.atI {K : PySem.W.Frag} {H : Hp} {Fb : Addr → Prop} {m : List Addr} {vs : List V} {ds : List D} (h : RepA K H Fb m vs ds) {i : Int} {d : D} (e : L2.atI ds i = some d) : ∃ v, L2.atI vs i = some v ∧ Rep K H Fb m v d := by
  unfold L2.atI at e ⊢
  rw [h.length]
  cases e1 : ixN ds.length i with
  | none => rw [e1] at e; cases e
  | some j =>
    rw [e1] at e
    obtain ⟨v, ev, r⟩ := h.get (i := j) e
    exact ⟨v, ev, r⟩
theorem og_ix (hu : X.A.units + 64 < cLine) : IxR X (rG2 X.K ixD) := by
  intro value slice pins s σ H x y v u Q I rx ry ⟨Fb, m, dx, dy, d, fr, vx, vy, e, k⟩ hs
  unfold ixD at e
  split at e
  · rename_i xs i
    obtain ⟨a, vs, rfl, h1, z1, q1⟩ := vx.asL
    cases vy.asI
    obtain ⟨w, ew, rw'⟩ := q1.atI e
    exact ix_list value slice pins s σ H _ _ v u Q I rx ry ⟨a, vs, i, w, rfl, rfl, SqL.of h1, ew, k H _ (Same.refl H) rw'⟩ hs
  · rename_i xs i
    obtain ⟨a, vs, rfl, h1, z1, q1⟩ := vx.asT
    cases vy.asI
    obtain ⟨w, ew, rw'⟩ := q1.atI e
    exact ix_tup value slice pins s σ H _ _ v u Q I rx ry ⟨a, vs, i, w, rfl, rfl, h1, ew, k H _ (Same.refl H) rw'⟩ hs
  · rename_i z i
    split at e
    · rename_i hz
      obtain ⟨c, e1, rfl⟩ := Option.map_eq_some_iff.mp e
      cases vx.asS
      cases vy.asI
      exact ix_str value slice pins s σ H _ _ v u Q I rx ry ⟨z, i, c, rfl, rfl, hz, e1, k H _ (Same.refl H) (.str _)⟩ hs
    · cases e
  · obtain ⟨a, w, rfl, g, rw'⟩ := dget_ok vx vy e
    exact ix_dict (by omega) value slice pins s σ H _ _ v u Q I rx ry ⟨a, w, rfl, g, k H _ (Same.refl H) rw'⟩ hs
  · cases e
theorem ev_ix {W : WX} {a b : Expr} {fa fb : Ex} {pos : Pos} (hu : X.A.units + 64 < cLine) (ha : EV X W a fa) (hb : EV X W b fb) (hs : PlainIx b := by exact fun _ _ => rfl) : EV X W (.Subscript a b pos) (eOp2 ixD fa fb) := pe_imp (pe_ix (og_ix hu) ha hb hs) fun σ H Q h => two_of h
/-- a slice's parts -/
def cutD (xs : List D) (lo hi : Option Int) : List D := (xs.drop (HT.sIx xs.length 0 lo)).take (HT.sIx xs.length xs.length hi - HT.sIx xs.length 0 lo)
def slD (d : D) (lo hi : Option Int) : Option D := match d with
  | .lst xs => some (.lst (cutD xs lo hi))
  | .tup xs => some (.tup (cutD xs lo hi))
  | .scr ns => some (.lst (cutD (ns.map .int) lo hi))
  | .str z => if z.length ≤ sizeLine then some (.str (cutS z lo hi)) else none
  | _ => none
def ePart : Option Ex → Ev → Sto → R (Option Int)
  | none, _, S => .ok none S
  | some f, ρ, S => (f ρ S).bind fun d S => match d with
    | .int i => .ok (some i) S
    | _ => .bad
def eSl (a : Ex) (lo hi : Option Ex) : Ex := fun ρ S => (a ρ S).bind fun d S => (ePart lo ρ S).bind fun l S => (ePart hi ρ S).bind fun u S => ans S (slD (view S d) l u)
def rGsl (K : PySem.W.Frag) : V → Option Int → Option Int → Hp → VK → Prop := fun x lo hi H Q => ∃ Fb m dx d, (∀ p, H p = none → ¬ Fb p) ∧ Vw K H Fb m x dx ∧ slD dx lo hi = some d ∧ ∀ H' z, Same H H' → Rep K H' Fb m z d → Q z H'
theorem RepA.cut {K : PySem.W.Frag} {H : Hp} {Fb : Addr → Prop} {m : List Addr} {vs : List V} {ds : List D} (h : RepA K H Fb m vs ds) (lo hi : Option Int) : RepA K H Fb m (cutV vs lo hi) (cutD ds lo hi) := by
  unfold cutV cutD
  rw [h.length]
  exact (h.drop _).take _
theorem repA_ints {K : PySem.W.Frag} {H : Hp} {Fb : Addr → Prop} {m : List Addr} : ∀ ns : List Int, RepA K H Fb m (ns.map V.int) (ns.map D.int)
  | [] => .nil
  | n :: ns => .cons (.int n) (repA_ints ns)
theorem og_sl : SlR X (rGsl X.K) := by
  intro pins s σ H x v vl vu lo hi sl Q I rx hs pl pu ⟨Fb, m, dx, d, fr, vx, e, k⟩
  unfold slD at e
  split at e
  · rename_i xs
    cases e
    obtain ⟨a, vs, rfl, h1, z1, q1⟩ := vx.asL
    refine sl_list pins s σ H _ v vl vu lo hi sl Q I rx hs pl pu ⟨a, vs, rfl, SqL.of h1, fun p hp => ?_⟩
    exact k _ _ (same_upd hp) (.lst upd_same (fr p hp) (Nat.le_trans (cutV_length _ _ _) z1) ((q1.cut lo hi).kp (kp_same (same_upd hp))))
  · rename_i xs
    cases e
    obtain ⟨a, vs, rfl, h1, z1, q1⟩ := vx.asT
    refine sl_tupA pins s σ H _ v vl vu lo hi sl Q I rx hs pl pu ⟨a, vs, rfl, h1, fun hw => ?_, fun _ p hp => ?_⟩
    · refine k H _ (Same.refl H) ?_
      have : cutD xs lo hi = xs := by
        unfold cutD
        rw [← q1.length, hw.1, hw.2]
        simp [q1.length]
      rw [this]
      exact .tup h1 z1 q1
    · exact k _ _ (same_upd hp) (.tup (.of upd_same) (Nat.le_trans (cutV_length _ _ _) z1) ((q1.cut lo hi).kp (kp_same (same_upd hp))))
  · rename_i ns
    cases e
    cases vx with
    | oth h =>
      cases h with
      | scr h z =>
        refine sl_list pins s σ H _ v vl vu lo hi sl Q I rx hs pl pu ⟨_, _, rfl, h.sq, fun p hp => ?_⟩
        exact k _ _ (same_upd hp) (.lst upd_same (fr p hp) (Nat.le_trans (cutV_length _ _ _) (by simpa using z)) (((repA_ints ns).cut lo hi).kp (kp_same (same_upd hp))))
  · rename_i z
    split at e
    · rename_i hz
      cases e
      cases vx.asS
      exact sl_str pins s σ H _ v vl vu lo hi sl Q I rx hs pl pu ⟨z, rfl, hz, k H _ (Same.refl H) (.str _)⟩
    · cases e
  · cases e
section
variable {W : WX}
def finP (K : PySem.W.Frag) (mg : Str → Option Value) (W : WX) (B : Addr → Prop) (m : List Addr) (S : Sto) (σ : L2.St) (H : Hp) (r : R (Option Int)) (Q : Option Int → Hp → Prop) : Prop := match r with
  | .ok b S' => ∀ m' H', Post K mg B m S H m' S' H' → Q b H'
  | .exc c p S' => ∀ m' H' cls dd, Post K mg B m S H m' S' H' → XcR K mg H' (Fo B m' S') m' c p cls dd → W cls dd σ H'
  | .bad => False
theorem finP.bind {K : PySem.W.Frag} {mg : Str → Option Value} {B : Addr → Prop} {m : List Addr} {S : Sto} {σ : L2.St} {H : Hp} {r : R (Option Int)} {g : Option Int → Sto → R D} {Q : VK} (h : fin K mg W B m S σ H (r.bind g) Q) :
    finP K mg W B m S σ H r (fun b H1 => ∃ m1 S1, Post K mg B m S H m1 S1 H1 ∧ fin K mg W B m1 S1 σ H1 (g b S1) Q) := by
  cases r with
  | ok d S' => exact fun m' H' p => ⟨m', S', p, fin.later p h⟩
  | exc c p' S' => exact h
  | bad => exact h
def upP (K : PySem.W.Frag) (mg : Str → Option Value) (W : WX) (f : Option Ex) : TO := fun σ H Q => ∃ B m ρ S, Rl K mg B m H S ∧ RepE K H (Fo B m S) m σ ρ ∧ finP K mg W B m S σ H (ePart f ρ S) Q
theorem po_imp {e : Option Expr} {t t' : TO} (h : PO X e t) (k : ∀ σ H Q, t' σ H Q → t σ H Q) : PO X e t' := ⟨fun pins s σ H Q I q => h.run pins s σ H Q I (k σ H Q q)⟩
def PV (X : Cx) (W : WX) (e : Option Expr) (f : Option Ex) : Prop := PO X e (upP X.K X.mg W f)
theorem pv_none : PV X W none none := po_imp po_none fun σ H Q ⟨B, m, ρ, S, r, re, f⟩ => f m H (Post.refl r)
theorem pv_some {e : Expr} {f : Ex} (h : EV X W e f) : PV X W (some e) (some f) := by
  refine po_imp (po_some h) fun σ H Q h => ?_
  obtain ⟨B, m, ρ, S, r, re, g⟩ := h
  refine ⟨B, m, ρ, S, r, re, ?_⟩
  have g' : finP X.K X.mg W B m S σ H ((f ρ S).bind fun d S => match d with | .int i => .ok (some i) S | _ => .bad) Q := g
  cases e1 : f ρ S with
  | bad => rw [e1] at g'; exact g'
  | exc c p S1 => rw [e1] at g'; exact g'
  | ok d S1 =>
    rw [e1] at g'
    intro m1 H1 v p q
    cases d with
    | int i => cases q; exact ⟨i, rfl, g' m1 H1 p⟩
    | _ => exact g'.elim
theorem ev_sl {a : Expr} {lo hi : Option Expr} {fa : Ex} {fl fh : Option Ex} {pos p2 : Pos} (ha : EV X W a fa) (hl : PV X W lo fl) (hh : PV X W hi fh) : EV X W (.Subscript a (.Slice lo hi none p2) pos) (eSl fa fl fh) := by
  refine pe_imp (pe_slice og_sl ha hl hh) fun σ H Q h => ?_
  obtain ⟨B, m, ρ, S, r, re, f⟩ := up_one (g := fun d ρ S => (ePart fl ρ S).bind fun l S => (ePart fh ρ S).bind fun u S => ans S (slD (view S d) l u)) h
  refine ⟨B, m, ρ, S, r, re, f.mono fun x H1 => ?_⟩
  rintro ⟨B, m, ρ, S, dx, r, re, rx, f⟩
  have f1 := finP.bind f
  refine ⟨B, m, ρ, S, r, re, ?_⟩
  cases e1 : ePart fl ρ S with
  | bad => rw [e1] at f1; exact f1
  | exc c p S1 => rw [e1] at f1; exact f1
  | ok l S1 =>
    rw [e1] at f1
    intro m2 H2 p2
    obtain ⟨m3, S3, p3, f3⟩ := f1 m2 H2 p2
    have f4 := finP.bind f3
    refine ⟨B, m3, ρ, S3, p3.rl, re.kp (p3.kp r), ?_⟩
    cases e2 : ePart fh ρ S3 with
    | bad => rw [e2] at f4; exact f4
    | exc c p S1 => rw [e2] at f4; exact f4
    | ok u S4 =>
      rw [e2] at f4
      intro m5 H5 p5
      obtain ⟨m6, S6, p6, f6⟩ := f4 m5 H5 p5
      cases e3 : slD (view S6 dx) l u with
      | none => rw [e3] at f6; exact f6.elim
      | some d =>
        rw [e3] at f6
        exact ⟨_, m6, _, d, fr_of p6.rl, vw p6.rl ((rx.kp (p3.kp r)).kp (p6.kp p3.rl)), e3, fun H' z s q => f6.ok p6.rl s q⟩
end
end
end DL
set_option Elab.async false
set_option linter.all false
set_option maxRecDepth 100000
set_option maxHeartbeats 4000000
namespace DL
open PySem PySem.Spec PyProof.Rows L2
theorem VwA.one {K : PySem.W.Frag} {H : Hp} {Fb : Addr → Prop} {m : List Addr} {vs : List V} {d : D} (h : VwA K H Fb m vs [d]) : ∃ v, vs = [v] ∧ Vw K H Fb m v d := by
  cases h with
  | cons h t => cases t; exact ⟨_, rfl, h⟩
theorem VwA.two {K : PySem.W.Frag} {H : Hp} {Fb : Addr → Prop} {m : List Addr} {vs : List V} {d e : D} (h : VwA K H Fb m vs [d, e]) : ∃ v w, vs = [v, w] ∧ Vw K H Fb m v d ∧ Vw K H Fb m w e := by
  cases h with
  | cons h t => obtain ⟨w, rfl, h2⟩ := t.one; exact ⟨_, _, rfl, h, h2⟩
def lenD : List D → Option D
  | [.lst xs] => some (.int xs.length)
  | [.tup xs] => some (.int xs.length)
  | [.str x] => if x.length ≤ sizeLine then some (.int x.length) else none
  | [.scr ns] => some (.int ns.length)
  | [.dic false kvs] => some (.int kvs.length)
  | _ => none
section
variable {X : Cx}
theorem cg_len : CallR X (.builtin "len") (rGn X.K lenD) := by
  intro pins s σ H xs us Q I r ⟨Fb, m, ds, d, fr, vx, e, k⟩
  unfold lenD at e
  split at e
  · cases e
    obtain ⟨v, rfl, h⟩ := vx.one
    obtain ⟨a, vs, rfl, h1, z1, q1⟩ := h.asL
    refine call_len_seq pins s σ H _ us Q I r ⟨a, vs, rfl, .inl (SqL.of h1), ?_⟩
    rw [q1.length]
    exact k H _ (Same.refl H) (.int _)
  · cases e
    obtain ⟨v, rfl, h⟩ := vx.one
    obtain ⟨a, vs, rfl, h1, z1, q1⟩ := h.asT
    refine call_len_seq pins s σ H _ us Q I r ⟨a, vs, rfl, .inr h1, ?_⟩
    rw [q1.length]
    exact k H _ (Same.refl H) (.int _)
  · split at e
    · rename_i hz
      cases e
      obtain ⟨v, rfl, h⟩ := vx.one
      cases h.asS
      exact call_len_str pins s σ H _ us Q I r ⟨_, rfl, hz, k H _ (Same.refl H) (.int _)⟩
    · cases e
  · cases e
    obtain ⟨v, rfl, h⟩ := vx.one
    cases h with
    | oth h =>
      cases h with
      | scr h z =>
        refine call_len_seq pins s σ H _ us Q I r ⟨_, _, rfl, .inl h.sq, ?_⟩
        rw [List.length_map]
        exact k H _ (Same.refl H) (.int _)
  · cases e
    obtain ⟨v, rfl, h⟩ := vx.one
    obtain ⟨a, kv, rfl, h1, z1, q1⟩ := h.asD
    obtain ⟨w, rfl, rv⟩ := vals1 r
    obtain rfl : w = Value.ref a := rv
    refine d_len I h1 fun t s' I' => ⟨.int kv.length, H, I', ⟨_, rfl⟩, ?_⟩
    rw [q1.length]
    exact k H _ (Same.refl H) (.int _)
  · cases e
def max2D : List D → Option D
  | [.int i, .int j] => some (.int (if j > i then j else i))
  | _ => none
def min2D : List D → Option D
  | [.int i, .int j] => some (.int (if j < i then j else i))
  | _ => none
theorem cg_min2 (hc : X.calm = true) : CallR X (.builtin "min") (rGn X.K min2D) := by
  intro pins s σ H xs us Q I r ⟨Fb, m, ds, d, fr, vx, e, k⟩
  unfold min2D at e
  split at e
  · cases e
    obtain ⟨v, w, rfl, h1, h2⟩ := vx.two
    cases h1.asI; cases h2.asI
    exact call_min2 hc pins s σ H _ us Q I r ⟨_, _, rfl, k H _ (Same.refl H) (.int _)⟩
  · cases e
/-- list(x), tuple(x) -/
def listD : List D → Option D
  | [.lst xs] => some (.lst xs)
  | [.tup xs] => some (.lst xs)
  | _ => none
def tupleD : List D → Option D
  | [.lst xs] => some (.tup xs)
  | [.tup xs] => some (.tup xs)
  | _ => none
theorem cg_list : CallR X (.type "list") (rGn X.K listD) := by
  intro pins s σ H xs us Q I r ⟨Fb, m, ds, d, fr, vx, e, k⟩
  unfold listD at e
  split at e
  · cases e
    obtain ⟨v, rfl, h⟩ := vx.one
    obtain ⟨a, vs, rfl, h1, z1, q1⟩ := h.asL
    exact call_list_of pins s σ H _ us Q I r ⟨a, vs, rfl, .inl (SqL.of h1), fun p hp => k _ _ (same_upd hp) (.lst upd_same (fr p hp) z1 (q1.kp (kp_same (same_upd hp))))⟩
  · cases e
    obtain ⟨v, rfl, h⟩ := vx.one
    obtain ⟨a, vs, rfl, h1, z1, q1⟩ := h.asT
    exact call_list_of pins s σ H _ us Q I r ⟨a, vs, rfl, .inr h1, fun p hp => k _ _ (same_upd hp) (.lst upd_same (fr p hp) z1 (q1.kp (kp_same (same_upd hp))))⟩
  · cases e
theorem cg_tuple : CallR X (.type "tuple") (rGn X.K tupleD) := by
  intro pins s σ H xs us Q I r ⟨Fb, m, ds, d, fr, vx, e, k⟩
  unfold tupleD at e
  split at e
  · cases e
    obtain ⟨v, rfl, h⟩ := vx.one
    obtain ⟨a, vs, rfl, h1, z1, q1⟩ := h.asL
    exact call_tuple_of pins s σ H _ us Q I r ⟨a, vs, rfl, .inl ⟨SqL.of h1, fun p hp => k _ _ (same_upd hp) (.tup (.of upd_same) z1 (q1.kp (kp_same (same_upd hp))))⟩⟩
  · cases e
    obtain ⟨v, rfl, h⟩ := vx.one
    obtain ⟨a, vs, rfl, h1, z1, q1⟩ := h.asT
    exact call_tuple_of pins s σ H _ us Q I r ⟨a, vs, rfl, .inr ⟨h1, k H _ (Same.refl H) (.tup h1 z1 q1)⟩⟩
  · cases e
/-- sum of whole numbers -/
def asIs : List D → Option (List Int)
  | [] => some []
  | .int b :: ds => (asIs ds).map (b :: ·)
  | _ :: _ => none
theorem asIs_vals {K : PySem.W.Frag} {H : Hp} {Fb : Addr → Prop} {m : List Addr} : ∀ {ds : List D} {vs : List V} {bs : List Int}, asIs ds = some bs → RepA K H Fb m vs ds → vs = bs.map V.int
  | [], _, _, e, r => by cases r; cases e; rfl
  | .int b :: ds, _, _, e, r => by
    obtain ⟨cs, e1, rfl⟩ := Option.map_eq_some_iff.mp (show (asIs ds).map (b :: ·) = _ from e)
    cases r with
    | cons h t => cases h; rw [asIs_vals e1 t]; rfl
  | .non :: _, _, _, e, _ => by simp [asIs] at e
  | .bl _ :: _, _, _, e, _ => by simp [asIs] at e
  | .str _ :: _, _, _, e, _ => by simp [asIs] at e
  | .tup _ :: _, _, _, e, _ => by simp [asIs] at e
  | .lst _ :: _, _, _, e, _ => by simp [asIs] at e
  | .dic _ _ :: _, _, _, e, _ => by simp [asIs] at e
  | .ref _ :: _, _, _, e, _ => by simp [asIs] at e
  | .raw _ :: _, _, _, e, _ => by simp [asIs] at e
  | .scr _ :: _, _, _, e, _ => by simp [asIs] at e
  | .exn _ _ :: _, _, _, e, _ => by simp [asIs] at e
end
inductive PT where
  | int | bool | str | tuple | list | dict
def PT.nm : PT → String
  | .int => "int" | .bool => "bool" | .str => "str" | .tuple => "tuple" | .list => "list" | .dict => "dict"
def PT.isOf : PT → D → Option Bool
  | .int, .int _ => some true
  | .int, .bl _ => some true
  | .bool, .bl _ => some true
  | .str, .str _ => some true
  | .tuple, .tup _ => some true
  | .list, .lst _ => some true
  | .list, .scr _ => some true
  | .dict, .dic _ _ => some true
  | _, .ref _ => none
  | _, .raw _ => none
  | _, .exn _ _ => none
  | _, _ => some false
section
variable {X : Cx}
theorem Vw.same {K : PySem.W.Frag} {H H' : Hp} {Fb : Addr → Prop} {m : List Addr} {v : V} {d : D} (h : Vw K H Fb m v d) (s : Same H H') : Vw K H' Fb m v d := by
  cases h with
  | lst h z r => exact .lst (s _ _ h) z (r.kp (kp_same s))
  | dK h z q r => exact .dK (h.imp (fun h => s _ _ h) fun ⟨o, h⟩ => ⟨o, s _ _ h⟩) z q (r.kp (kp_same s))
  | dT h z q r => exact .dT (h.imp (fun h => s _ _ h) fun ⟨o, h⟩ => ⟨o, s _ _ h⟩) z q (r.kp (kp_same s))
  | oth h => exact .oth (h.kp (kp_same s))
/-- isinstance(e, T), T a built-in class by its name -/
def eIsi (t : PT) (a : Ex) : Ex := eOp1 (fun d => (t.isOf d).map .bl) a
def isOfs : List PT → D → Option Bool
  | [], _ => some false
  | t :: ts, d => match t.isOf d with
    | some true => some true
    | some false => isOfs ts d
    | none => none
def eIsis (ts : List PT) (a : Ex) : Ex := eOp1 (fun d => (isOfs ts d).map .bl) a
variable {W : WX} {e : Expr} {fa : Ex} {p p2 p3 pos : Pos}
end
end DL
set_option Elab.async false
set_option linter.all false
set_option maxRecDepth 100000
set_option maxHeartbeats 4000000
namespace DL
open PySem PySem.Spec PyProof.Rows L2
section
variable {K : PySem.W.Frag} {mg : Str → Option Value} {B : Addr → Prop} {m : List Addr} {S : Sto} {H : Hp} {n : Nat} {a : Addr} {o o' : Ob} {ho : HO}
theorem liv_set (h2 : S[n]? = some (some o)) {x : Addr} : Liv m (S.set n (some o')) x ↔ Liv m S x := by
  have hn := (List.getElem?_eq_some_iff.mp h2).1
  constructor
  · rintro ⟨k, u, e1, e2⟩
    by_cases hk : k = n
    · subst hk; exact ⟨k, o, e1, h2⟩
    · rw [List.getElem?_set_ne (Ne.symm hk)] at e2; exact ⟨k, u, e1, e2⟩
  · rintro ⟨k, u, e1, e2⟩
    by_cases hk : k = n
    · subst hk; exact ⟨k, o', e1, List.getElem?_set_self hn⟩
    · exact ⟨k, u, e1, by rw [List.getElem?_set_ne (Ne.symm hk)]; exact e2⟩
theorem kp_upd (r : Rl K mg B m H S) (h1 : m[n]? = some a) (h2 : S[n]? = some (some o)) : Kp H (upd H a ho) (Fo B m S) (Fo B m (S.set n (some o'))) m m := by
  have hl : Liv m S a := ⟨n, o, h1, h2⟩
  have ne : ∀ x, ¬ Fo B m S x → x ≠ a := fun x f e => f (.inr (e ▸ hl))
  refine ⟨fun x xs h f => by rw [upd_ne (ne x f)]; exact h, fun x u h f => ?_, fun x o f h => ?_, fun x u h f z => ?_, fun _ _ h => h⟩
  · unfold Rd; rw [upd_ne (ne x f)]; exact h
  · have : x ≠ a := by
      rintro rfl
      exact (r.obj n _ _ h1 h2).not_fix f h
    rw [upd_ne this]; exact h
  · rcases z with z | z
    · exact f (.inl z)
    · exact f (.inr ((liv_set h2).mp z))
theorem Post.upd (r : Rl K mg B m H S) (h1 : m[n]? = some a) (h2 : S[n]? = some (some o)) (new : ObR K mg (L2.upd H a ho) (Fo B m (S.set n (some o'))) m a o') : Post K mg B m S H m (S.set n (some o')) (L2.upd H a ho) := by
  have hl : Liv m S a := ⟨n, o, h1, h2⟩
  have kp := kp_upd (ho := ho) (o' := o') r h1 h2
  have sm : ∀ x, H x ≠ none → L2.upd H a ho x ≠ none := fun x h => by
    by_cases e : x = a
    · subst e; rw [upd_same]; simp
    · rw [upd_ne e]; exact h
  refine ⟨⟨[], by simp, fun a h => by simp at h⟩, fun x u h f => ?_, sm, ⟨by rw [List.length_set]; exact r.len, r.nod, fun x h => r.nb x ((liv_set h2).mp h), fun x h => sm x (r.bt x h), fun x h => sm x (r.mt x h), fun k x u e1 e2 => ?_⟩, fun x h => .inl ((liv_set h2).mp h)⟩
  · have : x ≠ a := fun e => f (e ▸ hl)
    rw [upd_ne this]; exact h
  · by_cases hk : k = n
    · subst hk
      rw [h1] at e1; cases e1
      rw [List.getElem?_set_self (List.getElem?_eq_some_iff.mp h2).1] at e2
      cases e2
      exact new
    · rw [List.getElem?_set_ne (Ne.symm hk)] at e2
      have nx : x ≠ a := fun e => by
        subst e
        obtain ⟨l1, z1⟩ := List.getElem?_eq_some_iff.mp e1
        obtain ⟨l2, z2⟩ := List.getElem?_eq_some_iff.mp h1
        exact hk ((List.getElem_inj r.nod).mp (z1.trans z2.symm))
      cases r.obj k x u e1 e2 with
      | lst h z q => exact .lst (by rw [upd_ne nx]; exact h) z (q.kp kp)
      | dK h z e q => exact .dK (by rw [upd_ne nx]; exact h) z e (q.kp kp)
      | dT h z e q => exact .dT (by rw [upd_ne nx]; exact h) z e (q.kp kp)
      | ins g h e q => exact .ins g (by rw [upd_ne nx]; exact h) e (q.kp kp)
end
/-- a live list -/
def lstOf (S : Sto) : D → Option (Nat × List D)
  | .ref n => match S[n]? with
    | some (some (.lst xs)) => some (n, xs)
    | _ => none
  | _ => none
theorem lstOf_some {K : PySem.W.Frag} {mg : Str → Option Value} {B : Addr → Prop} {m : List Addr} {S : Sto} {H : Hp} {d : D} {n : Nat} {xs : List D} {v : V} (r : Rl K mg B m H S) (e : lstOf S d = some (n, xs)) (q : Rep K H (Fo B m S) m v d) :
    ∃ a vs, v = .ref a ∧ m[n]? = some a ∧ S[n]? = some (some (.lst xs)) ∧ H a = some (.lst vs) ∧ vs.length ≤ sizeLine ∧ RepA K H (Fo B m S) m vs xs := by
  cases d with
  | ref k =>
    simp only [lstOf] at e
    split at e
    · rename_i xs' e2
      cases e
      cases q with
      | ref e1 =>
        have ob := r.obj _ _ _ e1 e2
        cases ob with
        | lst h z q => exact ⟨_, _, rfl, e1, e2, h, z, q⟩
    · cases e
  | _ => simp [lstOf] at e
/-- a method that writes a list: from its items and the arguments the new items and the answer -/
def doMut (g : List D → List D → Option (List D × D)) (S : Sto) (d : D) (ds : List D) : R D := match lstOf S d with
  | none => .bad
  | some nx => match g nx.2 ds with
    | none => .bad
    | some yz => .ok yz.2 (S.set nx.1 (some (.lst yz.1)))
def eMeth (g : List D → List D → Option (List D × D)) (fo : Ex) (fs : List Ex) : Ex := fun ρ S => (fo ρ S).bind fun d S => if (lstOf S d).isSome = true then (evL fs ρ S).bind fun ds S => doMut g S d ds else .bad
def eMeth0 (g : List D → List D → Option (List D × D)) (fo : Ex) : Ex := fun ρ S => (fo ρ S).bind fun d S => doMut g S d []
def rMut (K : PySem.W.Frag) (g : List D → List D → Option (List D × D)) : V → List V → Hp → VK → Prop := fun x vs H Q => ∃ (mg : Str → Option Value) (B : Addr → Prop) (m : List Addr) (S : Sto) (n : Nat) (a : Addr) (ws : List V) (xs ds ys : List D) (z : D), x = .ref a ∧ Rl K mg B m H S ∧ m[n]? = some a ∧ S[n]? = some (some (.lst xs)) ∧ H a = some (.lst ws) ∧ ws.length ≤ sizeLine ∧ RepA K H (Fo B m S) m ws xs ∧ RepA K H (Fo B m S) m vs ds ∧ g xs ds = some (ys, z) ∧
  ∀ us v, us.length ≤ sizeLine → RepA K H (Fo B m S) m us ys → Rep K H (Fo B m S) m v z → Q v (upd H a (.lst us))
section
variable {X : Cx} {W : WX} {o e : Expr} {es : List Expr} {fo : Ex} {fs : List Ex} {name : Str} {apos cpos : Pos} {id : String} {g : List D → List D → Option (List D × D)}
theorem ty_lst {K : PySem.W.Frag} {H : Hp} {a : Addr} {vs : List V} (h : H a = some (.lst vs)) : tyV K "list" (.ref a) H := Or.inl ⟨rfl, _, Or.inl (Or.inl h)⟩
theorem mut_fin {K : PySem.W.Frag} {mg : Str → Option Value} {σ : L2.St} {B : Addr → Prop} {m : List Addr} {S : Sto} {H : Hp} {Q : VK} {d : D} {ds : List D} {x : V} {vs : List V} (r : Rl K mg B m H S) (rx : Rep K H (Fo B m S) m x d) (q : RepA K H (Fo B m S) m vs ds)
    (f : fin K mg W B m S σ H (doMut g S d ds) Q) : rMut K g x vs H Q := by
  unfold doMut at f
  cases e1 : lstOf S d with
  | none => rw [e1] at f; exact f.elim
  | some nx =>
    obtain ⟨n, xs⟩ := nx
    rw [e1] at f
    dsimp only at f
    cases e2 : g xs ds with
    | none => rw [e2] at f; exact f.elim
    | some yz =>
      obtain ⟨ys, z⟩ := yz
      rw [e2] at f
      obtain ⟨a, ws, rfl, h1, h2, h3, h4, h5⟩ := lstOf_some r e1 rx
      refine ⟨mg, B, m, S, n, a, ws, xs, ds, ys, z, rfl, r, h1, h2, h3, h4, h5, q, e2, fun us v hz hq hv => ?_⟩
      have kp := kp_upd (ho := .lst us) (o' := .lst ys) r h1 h2
      exact f m _ v (Post.upd r h1 h2 (.lst upd_same hz (hq.kp kp))) (hv.kp kp)
/-- the receiver is a live list when the arguments are reckoned -/
theorem ev_mut (pa : PlainAttrs "list") (slot : Slot "list" name id) (hty : typeOf (.builtin id) = pure (.type "method_descriptor")) (hm : MtR X id (rMut X.K g)) (ho : EV X W o fo) (ha : EVA X W (e :: es) fs) (hfs : fs ≠ [] := by exact fun h => nomatch h)
    (hbase : attributeBase o name X.env (eval o X.env) = eval o X.env := by rfl)
    (hfew : ((backTo cpos (starEach (e :: es) X.env)).all (fun x => !x.1) && (backToKw cpos (keywordEach [] X.env)).all (fun x => x.1.isSome)
      && decide ((e :: es).length + ([] : List Keyword).length + (if ([] : List Keyword).isEmpty then 0 else 1) < 30)) = true := by rfl)
    (hline : (apos.endLine == cpos.line) = true := by rfl) (hs : starEach (e :: es) X.env = (false, eval e X.env) :: starEach es X.env := by rfl) (hplain : (backTo cpos (starEach es X.env)).any (·.1) = false := by rfl) :
    EV X W (.Call (.Attribute o name apos) (e :: es) [] cpos) (eMeth g fo fs) := by
  refine pe_imp (pe_bm pa slot hty hm ho ha hbase hfew hline hs hplain) fun σ H Q h => ?_
  obtain ⟨B, m, ρ, S, r, re, f⟩ := up_one (g := fun d ρ S => if (lstOf S d).isSome = true then (evL fs ρ S).bind fun ds S => doMut g S d ds else .bad) h
  refine ⟨B, m, ρ, S, r, re, f.mono fun x H1 => ?_⟩
  rintro ⟨B, m, ρ, S, d, r, re, rx, f⟩
  cases e1 : lstOf S d with
  | none => rw [e1] at f; exact f.elim
  | some nx =>
    obtain ⟨n, xs⟩ := nx
    rw [e1] at f
    simp only [Option.isSome_some, if_true] at f
    obtain ⟨a, ws, rfl, h1, h2, h3, h4, h5⟩ := lstOf_some r e1 rx
    refine ⟨ty_lst h3, B, m, ρ, S, r, re, finA.mono (finA.bind f) fun vs H2 => ?_⟩
    rintro ⟨m2, S2, ds, p2, q2, f2⟩
    exact mut_fin p2.rl (rx.kp (p2.kp r)) q2 f2
end
def gAppend : List D → List D → Option (List D × D) := fun xs ds => match ds with
  | [d] => if xs.length < sizeLine then some (xs ++ [d], .non) else none
  | _ => none
def gPopAt : List D → List D → Option (List D × D) := fun xs ds => match ds with
  | [.int i] => if -(2 ^ 63) ≤ i ∧ i < 2 ^ 63 then match seqIndex? i xs.length with
    | some k => match xs[k]? with
      | some z => some (xs.eraseIdx k, z)
      | none => none
    | none => none else none
  | _ => none
section
variable {X : Cx} {W : WX} {o e : Expr} {fo fe : Ex} {apos cpos : Pos}
theorem mg_append : MtR X "list.append" (rMut X.K gAppend) := by
  intro pins s σ H x vs v us Q I rx rs ⟨mg, B, m, S, n, a, ws, xs, ds, ys, z, ex, r, h1, h2, h3, h4, h5, q, e, k⟩
  subst ex
  unfold gAppend at e
  split at e
  · split at e
    · rename_i d hz
      cases e
      cases q with
      | cons qd qn =>
        cases qn
        exact mt_append pins s σ H _ _ v us Q I rx rs ⟨a, ws, _, rfl, rfl, h3, by rw [h5.length]; exact hz, k _ _ (by have := h5.length; simp; omega) (h5.append (.cons qd .nil)) .non⟩
    · cases e
  · cases e
theorem mg_popAt : MtR X "list.pop" (rMut X.K gPopAt) := by
  intro pins s σ H x vs v us Q I rx rs ⟨mg, B, m, S, n, a, ws, xs, ds, ys, z, ex, r, h1, h2, h3, h4, h5, q, e, k⟩
  subst ex
  unfold gPopAt at e
  split at e
  · rename_i i
    split at e
    · rename_i hi
      split at e
      · rename_i j ej
        split at e
        · rename_i w ew
          cases e
          cases q with
          | cons qd qn =>
            cases qn
            cases qd
            obtain ⟨wv, e1, e2⟩ := h5.get ew
            exact mt_popAt pins s σ H _ _ v us Q I rx rs ⟨a, ws, i, j, wv, rfl, rfl, h3, hi.1, hi.2, by rw [h5.length]; exact ej, e1, k _ _ (Nat.le_trans (List.length_eraseIdx_le ..) h4) (h5.eraseIdx j) e2⟩
        · cases e
      · cases e
    · cases e
  · cases e
theorem ev_append (ho : EV X W o fo) (ha : EVA X W [e] [fe]) (hbase : attributeBase o "append" X.env (eval o X.env) = eval o X.env := by rfl)
    (hfew : ((backTo cpos (starEach [e] X.env)).all (fun x => !x.1) && (backToKw cpos (keywordEach [] X.env)).all (fun x => x.1.isSome) && decide ([e].length + ([] : List Keyword).length + (if ([] : List Keyword).isEmpty then 0 else 1) < 30)) = true := by rfl)
    (hline : (apos.endLine == cpos.line) = true := by rfl) (hs : starEach [e] X.env = (false, eval e X.env) :: starEach [] X.env := by rfl) (hplain : (backTo cpos (starEach [] X.env)).any (·.1) = false := by rfl) :
    EV X W (.Call (.Attribute o "append" apos) [e] [] cpos) (eMeth gAppend fo [fe]) := ev_mut PySem.F.plainAttrs_list PySem.F.slot_list_append PySem.F.type_list_append mg_append ho ha (by exact fun h => nomatch h) hbase hfew hline hs hplain
theorem ev_popAt (ho : EV X W o fo) (ha : EVA X W [e] [fe]) (hbase : attributeBase o "pop" X.env (eval o X.env) = eval o X.env := by rfl)
    (hfew : ((backTo cpos (starEach [e] X.env)).all (fun x => !x.1) && (backToKw cpos (keywordEach [] X.env)).all (fun x => x.1.isSome) && decide ([e].length + ([] : List Keyword).length + (if ([] : List Keyword).isEmpty then 0 else 1) < 30)) = true := by rfl)
    (hline : (apos.endLine == cpos.line) = true := by rfl) (hs : starEach [e] X.env = (false, eval e X.env) :: starEach [] X.env := by rfl) (hplain : (backTo cpos (starEach [] X.env)).any (·.1) = false := by rfl) :
    EV X W (.Call (.Attribute o "pop" apos) [e] [] cpos) (eMeth gPopAt fo [fe]) := ev_mut PySem.F.plainAttrs_list PySem.F.slot_list_pop PySem.F.type_list_pop mg_popAt ho ha (by exact fun h => nomatch h) hbase hfew hline hs hplain
end
/-- a live dict -/
def dicOf (S : Sto) : D → Option (Nat × List (D × D))
  | .ref n => match S[n]? with
    | some (some (.dic false kvs)) => some (n, kvs)
    | _ => none
  | _ => none
theorem dicOf_some {K : PySem.W.Frag} {mg : Str → Option Value} {B : Addr → Prop} {m : List Addr} {S : Sto} {H : Hp} {d : D} {n : Nat} {kvs : List (D × D)} {v : V} (r : Rl K mg B m H S) (e : dicOf S d = some (n, kvs)) (q : Rep K H (Fo B m S) m v d) :
    ∃ a kv, v = .ref a ∧ m[n]? = some a ∧ S[n]? = some (some (.dic false kvs)) ∧ H a = some (.dK kv) ∧ kv.length ≤ sizeLine ∧ KR K H (Fo B m S) m kv kvs := by
  cases d with
  | ref k =>
    simp only [dicOf] at e
    split at e
    · rename_i xs' e2
      cases e
      cases q with
      | ref e1 =>
        have ob := r.obj _ _ _ e1 e2
        cases ob with
        | dK h z e3 q => exact ⟨_, _, rfl, e1, e2, h, z, kr_of e3 q⟩
    · cases e
  | _ => simp [dicOf] at e
/-- a live dict is written -/
theorem Post.updD {K : PySem.W.Frag} {mg : Str → Option Value} {B : Addr → Prop} {m : List Addr} {S : Sto} {H : Hp} {n : Nat} {a : Addr} {kw : List (Key × V)} {kvs kws : List (D × D)} (r : Rl K mg B m H S) (h1 : m[n]? = some a) (h2 : S[n]? = some (some (.dic false kvs))) (q : KR K H (Fo B m S) m kw kws) (hz : kw.length ≤ sizeLine) :
    Post K mg B m S H m (S.set n (some (.dic false kws))) (L2.upd H a (.dK kw)) := by
  have kp := kp_upd (ho := .dK kw) (o' := .dic false kws) r h1 h2
  have q2 := q.kp kp
  exact Post.upd r h1 h2 (.dK upd_same hz q2.keys q2.vals)
def putAtD (S : Sto) (d k z : D) : Option Sto := match dicOf S d with
  | some (n, kvs) => match unK k with
    | some kk => if kvs.length < sizeLine then some (S.set n (some (.dic false (putD kvs kk z)))) else none
    | none => none
  | none => none
theorem putAt_ok {K : PySem.W.Frag} {mg : Str → Option Value} {B : Addr → Prop} {m : List Addr} {S S' : Sto} {H : Hp} {d k z : D} {vd vk vz : V} (r : Rl K mg B m H S) (rd : Rep K H (Fo B m S) m vd d) (rk : Rep K H (Fo B m S) m vk k) (rz : Rep K H (Fo B m S) m vz z) (e : putAtD S d k z = some S') :
    ∃ a H', vd = .ref a ∧ DPut H a vk vz H' ∧ Post K mg B m S H m S' H' := by
  unfold putAtD at e
  cases e1 : dicOf S d with
  | none => rw [e1] at e; cases e
  | some nk =>
    obtain ⟨n, kvs⟩ := nk
    rw [e1] at e
    dsimp only at e
    cases e2 : unK k with
    | none => rw [e2] at e; cases e
    | some kk =>
      rw [e2] at e
      dsimp only at e
      split at e
      · rename_i hl
        cases e
        obtain ⟨a, kv, rfl, h1, h2, h3, h4, h5⟩ := dicOf_some r e1 rd
        have hk := rk.key e2
        subst hk
        have hz : (putK kv kk vz).length ≤ sizeLine := by have := length_putK kv kk vz; have := h5.length; omega
        exact ⟨a, _, rfl, DPut.k h3 (by rw [h5.length]; exact hl), Post.updD r h1 h2 (h5.put kk rz) hz⟩
      · cases e
def rSetLD : TSet := fun o i v H Q => rSetL o i v H Q ∨ rSetD o i v H Q
theorem set_LD {X : Cx} (hu : X.A.units + 1 < cLine) : PSet X rSetLD := fun pins s σ H o i v ov iv u Q I ro ri rv h => h.elim (set_list pins s σ H o i v ov iv u Q I ro ri rv) (set_dict hu pins s σ H o i v ov iv u Q I ro ri rv)
def sSetIx (o i e : Ex) : Sx := fun ρ S => (e ρ S).bindS ρ fun z S => (o ρ S).bindS ρ fun d S => (i ρ S).bindS ρ fun k S => match lstOf S d, k with
  | some (n, xs), .int j => match ixN xs.length j with
    | some p => .fl (.nx ρ) (S.set n (some (.lst (xs.set p z))))
    | none => .bad
  | _, _ => match putAtD S d k z with
    | some S' => .fl (.nx ρ) S'
    | none => .bad
section
variable {X : Cx} {W : WX} {o i e : Expr} {fo fi fe : Ex} {pos p : Pos}
theorem sv_setIx (hu : X.A.units + 64 < cLine) (he : EV X W e fe) (ho : EV X W o fo) (hi : EV X W i fi)
    (ha : ∀ v, assign (.Subscript o i p) X.env v = (do
      let ov ← holding [v] (eval o X.env)
      let iv ← holding [v, ov] (eval i X.env)
      standAt p
      holding [v, ov, iv] (setItem ov iv v)
      release [v, ov, iv] []) := by intro _; rfl)
    (hs : swapsWithSole [.Subscript o i p] e pos.line X.env = pure false := by rfl) (hw : swappedStores [.Subscript o i p] e X.env = pure none := by rfl)
    (h1 : (assignEach [.Subscript o i p] X.env).map (·.2) = [assign (.Subscript o i p) X.env] := by rfl) : SV X W (.Assign [.Subscript o i p] e pos) (sSetIx fo fi fe) := by
  refine ps_imp (ps_asg he (pg_sub ho hi (set_LD (by omega)) ha) hs hw h1) fun E σ H h => ?_
  obtain ⟨B, m, ρ, S, r, re, f⟩ := upS_one (g := fun z ρ S => (fo ρ S).bindS ρ fun d S => (fi ρ S).bindS ρ fun k S => match lstOf S d, k with
    | some (n, xs), .int j => match ixN xs.length j with
      | some p => .fl (.nx ρ) (S.set n (some (.lst (xs.set p z))))
      | none => .bad
    | _, _ => match putAtD S d k z with
      | some S' => .fl (.nx ρ) S'
      | none => .bad) h
  refine ⟨B, m, ρ, S, r, re, f.mono fun x H1 => ?_⟩
  rintro ⟨B, m, ρ, S, dz, r, re, rz, f⟩
  refine ⟨B, m, ρ, S, r, re, fin.mono (fin.bindS re r f) fun vo H2 => ?_⟩
  rintro ⟨m2, S2, dO, p2, q2, f2⟩
  have re2 := re.kp (p2.kp r)
  refine ⟨B, m2, ρ, S2, p2.rl, re2, fin.mono (fin.bindS re2 p2.rl f2) fun vi H3 => ?_⟩
  rintro ⟨m3, S3, dk, p3, q3, f3⟩
  have rz3 := (rz.kp (p2.kp r)).kp (p3.kp p2.rl)
  have ro3 := q2.kp (p3.kp p2.rl)
  have re3 := re2.kp (p3.kp p2.rl)
  split at f3
  · rename_i n xs j e1
    split at f3
    · rename_i pl e2
      obtain ⟨a, ws, rfl, h1, h2, h3, h4, h5⟩ := lstOf_some p3.rl e1 ro3
      cases q3
      have kp := kp_upd (ho := .lst (ws.set pl x)) (o' := .lst (xs.set pl dz)) p3.rl h1 h2
      refine .inl ⟨a, ws, j, pl, rfl, rfl, h3, by rw [h5.length]; exact e2, ?_⟩
      exact f3 m3 _ σ (Post.upd p3.rl h1 h2 (.lst upd_same (by simpa using h4) ((h5.set pl rz3).kp kp))) (re3.kp kp)
    · exact f3.elim
  · split at f3
    · rename_i S' e2
      obtain ⟨a, H', rfl, g, po⟩ := putAt_ok p3.rl ro3 q3 rz3 e2
      exact .inr ⟨a, H', rfl, g, f3 m3 H' σ po (re3.kp (po.kp p3.rl))⟩
    · exact f3.elim
end
def sAug (i : Nat) (g : D → D → Option D) (e : Ex) : Sx := fun ρ S => match ρ[i]? with
  | some (some d) => (e ρ S).bindS ρ fun y S => match g (view S d) (view S y) with
    | some z => .fl (.nx (ρ.set i (some z))) S
    | none => .bad
  | _ => .bad
def eChain (g g' : D → D → Option D) (a b c : Ex) : Ex := fun ρ S => (a ρ S).bind fun x S => (b ρ S).bind fun y S => match g (view S x) (view S y) with
  | some (.bl k) => if k = true then (c ρ S).bind fun z S => ans S (g' (view S y) (view S z)) else .ok (.bl false) S
  | _ => .bad
end DL
set_option Elab.async false
set_option linter.all false
set_option maxRecDepth 100000
set_option maxHeartbeats 4000000
namespace DL
open PySem PySem.Spec PyProof.Rows L2
section
variable {X : Cx} {W : WX} {tg iter elt : Expr} {ifs : List Expr} {fi : Ix} {t : Tg} {tt : Tx} {fe : Ex} {scope : Scope} {own : List (Str × Nat)} {pos : Pos}
/-- y = [..] on one line -/
theorem sv_setComp {i : Nat} {y : Str} {py spos : Pos} (hc : X.calm = true) (hN : X.N.Nodup) (hy : X.N[i]? = some y) (hyl : X.env.scope.names.lookup y = some .local) (hsw : swapsWith (.ListComp elt [⟨tg, iter, ifs, 0⟩] scope pos) (some (.Name y py)) spos.line X.env = pure true) (hi : IV X W tg iter fi) (ok : BlkOk X.N X.env.scope scope own)
    (hg : ∀ (s : Shared) (H : Hp) (C : Addr) (cl : List (Str × Addr)) (fp : List Addr), GV (X.blk s H scope (compEnvC scope cl C X.env) fp) tg t) (ht : ∀ (s : Shared) (H : Hp) (C : Addr) (cl : List (Str × Addr)) (fp : List Addr), TVs (X.blk s H scope (compEnvC scope cl C X.env) fp) W0 ifs tt)
    (he : ∀ (s : Shared) (H : Hp) (C : Addr) (cl : List (Str × Addr)) (fp : List Addr), EV (X.blk s H scope (compEnvC scope cl C X.env) fp) W0 elt fe) (hv : ∀ i ∈ t.sl, i ∈ own.map (·.2) := by decide) (hs : ∀ x, foldedSetIterable iter X.env x = pure x := by intro _; rfl) :
    SV X W (.Assign [.Name y py] (.ListComp elt [⟨tg, iter, ifs, 0⟩] scope pos) spos) (sAsg i (eComp fi t tt fe (own.map (·.2)))) := by
  refine ps_imp (ps_setLc (g := Tg.rd X.K t) (tt := upT X.K X.mg W0 tt) (te := up X.K X.mg W0 fe) hc hN hy hyl hsw hi ok hg ht he hs) fun E σ H h => ?_
  obtain ⟨B, m, ρ, S, r, re, f⟩ := h
  refine lc_of (W := W) (Fin := fun acc S => .ok (.lst acc) S) hv (Q := fun x H1 => gName i x σ H1 E.nx) ⟨B, m, ρ, S, r, re, ?_⟩ fun B m1 S1 H1 m2 S2 H2 D acc ds r1 hD pc rl hacc qa za nD f => ?_
  · have f' : finS X.K X.mg W B m S H ((eComp fi t tt fe (own.map (·.2)) ρ S).bindS ρ fun d S => .fl (.nx (ρ.set i (some d))) S) E := f
    show fin X.K X.mg W B m S σ H (eComp fi t tt fe (own.map (·.2)) ρ S) _
    refine fin.mono (fin.bindS re r f') fun v H1 => ?_
    rintro ⟨m1, S1, d, p, q, f1⟩
    exact f1 m1 H1 _ (Post.refl p.rl) ((re.kp (p.kp r)).set q)
  · have rl2 : Rl X.K X.mg B m2 H2 S2 := rl.less fun a z => .inl z
    have nf : ¬ Fo B m2 S2 D := by
      rintro (z | z)
      · exact r1.bt D z hD
      · exact rl.nb D z (.inr rfl)
    exact f m2 H2 _ (post_of_pc pc rl2) (.lst hacc nf za (qa.kp (kp_anti fo_bd)))
end
def eListM (g : List D → Option D) (fs : List Ex) : Ex := fun ρ S => (evL fs ρ S).bind fun ds S => match g (ds.map (view S)) with
  | some (.lst xs) => .ok (.ref S.length) (S ++ [some (.lst xs)])
  | _ => .bad
def revD : D → Option D
  | .lst xs => some (.lst xs.reverse)
  | .tup xs => some (.tup xs.reverse)
  | _ => none
theorem revAdj (n : Nat) : Builtin.Slice.sliceAdjust none none (-1) (n : Int) = ((n : Int) - 1, -1) := by
  unfold Builtin.Slice.sliceAdjust
  simp
theorem revPl (n : Nat) : Builtin.Slice.slicePlaces ((n : Int) - 1) (-1) (-1) = n := by
  unfold Builtin.Slice.slicePlaces
  simp
  split <;> omega
theorem fmCongr {α β : Type} {f : α → Option β} {g : α → β} : ∀ (l : List α), (∀ k ∈ l, f k = some (g k)) → l.filterMap f = l.map g
  | [], _ => rfl
  | a :: l, h => by
    rw [List.filterMap_cons, h a (by simp), List.map_cons, fmCongr l fun k hk => h k (by simp [hk])]
theorem revPick (xs : Array Value) : ((List.range xs.size).filterMap fun (k : Nat) => xs[(((xs.size : Nat) : Int) - 1 + (k : Int) * -1).toNat]?).toArray = xs.toList.reverse.toArray := by
  have e : ∀ k ∈ List.range xs.size, xs[(((xs.size : Nat) : Int) - 1 + (k : Int) * -1).toNat]? = some (xs.toList.reverse.getD k .none) := by
    intro k hk
    have hk' : k < xs.size := by simpa using hk
    have e1 : (((xs.size : Nat) : Int) - 1 + (k : Int) * -1).toNat = xs.size - 1 - k := by omega
    rw [e1, Array.getElem?_eq_getElem (by omega)]
    rw [List.getD_eq_getElem?_getD, List.getElem?_reverse (by simpa using hk')]
    rw [Array.length_toList, Array.getElem?_toList, Array.getElem?_eq_getElem (by omega)]
    rfl
  have e2 : (List.range xs.size).filterMap (fun (k : Nat) => xs[(((xs.size : Nat) : Int) - 1 + (k : Int) * -1).toNat]?) = (List.range xs.size).map fun k => xs.toList.reverse.getD k .none := by
    exact fmCongr _ e
  rw [e2]
  congr 1
  apply List.ext_getElem
  · simp
  · intro i h1 h2
    simp at h1
    rw [List.getElem_map, List.getElem_range, List.getD_eq_getElem?_getD, List.getElem?_eq_getElem (by simpa using h1)]
    rfl
theorem getItem_tuple_rev {prog : Program} {w : World} {A : Around} {E : Value → Shared → Prop} {s : Shared} {t sl : Addr} {items : Array Value} {vl vu vs : Value} {Q : Value → Shared → Prop} (ht : IsTup s.heap t items) (hs : s.heap.IsSliceOf sl vl vu vs) (pl : IsPart vl none) (pu : IsPart vu none) (ps : IsPart vs (some (-1)))
    (h : Q (.ref s.heap.objs.size) { s with heap := s.heap.push { cls := .type "tuple", data := .seq items.toList.reverse.toArray } })
    (hsz : items.size ≤ sizeLine) : wpAny (model prog w) A (getItem (.ref t) (.ref sl)) Q E s := by
  obtain ⟨os, hos, hcs, hds⟩ := id hs
  have hTs : s.TypeIs (.ref sl) "slice" := ⟨os, hos, hcs⟩
  unfold getItem
  try with_reducible refine wpAny_holding ?_
  first | refine wpAny_bind (wpAny_pure ?_) | skip
  refine wpAny_bind (wpAny_sequenceKey ht.typeIs (by decide) ?_)
  refine wpAny_bind (wpAny_callSpecial?_slot (name := Str.ofString "__getitem__") ht.typeIs PyProof.Rows.slot_tuple_getitem
    (wpAny_call_entry PyProof.Rows.slot_tuple_getitem ht.typeIs entry_tuple_getitem ?_ (args_tuple_getitem _ _)))
  show wpAny _ _ (Builtin.Tuple.tupleItemsOf (.ref t) >>= _) _ _ s
  refine wpAny_bind (tupleItemsOf_ ht ?_)
  refine wpAny_bind (wpAny_typeOf hTs ?_)
  rw [if_pos (by decide)]
  refine wpAny_bind ?_
  unfold Builtin.Slice.sliceApplied Builtin.Slice.sliceFields
  refine wpAny_bind (wpAny_bind (wpAny_field hos hds (x := vl) rfl (wpAny_bind (wpAny_field hos hds (x := vu) rfl (wpAny_bind (wpAny_field hos hds (x := vs) rfl (wpAny_pure ?_)))))))
  refine wpAny_bind (HT.slicePart_ ps ?_)
  show wpAny _ _ (if ((-1 : Int) == 0) = true then _ else _) _ _ s
  rw [if_neg (by decide)]
  refine wpAny_bind (HT.slicePart_ pl (wpAny_bind (HT.slicePart_ pu (wpAny_bind (wpAny_pure ?_)))))
  show wpAny _ _ (match Builtin.Slice.sliceAdjust none none (-1) ((items.size : Nat) : Int) with | (lo, hi) => pure (lo, (-1 : Int), Builtin.Slice.slicePlaces lo hi (-1))) _ _ s
  rw [revAdj]
  show wpAny _ _ (pure (((items.size : Nat) : Int) - 1, (-1 : Int), Builtin.Slice.slicePlaces (((items.size : Nat) : Int) - 1) (-1) (-1))) _ _ s
  rw [revPl]
  refine wpAny_pure ?_
  show wpAny _ _ (if ((((items.size : Nat) : Int) - 1) == 0 && (-1 : Int) == 1 && items.size == items.size) = true then _ else _) _ _ s
  rw [if_neg (by simp), revPick]
  have htake : sizeOk (.seq items.toList.reverse.toArray) := by
    show items.toList.reverse.toArray.size ≤ sizeLine
    simpa using hsz
  first
    | exact wpAny_bind (m := Builtin.Tuple.tupleExact _) (wpAny_newObj_type (wpAny_pure ⟨_, rfl, wpAny_pure h⟩) htake)
    | exact wpAny_bind (m := Builtin.Tuple.tupleExact _) (wpAny_newObj_type (wpAny_bind (wpAny_pure (wpAny_pure ⟨_, rfl, wpAny_pure h⟩))) htake)
    | exact wpAny_bind (wpAny_bind (m := Builtin.Tuple.tupleExact _) (wpAny_newObj_type (wpAny_pure (wpAny_pure ⟨_, rfl, wpAny_pure h⟩)) htake))
    | exact wpAny_bind (wpAny_bind (m := Builtin.Tuple.tupleExact _) (wpAny_newObj_type (wpAny_pure ⟨_, rfl, wpAny_pure h⟩) htake))
section
variable {X : Cx} {W : WX} {e : Expr} {fe : Ex} {k : Nat} {p1 p2 p3 pos : Pos}
theorem ev_rev (he : EV X W e fe) : EV X W (.Subscript e (.Slice none none (some (.UnaryOp .USub (.Constant (.int 1) k p1) p2)) p3) pos) (eOp1 revD fe) := by
  refine ⟨fun pins s σ H Q I h0 => ?_⟩
  have h1 := one_of h0
  refine Subscript_ (thn (he.run pins s σ H _ I h1) fun v s1 ⟨x, H1, I1, r1, Fb, m, dx, d, fr, vx, e1, kk⟩ => ?_)
  have hst : PO X (some (.UnaryOp .USub (.Constant (.int 1) k p1) p2)) (tPart (tUn (rU fun i => .int (-i)) (tC (.int 1)))) := po_some (pe_un un_neg pe_int)
  refine wpAny_Slice (thn (po_none.run pins s1 σ H1 (fun o H2 => o = none ∧ H2 = H1) I1 ⟨rfl, rfl⟩) fun vl s2 ⟨l, H2, I2, pl, el, e2⟩ => ?_)
  subst el e2
  refine thn (po_none.run pins s2 σ H2 (fun o H3 => o = none ∧ H3 = H2) I2 ⟨rfl, rfl⟩) fun vu s3 ⟨u, H3, I3, pu, eu, e3⟩ => ?_
  subst eu e3
  refine thn (hst.run pins s3 σ H3 (fun o H4 => o = some (-1) ∧ H4 = H3) I3 ⟨1, rfl, -1, rfl, rfl, rfl⟩) fun vs s4 ⟨o, H4, I4, ps, eo, e4⟩ => ?_
  subst eo e4
  have I5 : Inv X pins σ H4 { s4 with heap := s4.heap.push { cls := .type "slice", data := .fields #[vl, vu, vs] } } := I4.kept (t' := s4.toks) fun b ob q => Heap.get?_push_of_some _ q
  unfold revD at e1
  split at e1
  · rename_i xs
    cases e1
    obtain ⟨a, ws, rfl, h1, z1, q1⟩ := vx.asL
    cases r1
    obtain ⟨its, r, ht, hz⟩ := I5.list (SqL.of (K := X.K) h1)
    have hlen := r.length
    show wpAny (model X.prog X.w) X.A (subscriptTail e (.Slice none none (some (.UnaryOp .USub (.Constant (.int 1) k p1) p2)) p3) (.ref a) (.ref s4.heap.objs.size)) (EP X pins σ Q) X.xe { s4 with heap := s4.heap.push { cls := .type "slice", data := .fields #[vl, vu, vs] } }
    refine tail_any (ops := [.ref a, .ref s4.heap.objs.size]) ht.isList.typeIs (PySem.slot_list_getitem.lookup) ?_ (by with_unfolding_all rfl)
    refine wpAny_getItem_list_slice ht.isList (Heap.IsSliceOf.new _ vl vu vs) pl pu ps (by decide) ?_ (by rw [List.size_toArray]; omega)
    rw [PySem.W.krv_pick]
    have hp := I5.hok.fresh (a := (s4.heap.push { cls := .type "slice", data := .fields #[vl, vu, vs] }).objs.size) (Nat.le_refl _)
    refine ⟨.ref _, _, I5.laid (t' := s4.toks) (o := .lst ws.reverse) (fun b ob q => Heap.get?_push_of_some _ q) (Nat.le_refl _) ?_, rfl, kk _ _ (same_upd hp) (.lst upd_same (fr _ hp) (by simpa using z1) (q1.reverse.kp (kp_same (same_upd hp))))⟩
    exact ⟨by rw [List.length_reverse]; exact hz, _, 0, r.reverse, Heap.get?_push_size _ rfl⟩
  · rename_i xs
    cases e1
    obtain ⟨a, ws, rfl, h1, z1, q1⟩ := vx.asT
    cases r1
    obtain ⟨its, r, ht, hz⟩ := I5.tuple h1.sq
    have hlen := r.length
    show wpAny (model X.prog X.w) X.A (subscriptTail e (.Slice none none (some (.UnaryOp .USub (.Constant (.int 1) k p1) p2)) p3) (.ref a) (.ref s4.heap.objs.size)) (EP X pins σ Q) X.xe { s4 with heap := s4.heap.push { cls := .type "slice", data := .fields #[vl, vu, vs] } }
    refine tail_any (ops := [.ref a, .ref s4.heap.objs.size]) ht.typeIs (PyProof.Rows.slot_tuple_getitem.lookup) ?_ (by with_unfolding_all rfl)
    refine getItem_tuple_rev ht (Heap.IsSliceOf.new _ vl vu vs) pl pu ps ?_ (by rw [List.size_toArray]; omega)
    have hp := I5.hok.fresh (a := (s4.heap.push { cls := .type "slice", data := .fields #[vl, vu, vs] }).objs.size) (Nat.le_refl _)
    refine ⟨.ref _, _, I5.laid (t' := s4.toks) (o := .tup ws.reverse) (fun b ob q => Heap.get?_push_of_some _ q) (Nat.le_refl _) ?_, rfl, kk _ _ (same_upd hp) (.tup (.of upd_same) (by simpa using z1) (q1.reverse.kp (kp_same (same_upd hp))))⟩
    refine ⟨by rw [List.length_reverse]; exact hz, _, r.reverse, ?_⟩
    show IsTup _ _ its.reverse.toArray
    have e7 : its.reverse.toArray = its.toArray.toList.reverse.toArray := by simp
    rw [e7]
    exact IsTup.new _ _
  · cases e1
end
end DL
set_option Elab.async false
set_option linter.all false
set_option maxRecDepth 100000
set_option maxHeartbeats 4000000
namespace DL
open PySem PySem.Spec PyProof.Rows L2
def SI (t : Bool) (h : Heap) (it a : Addr) (k : Nat) : Prop := if t = true then h.IsTupleIter it a k else h.IsListIter it a k
def SS (t : Bool) (h : Heap) (a : Addr) (xs : Array Value) : Prop := if t = true then h.IsTuple a xs else h.IsList a xs
theorem SI.at {t : Bool} {h h' : Heap} {a l : Addr} {i : Nat} (x : SI t h a l i) (k : ∀ o, h.get? a = some o → h'.get? a = some o) : SI t h' a l i := by
  cases t with
  | true => obtain ⟨o, e, r⟩ := (show h.IsTupleIter a l i from x); exact ⟨o, k o e, r⟩
  | false => obtain ⟨o, e, r⟩ := (show h.IsListIter a l i from x); exact ⟨o, k o e, r⟩
theorem SI.obj {t : Bool} {h : Heap} {a l : Addr} {i : Nat} (x : SI t h a l i) : ∃ o, h.get? a = some o ∧ ∀ v, o.data ≠ .cell v := by
  cases t with
  | true => obtain ⟨o, e, _, d⟩ := (show h.IsTupleIter a l i from x); exact ⟨o, e, fun v z => by rw [d] at z; cases z⟩
  | false => obtain ⟨o, e, _, d⟩ := (show h.IsListIter a l i from x); exact ⟨o, e, fun v z => by rw [d] at z; cases z⟩
theorem SI.lt {t : Bool} {h : Heap} {a l : Addr} {i : Nat} (x : SI t h a l i) : a < h.objs.size := by
  obtain ⟨o, e, _⟩ := x.obj
  exact Heap.lt_size e
def itO (t : Bool) (l : Addr) : Obj := { cls := .type (if t = true then "tuple_iterator" else "list_iterator"), data := .fields #[.ref l, .int 0 0] }
theorem SI.new {t : Bool} {h : Heap} {l : Addr} : SI t (h.push (itO t l)) h.objs.size l 0 := by
  cases t with
  | true => exact ⟨_, Heap.get?_push_size _ rfl, rfl, rfl⟩
  | false => exact ⟨_, Heap.get?_push_size _ rfl, rfl, rfl⟩
theorem SS.keep {t : Bool} {h h' : Heap} {a : Addr} {xs : Array Value} (x : SS t h a xs) (k : ∀ o, h.get? a = some o → h'.get? a = some o) : SS t h' a xs := by
  cases t with
  | true => obtain ⟨o, e, r⟩ := (show h.IsTuple a xs from x); exact ⟨o, k o e, r⟩
  | false => obtain ⟨o, e, r⟩ := (show h.IsList a xs from x); exact ⟨o, k o e, r⟩
theorem SS.lt {t : Bool} {h : Heap} {a : Addr} {xs : Array Value} (x : SS t h a xs) : a < h.objs.size := by
  cases t with
  | true => obtain ⟨o, e, r⟩ := (show h.IsTuple a xs from x); exact Heap.lt_size e
  | false => obtain ⟨o, e, r⟩ := (show h.IsList a xs from x); exact Heap.lt_size e
/-- the items of zip(.., strict=True) -/
def asSq : D → Option (Bool × List D)
  | .tup xs => some (true, xs)
  | .lst xs => some (false, xs)
  | _ => none
def zipDs (xs ys : List D) : List D := (xs.zip ys).map fun p => .tup [p.1, p.2]
def iZipS (a b : Ex) : Ix := fun ρ S => (a ρ S).bind fun x S => (b ρ S).bind fun y S => match asSq x, asSq y with
  | some p, some q => if p.2.length = q.2.length then .ok (zipDs p.2 q.2) S else .bad
  | _, _ => .bad
end DL
set_option Elab.async false
set_option linter.all false
set_option maxRecDepth 100000
set_option maxHeartbeats 4000000
namespace DL
open PySem PySem.Spec PyProof.Rows L2
section
variable {P : Program} {w : World} {K : PySem.W.Frag} {mg : Str → Option Value} {base : Heap}
/-- a def of the head's facts -/
theorem fn_denD {x qual : Str} {params : Arguments} {body : List Stmt} {scope : Scope} {dvs : List V} {kws : List (Str × V)} {f : Addr} {fd : FuncData} {N ps : List Str} {k : Nat} {b : Sx} (F : FunD K x qual params body scope dvs kws f fd) (sc : FnScope N ps scope)
    (h : ∀ (cdv : Value) (A : Around) (outer : List Env) (s : Shared) (H : Hp) (E : XK), DL.Room k (A.deeper (envOfC qual scope s.heap.objs.size f cdv)) →
      Takes (cxOf (L2.CX P w) P w K mg base N qual scope f cdv A outer s H E) (WB E) → PassesOwn (model P w) (A.deeper (envOfC qual scope s.heap.objs.size f cdv)) (envOfC qual scope s.heap.objs.size f cdv) (cxOf (L2.CX P w) P w K mg base N qual scope f cdv A outer s H E).xe →
      SVs (cxOf (L2.CX P w) P w K mg base N qual scope f cdv A outer s H E) (WB E) body b) : DL.FnOk P w K mg base (L2.CX P w) (k + 1) f fd ps (spD K mg ps.length (fnB N.length b)) := by
  refine funD_ok F sc (fun vs H Q E h => ?_) (fun cdv A outer s H vs Q E hr hs => ?_)
  · obtain ⟨_, _, _, _, _, _, e, _⟩ := h
    exact e
  · obtain ⟨B, m, S, ds, r, q, e, g⟩ := hs
    refine ⟨_, h cdv A outer s H E hr (takes_of rfl rfl rfl rfl) (passes_of rfl), B, m, _, S, r, repE_start q, ?_⟩
    unfold fnB at g
    show finS K mg (WB E) B m S H (b (ds.map some ++ List.replicate (N.length - ds.length) none) S) _
    cases e1 : b (ds.map some ++ List.replicate (N.length - ds.length) none) S with
    | bad => rw [e1] at g; exact g.elim
    | exc c p ρ' S' => rw [e1] at g; exact fun m' H' σ' cls dd po re x => g m' H' cls dd po x
    | fl fl S' =>
      rw [e1] at g
      cases fl with
      | nx ρ' => exact fun m' H' σ' po re => g m' H' .non po .non
      | rt d => exact fun m' H' v po rv => g m' H' v po rv
      | bk _ => exact g.elim
      | ct _ => exact g.elim
theorem fn_P {k n : Nat} {f : Addr} {fd : FuncData} {ps : List Str} {F : Fn} (h : DL.FnOk P w K mg base (L2.CX P w) k f fd ps (spD K mg n F)) : DL.FnOk P w K mg base (L2.CX P w) k f fd ps (spD K mg n (fnP F)) := h.imp spP_of
end
mutual
def flat : D → Bool
  | .non => true
  | .bl _ => true
  | .int _ => true
  | .str _ => true
  | .raw _ => true
  | .tup xs => flats xs
  | _ => false
def flats : List D → Bool
  | [] => true
  | d :: ds => flat d && flats ds
end
def frz (S : Sto) : D → D
  | .ref n => match S[n]? with
    | some (some (.lst xs)) => .lst xs
    | _ => .ref n
  | d => d
def fnV (F : Fn) : Fn := fun ds S => if noRefs (ds.map (frz S)) = true then match F (ds.map (frz S)) [] with
  | .ok d _ => if flat d = true then .ok d S else .bad
  | _ => .bad else .bad
section
variable {K : PySem.W.Frag} {mg : Str → Option Value} {H : Hp} {Fb Fb' : Addr → Prop} {m m' : List Addr}
mutual
theorem Rep.flat : ∀ {v : V} {d : D}, Rep K H Fb m v d → DL.flat d = true → Rep K H Fb' m' v d
  | _, _, .non, _ => .non
  | _, _, .bl b, _ => .bl b
  | _, _, .int i, _ => .int i
  | _, _, .str x, _ => .str x
  | _, _, .tup h z r, e => .tup h z (RepA.flat r (by simpa [DL.flat] using e))
  | _, _, .lst h f z r, e => by simp [DL.flat] at e
  | _, _, .dK h z q r, e => by simp [DL.flat] at e
  | _, _, .dT h z q r, e => by simp [DL.flat] at e
  | _, _, .ref h, e => by simp [DL.flat] at e
  | _, _, .raw v, _ => .raw v
  | _, _, .scr h z, e => by simp [DL.flat] at e
  | _, _, .exn h f, e => by simp [DL.flat] at e
  | _, _, .exp h f h2 f2 n r, e => by simp [DL.flat] at e
theorem RepA.flat : ∀ {vs : List V} {ds : List D}, RepA K H Fb m vs ds → flats ds = true → RepA K H Fb' m' vs ds
  | _, _, .nil, _ => .nil
  | _, _, .cons h r, e => .cons (Rep.flat h (by simp [flats] at e; exact e.1)) (RepA.flat r (by simp [flats] at e; exact e.2))
end
theorem Rep.frz {B : Addr → Prop} {S : Sto} {v : V} {d : D} (r : Rl K mg B m H S) (h : Rep K H (Fo B m S) m v d) (e : DL.noRef (DL.frz S d) = true) : Rep K H (fun _ => False) [] v (DL.frz S d) := by
  cases d with
  | ref n =>
    cases h with
    | ref hn =>
      unfold DL.frz at e ⊢
      dsimp only at e ⊢
      cases hx : S[n]? with
      | none => rw [hx] at e; simp [DL.noRef] at e
      | some o =>
        cases o with
        | none => rw [hx] at e; simp [DL.noRef] at e
        | some o =>
          cases o with
          | lst xs =>
            rw [hx] at e
            cases r.obj _ _ _ hn hx with
            | lst h z q => exact .lst h (fun f => f) z (q.noRef (fun _ f => f.elim) (by simpa [DL.noRef] using e))
          | dic t kvs => rw [hx] at e; simp [DL.noRef] at e
          | ins c fs => rw [hx] at e; simp [DL.noRef] at e
  | _ => exact Rep.noRef (fun _ f => f.elim) h e
theorem RepA.frz {B : Addr → Prop} {S : Sto} (r : Rl K mg B m H S) : ∀ {vs : List V} {ds : List D}, RepA K H (Fo B m S) m vs ds → noRefs (ds.map (DL.frz S)) = true → RepA K H (fun _ => False) [] vs (ds.map (DL.frz S))
  | _, _, .nil, _ => .nil
  | _, _, .cons h q, e => .cons (Rep.frz r h (by simp [noRefs] at e; exact e.1)) (RepA.frz r q (by simp [noRefs] at e; simpa using e.2))
theorem spV_of {n : Nat} {F : Fn} (vs : List V) (H : Hp) (Q : VK) (E : XK) (h : spD K mg n (fnV F) vs H Q E) : spD K mg n F vs H Q E := by
  obtain ⟨B, m, S, ds, r, q, e, g⟩ := h
  unfold fnV at g
  split at g
  · rename_i hd
    have e0 : ∀ a, Fo (fun _ => False) [] [] a → False := fun a z => z.elim id fun ⟨n, o, e1, e2⟩ => by simp at e1
    refine ⟨fun _ => False, [], [], ds.map (frz S), ⟨rfl, List.nodup_nil, fun a ⟨n, o, e1, e2⟩ => by simp at e1, fun a z => z.elim, fun a z => by simp at z, fun n a o e1 e2 => by simp at e1⟩, (RepA.frz r q hd).noRef (fun a z => e0 a z) hd, e, ?_⟩
    cases e1 : F (ds.map (frz S)) [] with
    | bad => rw [e1] at g; exact g.elim
    | exc c pl S' => rw [e1] at g; exact g.elim
    | ok d S' =>
      rw [e1] at g
      dsimp only at g
      split at g
      · rename_i hn
        intro m' H' v p rv
        have sm : Same H H' := fun a o e => p.keep a o e fun ⟨n, o, e1, e2⟩ => by simp at e1
        exact g m H' v (Post.grow r sm) (rv.flat hn)
      · exact g.elim
  · exact g.elim
end
section
variable {P : Program} {w : World} {K : PySem.W.Frag} {mg : Str → Option Value} {base : Heap}
theorem fn_V {k n : Nat} {f : Addr} {fd : FuncData} {ps : List Str} {F : Fn} (h : DL.FnOk P w K mg base (L2.CX P w) k f fd ps (spD K mg n F)) : DL.FnOk P w K mg base (L2.CX P w) k f fd ps (spD K mg n (fnV F)) := h.imp spV_of
end
def iZip2 (a b : Ex) : Ix := fun ρ S => (a ρ S).bind fun x S => (b ρ S).bind fun y S => match x, y with
  | .lst xs, .lst ys => .ok (zipDs xs ys) S
  | .tup xs, .tup ys => .ok (zipDs xs ys) S
  | _, _ => .bad
theorem cx_none {P : Program} {w : World} : ∀ (H : Hp) (s : Shared) (e : Value) (s' : Shared), L2.CX P w [] H s (fun _ _ _ => False) e s' → False := fun _ _ _ _ h => by
  obtain ⟨_, _, _, _, _, _, _, _, _, _, _, _, z⟩ := h
  exact z.elim
theorem sp_law {K : PySem.W.Frag} {mg : Str → Option Value} {F : Fn} (h : ∀ ns : List Int, ns.length ≤ 63 → ∃ S, F [.scr ns] [] = .ok (.bl true) S) (H : Hp) (a : Addr) (ns : List Int) (hl : ns.length ≤ 63) (_ : Only H) (hS : SqL K H a (ns.map V.int)) : spD K mg 1 F [.ref a] H (fun v _ => v = .bl true) fun _ _ _ => False := by
  obtain ⟨S, e⟩ := h ns hl
  have e0 : ∀ a, Fo (fun _ => False) [] [] a → False := fun a z => z.elim id fun ⟨n, o, e1, e2⟩ => by simp at e1
  refine ⟨fun _ => False, [], [], [.scr ns], ⟨rfl, List.nodup_nil, fun a ⟨n, o, e1, e2⟩ => by simp at e1, fun a z => z.elim, fun a z => by simp at z, fun n a o e1 e2 => by simp at e1⟩, .cons (.scr ?_ (Nat.le_trans hl (by decide))) .nil, rfl, ?_⟩
  · rcases hS with h | h
    · exact .inl ⟨h, e0 a⟩
    · exact .inr h
  · rw [e]
    intro m' H' v p rv
    cases rv
    rfl
def HasFd (K : PySem.W.Frag) (a : Addr) (fd : FuncData) : Prop := ∃ oc od osl, K.lookup a = some ⟨oc, od, .func fd, osl⟩
def OkF (P : Program) (w : World) (K : PySem.W.Frag) (mg : Str → Option Value) (base : Heap) (x : Str) (ps : List Str) (k : Nat) (F : Fn) : Prop :=
  ∃ fd, HasFd K (He.ga K x) fd ∧ DL.FnOk P w K mg base (L2.CX P w) k (He.ga K x) fd ps (spD K mg ps.length F) ∧ Binds K fd ps [] ∧ mg x = some (.ref (He.ga K x)) ∧ PySem.W.keepIn K (.ref (He.ga K x)) = true
section
variable {P : Program} {w : World} {K : PySem.W.Frag} {mg : Str → Option Value} {base : Heap} {x name qual : Str} {params : Arguments} {body : List Stmt} {scope : Scope} {f : Addr} {N ps : List Str} {k : Nat} {b : Sx} {F : Fn}
theorem OkF.at_ {dvs : List V} {kws : List (Str × V)} {fd : FuncData} (h : OkF P w K mg base x ps k F) (g : FunD K name qual params body scope dvs kws (He.ga K x) fd) : DL.FnOk P w K mg base (L2.CX P w) k (He.ga K x) fd ps (spD K mg ps.length F) := by
  obtain ⟨fd2, ⟨oc, od, osl, e⟩, h, _⟩ := h
  obtain ⟨oc2, od2, dV, kV, doc, pm, an, cdv, ct, osl2, rfl, lk, hcd, _, _⟩ := g.ex
  rw [e] at lk
  cases lk
  exact h
theorem okF_mk (h : ∃ fd, FunD K name qual params body scope [] [] (He.fAd K (x, none)) fd) (hm : mg x = some (.ref (He.ga K x)))
    (hbind : ∀ (kV doc pm : Value) (an : Option Addr) (cdv ct : Value) (us : List Value), us.length = ps.length → bindArgs (PySem.W.fnOf name qual params body scope .none kV doc pm an cdv ct) ⟨us, []⟩ = pure (ps.zip us))
    (hF : ∀ fd, FunD K name qual params body scope [] [] (He.ga K x) fd → DL.FnOk P w K mg base (L2.CX P w) k (He.ga K x) fd ps (spD K mg ps.length F)) : OkF P w K mg base x ps k F := by
  obtain ⟨fd, g⟩ := h
  refine ⟨fd, ?_, hF fd g, g.bindsN hbind, hm, g.kp⟩
  obtain ⟨oc, od, dV, kV, doc, pm, an, cdv, ct, osl, rfl, lk, hcd, _, _⟩ := g.ex
  exact ⟨_, _, _, lk⟩
abbrev BodyOk (P : Program) (w : World) (K : PySem.W.Frag) (mg : Str → Option Value) (base : Heap) (x qual : Str) (body : List Stmt) (scope : Scope) (N : List Str) (k : Nat) (b : Sx) : Prop :=
  ∀ (cdv : Value) (A : Around) (outer : List Env) (s : Shared) (H : Hp) (E : XK), DL.Room k (A.deeper (envOfC qual scope s.heap.objs.size (He.ga K x) cdv)) →
      Takes (cxOf (L2.CX P w) P w K mg base N qual scope (He.ga K x) cdv A outer s H E) (WB E) → PassesOwn (model P w) (A.deeper (envOfC qual scope s.heap.objs.size (He.ga K x) cdv)) (envOfC qual scope s.heap.objs.size (He.ga K x) cdv) (cxOf (L2.CX P w) P w K mg base N qual scope (He.ga K x) cdv A outer s H E).xe →
      SVs (cxOf (L2.CX P w) P w K mg base N qual scope (He.ga K x) cdv A outer s H E) (WB E) body b
theorem okF_N (h : ∃ fd, FunD K name qual params body scope [] [] (He.fAd K (x, none)) fd) (hm : mg x = some (.ref (He.ga K x))) (sc : FnScope N ps scope)
    (hbind : ∀ (kV doc pm : Value) (an : Option Addr) (cdv ct : Value) (us : List Value), us.length = ps.length → bindArgs (PySem.W.fnOf name qual params body scope .none kV doc pm an cdv ct) ⟨us, []⟩ = pure (ps.zip us))
    (hb : BodyOk P w K mg base x qual body scope N k b) : OkF P w K mg base x ps (k + 1) (fnB N.length b) :=
  okF_mk h hm hbind fun fd g => fn_denD g sc hb
theorem okF_P (h : ∃ fd, FunD K name qual params body scope [] [] (He.fAd K (x, none)) fd) (hm : mg x = some (.ref (He.ga K x))) (sc : FnScope N ps scope)
    (hbind : ∀ (kV doc pm : Value) (an : Option Addr) (cdv ct : Value) (us : List Value), us.length = ps.length → bindArgs (PySem.W.fnOf name qual params body scope .none kV doc pm an cdv ct) ⟨us, []⟩ = pure (ps.zip us))
    (hb : BodyOk P w K mg base x qual body scope N k b) : OkF P w K mg base x ps (k + 1) (fnP (fnB N.length b)) :=
  okF_mk h hm hbind fun fd g => fn_P (fn_denD g sc hb)
theorem okF_V (h : ∃ fd, FunD K name qual params body scope [] [] (He.fAd K (x, none)) fd) (hm : mg x = some (.ref (He.ga K x))) (sc : FnScope N ps scope)
    (hbind : ∀ (kV doc pm : Value) (an : Option Addr) (cdv ct : Value) (us : List Value), us.length = ps.length → bindArgs (PySem.W.fnOf name qual params body scope .none kV doc pm an cdv ct) ⟨us, []⟩ = pure (ps.zip us))
    (hb : BodyOk P w K mg base x qual body scope N k b) : OkF P w K mg base x ps (k + 1) (fnV (fnB N.length b)) :=
  okF_mk h hm hbind fun fd g => fn_V (fn_denD g sc hb)
end
section
variable {X : Cx} {W : WX} {x : Str} {ps : List Str} {k j : Nat} {F : Fn} {p pos : Pos} {e : Expr} {es : List Expr} {fs : List Ex}
theorem ev_fnO (O : OkF X.prog X.w X.K X.mg X.base x ps k F) (hr : DL.Room j X.A) (hg : Gl X x) (tk : Takes X W) (ha : EVA X W (e :: es) fs) (hj : k ≤ j := by omega) (hn : fs.length = ps.length := by rfl) (hdb : (x == ("__debug__" : Str)) = false := by decide) (he : starEach (e :: es) X.env = (false, eval e X.env) :: starEach es X.env := by rfl) (hpl : (backTo pos (starEach es X.env)).any (·.1) = false := by rfl) :
    EV X W (.Call (.Name x p) (e :: es) [] pos) (eFn F fs) := by
  obtain ⟨fd, _, FO, hb, hm, hk⟩ := O
  exact ev_fn FO (hr.mono hj) hg hm hk hb tk ha hn hdb he hpl
end
def igAdd : D → D → Option D
  | .int i, .int j => some (.int (i + j))
  | _, _ => none
def igMul : D → D → Option D
  | .int i, .int j => if (-(2 ^ 64) < i ∧ i < 2 ^ 64) ∨ (-(2 ^ 64) < j ∧ j < 2 ^ 64) then some (.int (i * j)) else none
  | _, _ => none
def sFrz (i : Nat) (s : Sx) : Sx := fun ρ S => match ρ[i]? with
  | some (some (.ref n)) => match S[n]? with
    | some (some (.lst xs)) => s (ρ.set i (some (.lst xs))) (S.set n none)
    | some (some (.dic false kvs)) => s (ρ.set i (some (.dic false kvs))) (S.set n none)
    | _ => .bad
  | _ => .bad
section
variable {K : PySem.W.Frag} {mg : Str → Option Value} {B : Addr → Prop} {m m' : List Addr} {S S' : Sto} {H H' : Hp} {n : Nat}
theorem liv_kill {a : Addr} (h : Liv m (S.set n none) a) : Liv m S a ∧ m[n]? ≠ some a ∨ (Liv m S a ∧ ∃ k, k ≠ n ∧ m[k]? = some a) := by
  obtain ⟨k, o, e1, e2⟩ := h
  by_cases hk : k = n
  · subst hk
    rw [List.getElem?_set] at e2
    simp at e2
  · rw [List.getElem?_set_ne (fun e => hk e.symm)] at e2
    exact .inr ⟨⟨k, o, e1, e2⟩, k, hk, e1⟩
theorem liv_kill' {a : Addr} (h : Liv m (S.set n none) a) : Liv m S a := (liv_kill h).elim (·.1) (·.1)
theorem Rl.kill (r : Rl K mg B m H S) : Rl K mg B m H (S.set n none) := by
  have kp : Kp H H (Fo B m S) (Fo B m (S.set n none)) m m := kp_anti fun a z => z.imp id liv_kill'
  refine ⟨by simp [r.len], r.nod, fun a l z => r.nb a (liv_kill' l) z, r.bt, r.mt, fun k a u e1 e2 => ?_⟩
  by_cases hk : k = n
  · subst hk
    rw [List.getElem?_set] at e2
    simp at e2
  · rw [List.getElem?_set_ne (fun e => hk e.symm)] at e2
    cases r.obj k a u e1 e2 with
    | lst h z q => exact .lst h z (q.kp kp)
    | dK h z e q => exact .dK h z e (q.kp kp)
    | dT h z e q => exact .dT h z e (q.kp kp)
    | ins g h e q => exact .ins g h e (q.kp kp)
theorem Post.unkill (p : Post K mg B m (S.set n none) H m' S' H') : Post K mg B m S H m' S' H' :=
  ⟨p.ext, fun a o h hl => p.keep a o h fun z => hl (liv_kill' z), p.smm, p.rl, fun a h => (p.liv a h).imp liv_kill' id⟩
end
section
variable {X : Cx} {W : WX} {st : Stmt} {s : Sx} {i : Nat}
/-- a dict locked for ever: nobody of ours writes it any more -/
theorem ps_lockF {st : Stmt} {t : TS} (h : PS X st t) : PS X st (fun E σ H => t E σ H ∨ ∃ d u, H d = some u ∧ Mut (some u) ∧ ∀ od, t E σ (L2.upd H d (.frz od u))) :=
  ⟨fun pins s σ H E I q => q.elim (fun q => h.run pins s σ H E I q) fun ⟨d, u, e, mu, q⟩ => let ⟨od, I'⟩ := I.lock e mu; h.run pins s σ _ E I' (q od)⟩
theorem Rl.lockD {K : PySem.W.Frag} {mg : Str → Option Value} {B : Addr → Prop} {m : List Addr} {S : Sto} {H : Hp} {n : Nat} {a : Addr} {o : Ob} {u : HO} (r : Rl K mg B m H S) (ha : m[n]? = some a) (ex : S[n]? = some (some o)) :
    Rl K mg B m (L2.upd H a u) (S.set n none) ∧ Kp H (L2.upd H a u) (Fo B m S) (Fo B m (S.set n none)) m m ∧ ∀ m' S' H', Post K mg B m (S.set n none) (L2.upd H a u) m' S' H' → Post K mg B m S H m' S' H' := by
  have hl : Liv m S a := ⟨n, o, ha, ex⟩
  have na : ∀ b, ¬ Fo B m S b → b ≠ a := fun b f e => f (.inr (e ▸ hl))
  have nk : ¬ Liv m (S.set n none) a := by
    rintro l
    rcases liv_kill l with ⟨_, z⟩ | ⟨_, k, hk, hk2⟩
    · exact z ha
    · obtain ⟨l1, g1⟩ := List.getElem?_eq_some_iff.mp hk2
      obtain ⟨l2, g2⟩ := List.getElem?_eq_some_iff.mp ha
      exact hk ((List.getElem_inj r.nod).mp (g1.trans g2.symm))
  have kp : Kp H (L2.upd H a u) (Fo B m S) (Fo B m (S.set n none)) m m := by
    refine ⟨fun b xs h f => by rw [upd_ne (na b f)]; exact h, fun b u' h f => by unfold Rd; rw [upd_ne (na b f)]; exact h, fun b o' f h => ?_, fun b u' h f z => f (z.imp id liv_kill'), fun _ _ h => h⟩
    have : b ≠ a := by
      rintro rfl
      exact (r.obj n _ _ ha ex).not_fix f h
    rw [upd_ne this]; exact h
  have sm : ∀ b, H b ≠ none → L2.upd H a u b ≠ none := fun b h => by
    by_cases e : b = a
    · subst e; rw [upd_same]; simp
    · rw [upd_ne e]; exact h
  refine ⟨⟨by simp [r.len], r.nod, fun b l z => r.nb b (liv_kill' l) z, fun b z => sm b (r.bt b z), fun b z => sm b (r.mt b z), fun k b o' e1 e2 => ?_⟩, kp, fun m' S' H' p => ?_⟩
  · have hb : b ≠ a := fun e => nk ⟨k, o', e ▸ e1, e2⟩
    have hk : k ≠ n := by
      rintro rfl
      rw [List.getElem?_set] at e2
      simp at e2
    rw [List.getElem?_set_ne (Ne.symm hk)] at e2
    cases r.obj k b o' e1 e2 with
    | lst h z q => exact .lst (by rw [upd_ne hb]; exact h) z (q.kp kp)
    | dK h z e q => exact .dK (by rw [upd_ne hb]; exact h) z e (q.kp kp)
    | dT h z e q => exact .dT (by rw [upd_ne hb]; exact h) z e (q.kp kp)
    | ins g h e q => exact .ins g (by rw [upd_ne hb]; exact h) e (q.kp kp)
  · refine ⟨?_, fun b o' h hl' => ?_, fun b h => p.smm b (sm b h), p.rl, fun b h => ?_⟩
    · obtain ⟨l, e, g⟩ := p.ext
      refine ⟨l, e, fun b hb => ?_⟩
      have := g b hb
      by_cases e : b = a
      · subst e; rw [upd_same] at this; cases this
      · rw [upd_ne e] at this; exact this
    · have hb : b ≠ a := fun e => hl' (e ▸ hl)
      exact p.keep b o' (by rw [upd_ne hb]; exact h) fun z => hl' (liv_kill' z)
    · rcases p.liv b h with z | z
      · exact .inl (liv_kill' z)
      · by_cases e : b = a
        · subst e; rw [upd_same] at z; cases z
        · rw [upd_ne e] at z; exact .inr z
theorem sv_frz (h : SV X W st s) : SV X W st (sFrz i s) := by
  refine ps_imp (ps_lockF h) fun E σ H h => ?_
  obtain ⟨B, m, ρ, S, r, re, f⟩ := h
  unfold sFrz at f
  split at f
  · rename_i n en
    split at f
    · rename_i xs ex
      have kp : Kp H H (Fo B m S) (Fo B m (S.set n none)) m m := kp_anti fun a z => z.imp id liv_kill'
      obtain ⟨v, ev, rv⟩ := re.2 i _ en
      cases rv with
      | ref ha =>
        rename_i a
        cases r.obj _ _ _ ha ex with
        | lst h z q =>
          have nf : ¬ Fo B m (S.set n none) a := by
            rintro (b | l)
            · exact r.nb a ⟨n, _, ha, ex⟩ b
            · rcases liv_kill l with ⟨_, z⟩ | ⟨_, k, hk, hk2⟩
              · exact z ha
              · obtain ⟨l1, g1⟩ := List.getElem?_eq_some_iff.mp hk2
                obtain ⟨l2, g2⟩ := List.getElem?_eq_some_iff.mp ha
                exact hk ((List.getElem_inj r.nod).mp (g1.trans g2.symm))
          refine .inl ⟨B, m, ρ.set i (some (.lst xs)), S.set n none, r.kill, ⟨by simp [re.1], fun j d e => ?_⟩, ?_⟩
          · by_cases hj : i = j
            · subst hj
              rw [List.getElem?_set] at e
              have hi : i < ρ.length := (List.getElem?_eq_some_iff.mp en).1
              simp [hi] at e
              subst e
              exact ⟨_, ev, .lst h nf z (q.kp kp)⟩
            · rw [List.getElem?_set_ne hj] at e
              obtain ⟨w, ew, rw'⟩ := re.2 j d e
              exact ⟨w, ew, rw'.kp kp⟩
          · generalize hr : s (ρ.set i (some (.lst xs))) (S.set n none) = r2 at f
            cases r2 with
            | bad => exact f.elim
            | exc c p ρ' S' => exact fun m' H' σ' cls dd po => f m' H' σ' cls dd po.unkill
            | fl fl S' =>
              cases fl with
              | nx ρ' => exact fun m' H' σ' po => f m' H' σ' po.unkill
              | bk ρ' => exact fun m' H' σ' po => f m' H' σ' po.unkill
              | ct ρ' => exact fun m' H' σ' po => f m' H' σ' po.unkill
              | rt d => exact fun m' H' v po => f m' H' v po.unkill
    · rename_i kvs ex
      obtain ⟨v, ev, rv⟩ := re.2 i _ en
      cases rv with
      | ref ha =>
        rename_i a
        cases r.obj _ _ _ ha ex with
        | @dK kv _ h z e q =>
          refine .inr ⟨a, .dK kv, h, trivial, fun od => ?_⟩
          obtain ⟨r', kp, un⟩ := r.lockD (u := .frz od (.dK kv)) ha ex
          refine ⟨B, m, ρ.set i (some (.dic false kvs)), S.set n none, r', ⟨by simp [re.1], fun j d e' => ?_⟩, ?_⟩
          · by_cases hj : i = j
            · subst hj
              rw [List.getElem?_set] at e'
              have hi : i < ρ.length := (List.getElem?_eq_some_iff.mp en).1
              simp [hi] at e'
              subst e'
              exact ⟨_, ev, .dK ⟨od, upd_same⟩ z e (q.kp kp)⟩
            · rw [List.getElem?_set_ne hj] at e'
              obtain ⟨w, ew, rw'⟩ := re.2 j d e'
              exact ⟨w, ew, rw'.kp kp⟩
          · generalize hr : s (ρ.set i (some (.dic false kvs))) (S.set n none) = r2 at f
            cases r2 with
            | bad => exact f.elim
            | exc c p ρ' S' => exact fun m' H' σ' cls dd po => f m' H' σ' cls dd (un _ _ _ po)
            | fl fl S' =>
              cases fl with
              | nx ρ' => exact fun m' H' σ' po => f m' H' σ' (un _ _ _ po)
              | bk ρ' => exact fun m' H' σ' po => f m' H' σ' (un _ _ _ po)
              | ct ρ' => exact fun m' H' σ' po => f m' H' σ' (un _ _ _ po)
              | rt d => exact fun m' H' v po => f m' H' v (un _ _ _ po)
    · exact f.elim
  · exact f.elim
end
end DL
set_option Elab.async false
set_option linter.all false
set_option maxRecDepth 100000
set_option maxHeartbeats 4000000
namespace DL
open PySem PySem.Spec PyProof.Rows
theorem view_at {S : Sto} {n : Nat} {xs : List D} (h : S[n]? = some (some (.lst xs))) : view S (.ref n) = .lst xs := by simp only [view, h]
theorem lst_at {S : Sto} {n : Nat} {xs : List D} (h : S[n]? = some (some (.lst xs))) : lstOf S (.ref n) = some (n, xs) := by simp only [lstOf, h]
theorem atI_in {α : Type} {xs : List α} {i : Int} (h : 0 ≤ i) (h2 : i < xs.length) : L2.atI xs i = some (xs[i.toNat]'(by omega)) := by
  unfold L2.atI L2.ixN
  rw [if_pos h, if_pos h2]
  exact List.getElem?_eq_getElem (by omega)
/-- the jar at n -/
def Jar (S : Sto) (n : Nat) (cells : List Int) (t r : Int) : Prop := S[n]? = some (some (.lst [.lst (cells.map .int), .int t, .int r]))
theorem modR (a p : Int) (h : 2147483423 ≤ p ∧ p ≤ 2147483647) : 0 ≤ a % p ∧ a % p ≤ 2147483647 := by
  have b := Int.emod_nonneg a (by omega : p ≠ 0)
  have d := Int.emod_lt_of_pos a (by omega : 0 < p)
  omega
theorem mulD_l {i j : Int} (h : -18446744073709551616 < i) (h2 : i < 18446744073709551616) : mulD (.int i) (.int j) = some (.int (i * j)) := by
  unfold mulD
  exact if_pos (.inl ⟨h, h2⟩)
theorem mulD_r {i j : Int} (h : -18446744073709551616 < j) (h2 : j < 18446744073709551616) : mulD (.int i) (.int j) = some (.int (i * j)) := by
  unfold mulD
  exact if_pos (.inr ⟨h, h2⟩)
theorem powD_k {i j : Int} (h : 0 ≤ j) (h1 : j ≤ 1000000) (h2 : i.natAbs < 18446744073709551616) : powD (.int i) (.int j) = some (.int (i ^ j.toNat)) := by
  unfold powD
  exact if_pos ⟨h, h1, h2⟩
theorem pow1018 : powD (.int 10) (.int 18) = some (.int 1000000000000000000) := by
  rw [powD_k (by decide) (by decide) (by decide)]
  rfl
theorem eqD_int (a b : Int) : eqD (.int a) (.int b) = some (.bl (decide (a = b))) := by
  by_cases h : a = b
  · subst h
    simp [eqD, eqB, eqS, toP, SeqAt.shaped, PyData.eqv, PyData.canLay0, PyData.depth]
  · simp [eqD, eqB, eqS, toP, SeqAt.shaped, PyData.eqv, PyData.canLay0, PyData.depth, h]
theorem eqD_bl (a b : Bool) : eqD (.bl a) (.bl b) = some (.bl (a == b)) := by
  cases a <;> cases b <;> simp [eqD, eqB, eqS, toP, SeqAt.shaped, PyData.eqv, PyData.canLay0, PyData.depth]
theorem neD_bl (a b : Bool) : neD (.bl a) (.bl b) = some (.bl (!(a == b))) := by
  cases a <;> cases b <;> simp [neD, eqB, eqS, toP, SeqAt.shaped, PyData.eqv, PyData.canLay0, PyData.depth]
theorem neD_int (a b : Int) : neD (.int a) (.int b) = some (.bl (!decide (a = b))) := by
  by_cases h : a = b
  · subst h
    simp [neD, eqB, eqS, toP, SeqAt.shaped, PyData.eqv, PyData.canLay0, PyData.depth]
  · simp [neD, eqB, eqS, toP, SeqAt.shaped, PyData.eqv, PyData.canLay0, PyData.depth, h]
theorem eqB_refl {d : D} {p : PyData} (h : toP d = some p) (h1 : p.canLay0 = true) (h2 : p.depth ≤ 64) : eqB d d = some true := by
  have h3 : SeqAt.shaped p = true := by simp [SeqAt.shaped, h1, h2]
  unfold eqB
  cases e : eqS d d with
  | some c =>
    obtain ⟨x, y, e1, e2, rfl⟩ := eqS_some e
    rw [e1] at e2
    cases e2
    simp
  | none =>
    rw [h]
    simp only [h3, Bool.and_self, if_true]
    rw [SeqAt.eqv_refl p h1]
end DL
set_option Elab.async false
set_option linter.all false
set_option maxRecDepth 100000
set_option maxHeartbeats 4000000
namespace DL
open PySem PySem.Spec PyProof.Rows L2
def frzR (S : Sto) (n : Nat) : D := match S[n]? with
  | some (some (.lst xs)) => .lst xs
  | _ => .ref n
mutual
def frzD (S : Sto) : D → D
  | .ref n => frzR S n
  | .tup xs => .tup (frzDs S xs)
  | .lst xs => .lst (frzDs S xs)
  | .non => .non
  | .bl b => .bl b
  | .int i => .int i
  | .str x => .str x
  | .dic t kvs => .dic t kvs
  | .raw v => .raw v
  | .scr ns => .scr ns
  | .exn c p => .exn c p
def frzDs (S : Sto) : List D → List D
  | [] => []
  | d :: ds => frzD S d :: frzDs S ds
end
section
variable {K : PySem.W.Frag} {mg : Str → Option Value} {H : Hp} {m : List Addr} {B : Addr → Prop} {S : Sto}
theorem Rep.frzR {n : Nat} {v : V} (r : Rl K mg B m H S) (h : Rep K H (Fo B m S) m v (.ref n)) (e : DL.noRef (DL.frzR S n) = true) : Rep K H (fun _ => False) [] v (DL.frzR S n) := by
  cases h with
  | ref hn =>
    unfold DL.frzR at e ⊢
    cases hx : S[n]? with
    | none => rw [hx] at e; simp [DL.noRef] at e
    | some o =>
      cases o with
      | none => rw [hx] at e; simp [DL.noRef] at e
      | some o =>
        cases o with
        | lst xs =>
          rw [hx] at e
          cases r.obj _ _ _ hn hx with
          | lst h z q => exact .lst h (fun f => f) z (q.noRef (fun _ f => f.elim) (by simpa [DL.noRef] using e))
        | dic t kvs => rw [hx] at e; simp [DL.noRef] at e
        | ins c fs => rw [hx] at e; simp [DL.noRef] at e
mutual
theorem Rep.frzD (r : Rl K mg B m H S) : ∀ {d : D} {v : V}, Rep K H (Fo B m S) m v d → DL.noRef (DL.frzD S d) = true → Rep K H (fun _ => False) [] v (DL.frzD S d)
  | .ref n, v, h, e => by
    simp only [DL.frzD] at e ⊢
    exact h.frzR r e
  | .tup xs, v, h, e => by
    cases h with
    | tup h z q =>
      simp only [DL.frzD, DL.noRef] at e ⊢
      exact .tup h z (RepA.frzD r q e)
  | .lst xs, v, h, e => by
    cases h with
    | lst h f z q =>
      simp only [DL.frzD, DL.noRef] at e ⊢
      exact .lst h (fun f => f) z (RepA.frzD r q e)
  | .non, v, h, e => by simp only [DL.frzD] at e ⊢; exact Rep.noRef (fun _ f => f.elim) h e
  | .bl b, v, h, e => by simp only [DL.frzD] at e ⊢; exact Rep.noRef (fun _ f => f.elim) h e
  | .int i, v, h, e => by simp only [DL.frzD] at e ⊢; exact Rep.noRef (fun _ f => f.elim) h e
  | .str x, v, h, e => by simp only [DL.frzD] at e ⊢; exact Rep.noRef (fun _ f => f.elim) h e
  | .dic t kvs, v, h, e => by simp only [DL.frzD] at e ⊢; exact Rep.noRef (fun _ f => f.elim) h e
  | .raw w, v, h, e => by simp only [DL.frzD] at e ⊢; exact Rep.noRef (fun _ f => f.elim) h e
  | .scr ns, v, h, e => by simp only [DL.frzD] at e ⊢; exact Rep.noRef (fun _ f => f.elim) h e
  | .exn c p, v, h, e => by simp only [DL.frzD] at e ⊢; exact Rep.noRef (fun _ f => f.elim) h e
theorem RepA.frzD (r : Rl K mg B m H S) : ∀ {ds : List D} {vs : List V}, RepA K H (Fo B m S) m vs ds → noRefs (frzDs S ds) = true → RepA K H (fun _ => False) [] vs (frzDs S ds)
  | [], _, .nil, _ => .nil
  | d :: ds, _, .cons h q, e => by
    simp only [frzDs, noRefs, Bool.and_eq_true] at e ⊢
    exact .cons (Rep.frzD r h e.1) (RepA.frzD r q e.2)
end
end
end DL
set_option Elab.async false
set_option linter.all false
set_option maxRecDepth 100000
set_option maxHeartbeats 4000000
namespace DL
open PySem PySem.Spec PyProof.Rows L2
def showsD (p : PyData) : Bool := p.showable && decide (p.depth ≤ 40) && decide (p.shown.length ≤ 16000000)
def reprD (d : D) : Option D := (toP d).bind fun p => if showsD p = true then some (.str p.shown) else none
def eRepr (f : Ex) : Ex := fun ρ S => (f ρ S).bind fun d S => ans S (reprD (frzD S d))
end DL
set_option Elab.async false
set_option linter.all false
set_option maxRecDepth 100000
set_option maxHeartbeats 4000000
namespace DL
open PySem PySem.Spec PyProof.Rows L2
def rgN (i j c : Int) : Nat := (Builtin.Range.rangeSize i j c).toNat
def iRng3 (i j c : Int) : List D := (List.range (rgN i j c)).map fun k => .int (i + (k : Nat) * c)
def iRng3X (a b c : Ex) : Ix := fun ρ S => (evL [a, b, c] ρ S).bind fun ds S => match ds with
  | [.int i, .int j, .int k] => if k ≠ 0 ∧ k.natAbs < 1073741824 ∧ Builtin.Range.small i j k = true then .ok (iRng3 i j k) S else .bad
  | _ => .bad
def fV : D → Option V
  | .non => some .non
  | .bl b => some (.bl b)
  | .int i => some (.int i)
  | .str x => some (.str x)
  | _ => none
def fVs : List D → Option (List V)
  | [] => some []
  | d :: ds => match fV d, fVs ds with
    | some v, some vs => some (v :: vs)
    | _, _ => none
def sqOf : D → Option (List D)
  | .lst xs => some xs
  | .tup xs => some xs
  | _ => none
def inB (x y : D) : Option Bool := (fV x).bind fun v => (sqOf y).bind fun ds => (fVs ds).map fun vs => inV v vs
def inU (x y : D) : Option Bool := match y with
  | .dic t kvs => dhasD (.dic t kvs) x
  | .str z => match x with
    | .str i => some (!(Builtin.Str.occurrences z i 0 z.length 1).isEmpty)
    | _ => none
  | y => inB x y
def inD (x y : D) : Option D := (inU x y).map .bl
def ninD (x y : D) : Option D := (inU x y).map fun b => .bl (!b)
section
variable {K : PySem.W.Frag} {H : Hp} {Fb : Addr → Prop} {m : List Addr}
theorem fV_flat : ∀ {d : D} {v : V}, fV d = some v → flatV v = true
  | .non, _, e => by cases e; rfl
  | .bl _, _, e => by cases e; rfl
  | .int _, _, e => by cases e; rfl
  | .str _, _, e => by cases e; rfl
  | .tup _, _, e => by cases e
  | .lst _, _, e => by cases e
  | .dic _ _, _, e => by cases e
  | .ref _, _, e => by cases e
  | .raw _, _, e => by cases e
  | .scr _, _, e => by cases e
  | .exn _ _, _, e => by cases e
theorem Rep.fV {d : D} {v w : V} (h : Rep K H Fb m v d) (e : DL.fV d = some w) : v = w := by
  cases h <;> simp [DL.fV] at e <;> first | exact e | (subst e; rfl)
theorem Vw.fV {d : D} {v w : V} (h : Vw K H Fb m v d) (e : DL.fV d = some w) : v = w := by
  cases h with
  | oth h => exact h.fV e
  | lst _ _ _ => cases e
  | dK _ _ _ _ => cases e
  | dT _ _ _ _ => cases e
theorem RepA.fVs : ∀ {ds : List D} {vs ws : List V}, RepA K H Fb m vs ds → DL.fVs ds = some ws → vs = ws ∧ ws.all flatV = true
  | [], _, _, .nil, e => by cases e; exact ⟨rfl, rfl⟩
  | d :: ds, _, ws, .cons h q, e => by
    unfold DL.fVs at e
    cases e1 : DL.fV d with
    | none => rw [e1] at e; cases e
    | some w =>
      cases e2 : DL.fVs ds with
      | none => rw [e1, e2] at e; cases e
      | some us =>
        rw [e1, e2] at e
        cases e
        obtain ⟨rfl, g⟩ := q.fVs e2
        have := h.fV e1
        subst this
        exact ⟨rfl, by simp [fV_flat e1, g]⟩
end
section
variable {X : Cx}
theorem inB_sq {K : PySem.W.Frag} {H : Hp} {Fb : Addr → Prop} {m : List Addr} {dx dy : D} {x y : V} {c : Bool} (vx : Vw K H Fb m x dx) (vy : Vw K H Fb m y dy) (e : inB dx dy = some c) :
    ∃ p xs, y = .ref p ∧ (SqL K H p xs ∨ SqT K H p xs) ∧ flatV x = true ∧ xs.all flatV = true ∧ c = inV x xs := by
  unfold inB at e
  cases e1 : fV dx with
  | none => rw [e1] at e; cases e
  | some v =>
    cases e2 : sqOf dy with
    | none => rw [e1, e2] at e; cases e
    | some ds =>
      cases e3 : fVs ds with
      | none => rw [e1, e2] at e; simp [e3] at e
      | some vs =>
        rw [e1, e2] at e
        simp [e3] at e
        have ex := vx.fV e1
        subst ex
        cases dy with
        | lst zs =>
          cases e2
          obtain ⟨a, us, rfl, h, z, q⟩ := vy.asL
          obtain ⟨rfl, g⟩ := q.fVs e3
          exact ⟨a, _, rfl, .inl (SqL.of h), fV_flat e1, g, e.symm⟩
        | tup zs =>
          cases e2
          obtain ⟨a, us, rfl, h, z, q⟩ := vy.asT
          obtain ⟨rfl, g⟩ := q.fVs e3
          exact ⟨a, _, rfl, .inr h, fV_flat e1, g, e.symm⟩
        | _ => cases e2
theorem og_in (hu : X.A.units + 64 < cLine) : OpR X (compareOp .In) (rG2 X.K inD) := by
  intro pins s σ H x y v u Q I rx ry ⟨Fb, m, dx, dy, d, fr, vx, vy, e, k⟩
  obtain ⟨c, e1, rfl⟩ := Option.map_eq_some_iff.mp e
  unfold inU at e1
  split at e1
  · obtain ⟨a, o, rfl, g, rfl⟩ := dhas_ok vy vx e1
    obtain rfl : u = Value.ref a := ry
    exact d_in (by omega) I g rx fun s' I' => ⟨.bl o.isSome, H, I', rfl, k H _ (Same.refl H) (.bl _)⟩
  · split at e1
    · cases e1
      cases vx.asS
      cases vy.asS
      exact op_in_str pins s σ H _ _ v u Q I rx ry ⟨_, _, rfl, rfl, k H _ (Same.refl H) (.bl _)⟩
    · cases e1
  · obtain ⟨p, xs, h1, h2, h3, h4, rfl⟩ := inB_sq vx vy e1
    exact op_in_seq pins s σ H x y v u Q I rx ry ⟨p, xs, h1, h2, h3, h4, by rw [if_neg Bool.false_ne_true]; exact k H _ (Same.refl H) (.bl _)⟩
theorem og_nin (hu : X.A.units + 64 < cLine) : OpR X (compareOp .NotIn) (rG2 X.K ninD) := by
  intro pins s σ H x y v u Q I rx ry ⟨Fb, m, dx, dy, d, fr, vx, vy, e, k⟩
  obtain ⟨c, e1, rfl⟩ := Option.map_eq_some_iff.mp e
  unfold inU at e1
  split at e1
  · obtain ⟨a, o, rfl, g, rfl⟩ := dhas_ok vy vx e1
    obtain rfl : u = Value.ref a := ry
    exact d_notIn (by omega) I g rx fun s' I' => ⟨.bl (!o.isSome), H, I', rfl, k H _ (Same.refl H) (.bl _)⟩
  · split at e1
    · cases e1
      cases vx.asS
      cases vy.asS
      exact op_notIn_str pins s σ H _ _ v u Q I rx ry ⟨_, _, rfl, rfl, k H _ (Same.refl H) (.bl _)⟩
    · cases e1
  · obtain ⟨p, xs, h1, h2, h3, h4, rfl⟩ := inB_sq vx vy e1
    exact op_notIn_seq pins s σ H x y v u Q I rx ry ⟨p, xs, h1, h2, h3, h4, by rw [if_pos rfl]; exact k H _ (Same.refl H) (.bl _)⟩
end
def maxI (n : Int) (ns : List Int) : Int := ns.foldl max n
section
variable {X : Cx} {W : WX}
theorem asIs_eq : ∀ {ds : List D} {ns : List Int}, asIs ds = some ns → ds = ns.map .int
  | [], ns, e => by cases e; rfl
  | .int i :: ds, ns, e => by
    unfold asIs at e
    obtain ⟨ms, e1, rfl⟩ := Option.map_eq_some_iff.mp e
    rw [asIs_eq e1]
    rfl
  | .non :: _, _, e => by simp [asIs] at e
  | .bl _ :: _, _, e => by simp [asIs] at e
  | .str _ :: _, _, e => by simp [asIs] at e
  | .tup _ :: _, _, e => by simp [asIs] at e
  | .lst _ :: _, _, e => by simp [asIs] at e
  | .dic _ _ :: _, _, e => by simp [asIs] at e
  | .ref _ :: _, _, e => by simp [asIs] at e
  | .raw _ :: _, _, e => by simp [asIs] at e
  | .scr _ :: _, _, e => by simp [asIs] at e
  | .exn _ _ :: _, _, e => by simp [asIs] at e
/-- max(xs, default=i) -/
def maxDef (i : Int) : List Int → Int
  | [] => i
  | n :: ns => maxI n ns
def maxDD : List D → Option D
  | [.lst xs, .int i] => (asIs xs).map fun ns => .int (maxDef i ns)
  | _ => none
def eMaxD (i : Int) (f : Ex) : Ex := fun ρ S => (f ρ S).bind fun d S => ans S (maxDD [view S d, .int i])
end
end DL
set_option Elab.async false
set_option linter.all false
set_option maxRecDepth 100000
set_option maxHeartbeats 4000000
namespace DL
open PySem PySem.Spec PyProof.Rows L2
abbrev Px := Str → D → Sto → Prop
abbrev Xs := Str → D → Ev → Sto → Prop
abbrev noX : Px := fun _ _ _ => False
def Wp0 {α : Type} (r : R α) (Q : α → Sto → Prop) (E : Px) : Prop := match r with
  | .ok a S => Q a S
  | .exc c p S => E c p S
  | .bad => False
def Ws0 (r : RS) (Q : Fl → Sto → Prop) (E : Str → D → Ev → Sto → Prop) : Prop := match r with
  | .fl f S => Q f S
  | .exc c p ρ S => E c p ρ S
  | .bad => False
structure Wp {α : Type} (r : R α) (Q : α → Sto → Prop) (E : Px) : Prop where
  out : Wp0 r Q E
structure Ws (r : RS) (Q : Fl → Sto → Prop) (E : Str → D → Ev → Sto → Prop) : Prop where
  out : Ws0 r Q E
section
variable {α β : Type} {Q : α → Sto → Prop} {E : Px} {ρ : Ev} {S S1 : Sto}
theorem Wp.mono {r : R α} {Q' : α → Sto → Prop} (h : Wp r Q E) (k : ∀ a S, Q a S → Q' a S) : Wp r Q' E := by
  cases r with
  | ok a S => exact ⟨k _ _ h.out⟩
  | exc c p S => first | exact h | exact ⟨h⟩ | exact (h).out | exact ⟨(h).out⟩
  | bad => first | exact h | exact ⟨h⟩ | exact (h).out | exact ⟨(h).out⟩
theorem Wp.of {r : R α} {a : α} (h : r = .ok a S) (q : Q a S) : Wp r Q E := by rw [h]; first | exact q | exact ⟨q⟩ | exact (q).out | exact ⟨(q).out⟩
theorem Wp.ok {r : R α} (h : Wp r Q noX) : ∃ a S, r = .ok a S ∧ Q a S := by
  cases r with
  | ok a S => exact ⟨a, S, rfl, h.out⟩
  | exc c p S => exact h.out.elim
  | bad => exact h.out.elim
theorem Ws.mono {r : RS} {Q Q' : Fl → Sto → Prop} {E : Str → D → Ev → Sto → Prop} (h : Ws r Q E) (k : ∀ a S, Q a S → Q' a S) : Ws r Q' E := by
  cases r with
  | fl a S => exact ⟨k _ _ h.out⟩
  | exc c p ρ S => first | exact h | exact ⟨h⟩ | exact (h).out | exact ⟨(h).out⟩
  | bad => first | exact h | exact ⟨h⟩ | exact (h).out | exact ⟨(h).out⟩
theorem Ws.of {r : RS} {f : Fl} {Q : Fl → Sto → Prop} {E : Str → D → Ev → Sto → Prop} (h : r = .fl f S) (q : Q f S) : Ws r Q E := by rw [h]; first | exact q | exact ⟨q⟩ | exact (q).out | exact ⟨(q).out⟩
theorem wp_bind {r : R α} {g : α → Sto → R β} {Q : β → Sto → Prop} (h : Wp r (fun a S => Wp (g a S) Q E) E) : Wp (r.bind g) Q E := by
  cases r with
  | ok a S => first | exact h | exact ⟨h⟩ | exact (h).out | exact ⟨(h).out⟩
  | exc c p S => first | exact h | exact ⟨h⟩ | exact (h).out | exact ⟨(h).out⟩
  | bad => first | exact h | exact ⟨h⟩ | exact (h).out | exact ⟨(h).out⟩
theorem ws_bind {r : R α} {g : α → Sto → RS} {Q : Fl → Sto → Prop} {E : Str → D → Ev → Sto → Prop} (h : Wp r (fun a S => Ws (g a S) Q E) (fun c p S => E c p ρ S)) : Ws (r.bindS ρ g) Q E := by
  cases r with
  | ok a S => first | exact h | exact ⟨h⟩ | exact (h).out | exact ⟨(h).out⟩
  | exc c p S => first | exact h | exact ⟨h⟩ | exact (h).out | exact ⟨(h).out⟩
  | bad => first | exact h | exact ⟨h⟩ | exact (h).out | exact ⟨(h).out⟩
end
/-- an operation's answer -/
def Wo0 (o : Option D) (Q : D → Prop) : Prop := match o with
  | some d => Q d
  | none => False
structure Wo (o : Option D) (Q : D → Prop) : Prop where
  out : Wo0 o Q
theorem Wo.of {o : Option D} {d : D} {Q : D → Prop} (h : o = some d) (q : Q d) : Wo o Q := by rw [h]; exact ⟨q⟩
section
variable {Q : D → Sto → Prop} {E : Px} {ρ : Ev} {S : Sto} {a b c : Ex} {i : Nat} {d : D}
theorem wp_ans {o : Option D} (h : Wo o fun z => Q z S) : Wp (ans S o) Q E := by
  cases o with
  | some d => first | exact h | exact ⟨h⟩ | exact (h).out | exact ⟨(h).out⟩
  | none => exact h.out.elim
theorem wp_c (q : Q d S) : Wp (eC d ρ S) Q E := ⟨q⟩
theorem wp_var (h : ρ[i]? = some (some d)) (q : Q d S) : Wp (eVar i ρ S) Q E := by
  unfold eVar
  rw [h]
  first | exact q | exact ⟨q⟩ | exact (q).out | exact ⟨(q).out⟩
theorem wp_op2 {g : D → D → Option D} (h : Wp (a ρ S) (fun x S1 => Wp (b ρ S1) (fun y S2 => Wo (g (view S2 x) (view S2 y)) fun z => Q z S2) E) E) : Wp (eOp2 g a b ρ S) Q E :=
  wp_bind (h.mono fun _ _ h => wp_bind (h.mono fun _ _ h => wp_ans h))
theorem wp_op1 {g : D → Option D} (h : Wp (a ρ S) (fun x S1 => Wo (g (view S1 x)) fun z => Q z S1) E) : Wp (eOp1 g a ρ S) Q E := wp_bind (h.mono fun _ _ h => wp_ans h)
theorem wp_nil {Q : List D → Sto → Prop} (q : Q [] S) : Wp (evL [] ρ S) Q E := ⟨q⟩
theorem wp_cons {f : Ex} {fs : List Ex} {Q : List D → Sto → Prop} (h : Wp (f ρ S) (fun d S1 => Wp (evL fs ρ S1) (fun ds S2 => Q (d :: ds) S2) E) E) : Wp (evL (f :: fs) ρ S) Q E :=
  wp_bind (h.mono fun _ _ h => wp_bind (h.mono fun _ _ h => ⟨h⟩))
theorem wp_fn {F : Fn} {fs : List Ex} (h : Wp (evL fs ρ S) (fun ds S1 => Wp (F ds S1) Q E) E) : Wp (eFn F fs ρ S) Q E := wp_bind h
theorem wp_call {g : List D → Option D} {fs : List Ex} (h : Wp (evL fs ρ S) (fun ds S1 => Wo (g (ds.map (view S1))) fun z => Q z S1) E) : Wp (eCall g fs ρ S) Q E := wp_bind (h.mono fun _ _ h => wp_ans h)
theorem wp_tup {fs : List Ex} (h : Wp (evL fs ρ S) (fun ds S1 => ds.length ≤ 16777216 ∧ Q (.tup ds) S1) E) : Wp (eTup fs ρ S) Q E :=
  wp_bind (h.mono fun ds S1 h => by
    have h1 : ds.length ≤ sizeLine := by rw [sizeLine_eq]; exact h.1
    show Wp (if ds.length ≤ sizeLine then _ else _) Q E
    rw [if_pos h1]
    first | exact h.2 | exact ⟨h.2⟩ | exact (h.2).out | exact ⟨(h.2).out⟩)
theorem wp_lst {fs : List Ex} (h : Wp (evL fs ρ S) (fun ds S1 => ds.length ≤ 16777216 ∧ Q (.lst ds) S1) E) : Wp (eLst fs ρ S) Q E :=
  wp_bind (h.mono fun ds S1 h => by
    have h1 : ds.length ≤ sizeLine := by rw [sizeLine_eq]; exact h.1
    show Wp (if ds.length ≤ sizeLine then _ else _) Q E
    rw [if_pos h1]
    first | exact h.2 | exact ⟨h.2⟩ | exact (h.2).out | exact ⟨(h.2).out⟩)
theorem wp_lstM {fs : List Ex} (h : Wp (evL fs ρ S) (fun ds S1 => ds.length ≤ 16777216 ∧ Q (.ref S1.length) (S1 ++ [some (.lst ds)])) E) : Wp (eLstM fs ρ S) Q E :=
  wp_bind (h.mono fun ds S1 h => by
    have h1 : ds.length ≤ sizeLine := by rw [sizeLine_eq]; exact h.1
    show Wp (if ds.length ≤ sizeLine then _ else _) Q E
    rw [if_pos h1]
    first | exact h.2 | exact ⟨h.2⟩ | exact (h.2).out | exact ⟨(h.2).out⟩)
theorem wp_listM {g : List D → Option D} {fs : List Ex} (h : Wp (evL fs ρ S) (fun ds S1 => ∃ xs, g (ds.map (view S1)) = some (.lst xs) ∧ Q (.ref S1.length) (S1 ++ [some (.lst xs)])) E) : Wp (eListM g fs ρ S) Q E :=
  wp_bind (h.mono fun ds S1 ⟨xs, h1, h⟩ => by
    rw [h1]
    first | exact h | exact ⟨h⟩ | exact (h).out | exact ⟨(h).out⟩)
theorem wp_sl0 (h : Wp (a ρ S) (fun d S1 => Wo (slD (view S1 d) none none) fun z => Q z S1) E) : Wp (eSl a none none ρ S) Q E :=
  wp_bind (h.mono fun _ _ h => wp_ans h)
theorem wp_sl1 (h : Wp (a ρ S) (fun d S1 => Wp (b ρ S1) (fun x S2 => ∃ i, x = .int i ∧ Wo (slD (view S2 d) (some i) none) fun z => Q z S2) E) E) : Wp (eSl a (some b) none ρ S) Q E :=
  wp_bind (h.mono fun _ _ h => wp_bind (r := ePart (some b) ρ _) (wp_bind (h.mono fun _ _ h => by
    obtain ⟨i, rfl, h⟩ := h
    exact ⟨(show Wp (R.bind (.ok none _) fun u S => ans S _) Q E from wp_bind ⟨wp_ans h⟩)⟩)))
theorem wp_sl2 (h : Wp (a ρ S) (fun d S1 => Wp (b ρ S1) (fun x S2 => ∃ i, x = .int i ∧ Wo (slD (view S2 d) none (some i)) fun z => Q z S2) E) E) : Wp (eSl a none (some b) ρ S) Q E :=
  wp_bind (h.mono fun d S1 h => wp_bind (r := .ok none S1) ⟨wp_bind (r := ePart (some b) ρ S1) (wp_bind (h.mono fun _ _ h => by
    obtain ⟨i, rfl, h⟩ := h
    exact ⟨wp_ans h⟩))⟩)
theorem wp_sl3 (h : Wp (a ρ S) (fun d S1 => Wp (b ρ S1) (fun x S2 => ∃ i, x = .int i ∧ Wp (c ρ S2) (fun y S3 => ∃ j, y = .int j ∧ Wo (slD (view S3 d) (some i) (some j)) fun z => Q z S3) E) E) E) : Wp (eSl a (some b) (some c) ρ S) Q E :=
  wp_bind (h.mono fun _ _ h => wp_bind (r := ePart (some b) ρ _) (wp_bind (h.mono fun _ _ h => by
    obtain ⟨i, rfl, h⟩ := h
    exact ⟨wp_bind (r := ePart (some c) ρ _) (wp_bind (h.mono fun _ _ h => by
      obtain ⟨j, rfl, h⟩ := h
      exact ⟨wp_ans h⟩))⟩)))
theorem wp_tval {Q : Bool → Sto → Prop} (h : Wp (a ρ S) (fun d S1 => ∃ b, d = .bl b ∧ Q b S1) E) : Wp (tVal a ρ S) Q E :=
  wp_bind (h.mono fun _ _ ⟨b, e, h⟩ => by subst e; first | exact h | exact ⟨h⟩ | exact (h).out | exact ⟨(h).out⟩)
theorem wp_tnot {t : Tx} {Q : Bool → Sto → Prop} (h : Wp (t ρ S) (fun b S1 => Q (!b) S1) E) : Wp (tNotX t ρ S) Q E := wp_bind (h.mono fun _ _ h => ⟨h⟩)
theorem wp_tand {t u : Tx} {Q : Bool → Sto → Prop} (h : Wp (t ρ S) (fun b S1 => (b = true → Wp (u ρ S1) Q E) ∧ (b = false → Q false S1)) E) : Wp (tAndX t u ρ S) Q E := wp_bind (h.mono fun b S1 h => by
  cases b with
  | true => rw [if_pos rfl]; exact h.1 rfl
  | false => rw [if_neg (by decide)]; first | exact h.2 rfl | exact ⟨h.2 rfl⟩ | exact (h.2 rfl).out | exact ⟨(h.2 rfl).out⟩)
theorem wp_tor {t u : Tx} {Q : Bool → Sto → Prop} (h : Wp (t ρ S) (fun b S1 => (b = true → Q true S1) ∧ (b = false → Wp (u ρ S1) Q E)) E) : Wp (tOrX t u ρ S) Q E := wp_bind (h.mono fun b S1 h => by
  cases b with
  | true => rw [if_pos rfl]; first | exact h.1 rfl | exact ⟨h.1 rfl⟩ | exact (h.1 rfl).out | exact ⟨(h.1 rfl).out⟩
  | false => rw [if_neg (by decide)]; exact h.2 rfl)
theorem wp_tyes {Q : Bool → Sto → Prop} (q : Q true S) : Wp (tYesX ρ S) Q E := ⟨q⟩
theorem wp_and (h : Wp (a ρ S) (fun x S1 => ∃ k, x = .bl k ∧ (k = true → Wp (b ρ S1) Q E) ∧ (k = false → Q (.bl false) S1)) E) : Wp (eAndX a b ρ S) Q E := wp_bind (h.mono fun x S1 ⟨k, e, h⟩ => by
  subst e
  cases k with
  | true => exact h.1 rfl
  | false => first | exact h.2 rfl | exact ⟨h.2 rfl⟩ | exact (h.2 rfl).out | exact ⟨(h.2 rfl).out⟩)
theorem wp_or (h : Wp (a ρ S) (fun x S1 => ∃ k, x = .bl k ∧ (k = true → Q (.bl true) S1) ∧ (k = false → Wp (b ρ S1) Q E)) E) : Wp (eOrX a b ρ S) Q E := wp_bind (h.mono fun x S1 ⟨k, e, h⟩ => by
  subst e
  cases k with
  | true => first | exact h.1 rfl | exact ⟨h.1 rfl⟩ | exact (h.1 rfl).out | exact ⟨(h.1 rfl).out⟩
  | false => exact h.2 rfl)
theorem wp_not (h : Wp (a ρ S) (fun x S1 => ∃ k, x = .bl k ∧ Q (.bl (!k)) S1) E) : Wp (eNotX a ρ S) Q E := wp_bind (h.mono fun x S1 ⟨k, e, h⟩ => by subst e; first | exact h | exact ⟨h⟩ | exact (h).out | exact ⟨(h).out⟩)
theorem wp_ifx {t : Tx} (h : Wp (t ρ S) (fun k S1 => (k = true → Wp (a ρ S1) Q E) ∧ (k = false → Wp (b ρ S1) Q E)) E) : Wp (eIfX t a b ρ S) Q E := wp_bind (h.mono fun k S1 h => by
  cases k with
  | true => rw [if_pos rfl]; exact h.1 rfl
  | false => rw [if_neg (by decide)]; exact h.2 rfl)
theorem wp_chain {g g' : D → D → Option D} (h : Wp (a ρ S) (fun x S1 => Wp (b ρ S1) (fun y S2 => Wo (g (view S2 x) (view S2 y)) fun z => ∃ k, z = .bl k ∧ (k = true → Wp (c ρ S2) (fun z S3 => Wo (g' (view S3 y) (view S3 z)) fun w => Q w S3) E) ∧ (k = false → Q (.bl false) S2)) E) E) : Wp (eChain g g' a b c ρ S) Q E :=
  wp_bind (h.mono fun x S1 h => wp_bind (h.mono fun y S2 h => by
    cases e : g (view S2 x) (view S2 y) with
    | none => rw [e] at h; exact h.out.elim
    | some z =>
      rw [e] at h
      obtain ⟨k, rfl, h⟩ := h
      dsimp only
      cases k with
      | true => rw [if_pos rfl]; exact wp_bind ((h.1 rfl).mono fun _ _ h => wp_ans h)
      | false => rw [if_neg (by decide)]; first | exact h.2 rfl | exact ⟨h.2 rfl⟩ | exact (h.2 rfl).out | exact ⟨(h.2 rfl).out⟩))
/-- a method that changes a live list -/
theorem wp_meth {g : List D → List D → Option (List D × D)} {fs : List Ex} (h : Wp (a ρ S) (fun d S1 => ∃ n, d = .ref n ∧ (lstOf S1 d).isSome = true ∧ Wp (evL fs ρ S1) (fun ds S2 => ∃ xs ys z, S2[n]? = some (some (.lst xs)) ∧ g xs ds = some (ys, z) ∧ Q z (S2.set n (some (.lst ys)))) E) E) : Wp (eMeth g a fs ρ S) Q E :=
  wp_bind (h.mono fun d S1 ⟨n, e, h1, h⟩ => by
    subst e
    rw [if_pos h1]
    refine wp_bind (h.mono fun ds S2 ⟨xs, ys, z, h2, h3, q⟩ => ?_)
    unfold doMut
    rw [lst_at h2]
    dsimp only
    rw [h3]
    first | exact q | exact ⟨q⟩ | exact (q).out | exact ⟨(q).out⟩)
theorem wp_meth0 {g : List D → List D → Option (List D × D)} (h : Wp (a ρ S) (fun d S1 => ∃ n xs ys z, d = .ref n ∧ S1[n]? = some (some (.lst xs)) ∧ g xs [] = some (ys, z) ∧ Q z (S1.set n (some (.lst ys)))) E) : Wp (eMeth0 g a ρ S) Q E :=
  wp_bind (h.mono fun d S1 ⟨n, xs, ys, z, e, h2, h3, q⟩ => by
    subst e
    unfold doMut
    rw [lst_at h2]
    dsimp only
    rw [h3]
    first | exact q | exact ⟨q⟩ | exact (q).out | exact ⟨(q).out⟩)
end
def fnQ (Q : D → Sto → Prop) : Fl → Sto → Prop
  | .nx _, S => Q .non S
  | .rt d, S => Q d S
  | _, _ => False
theorem wp_fnB {n : Nat} {b : Sx} {ds : List D} {ρ : Ev} {S : Sto} {Q : D → Sto → Prop} {E : Px} (he : ds.map some ++ List.replicate (n - ds.length) none = ρ) (h : Ws (b ρ S) (fnQ Q) (fun c p _ S => E c p S)) : Wp (fnB n b ds S) Q E := by
  unfold fnB
  rw [he]
  cases e : b ρ S with
  | bad => rw [e] at h; exact h.out.elim
  | exc c p ρ' S' => rw [e] at h; first | exact h | exact ⟨h⟩ | exact (h).out | exact ⟨(h).out⟩
  | fl f S' =>
    rw [e] at h
    cases f with
    | nx ρ' => first | exact h | exact ⟨h⟩ | exact (h).out | exact ⟨(h).out⟩
    | rt d => first | exact h | exact ⟨h⟩ | exact (h).out | exact ⟨(h).out⟩
    | bk ρ' => exact h.out.elim
    | ct ρ' => exact h.out.elim
/-- a def told plain data: its answer is plain, the store stays -/
theorem wp_fnP {F : Fn} {ds : List D} {S : Sto} {Q : D → Sto → Prop} {E : Px} (h0 : noRefs ds = true) (h : Wp (F ds []) (fun d _ => noRef d = true ∧ Q d S) (fun c p _ => noRef p = true ∧ E c p S)) : Wp (fnP F ds S) Q E := by
  unfold fnP
  rw [if_pos h0]
  cases e : F ds [] with
  | bad => rw [e] at h; exact h.out.elim
  | exc c p S' =>
    rw [e] at h
    dsimp only
    rw [if_pos h.out.1]
    exact ⟨h.out.2⟩
  | ok d S' =>
    rw [e] at h
    dsimp only
    rw [if_pos h.out.1]
    exact ⟨h.out.2⟩
theorem wp_fnV {F : Fn} {ds ds' : List D} {S : Sto} {Q : D → Sto → Prop} {E : Px} (h1 : ds.map (frz S) = ds') (h0 : noRefs ds' = true) (h : Wp (F ds' []) (fun d _ => flat d = true ∧ Q d S) noX) : Wp (fnV F ds S) Q E := by
  unfold fnV
  rw [h1, if_pos h0]
  obtain ⟨d, S', e, h2, h3⟩ := h.ok
  rw [e]
  dsimp only
  rw [if_pos h2]
  first | exact h3 | exact ⟨h3⟩ | exact (h3).out | exact ⟨(h3).out⟩
def thenQ (b : Sx) (Q : Fl → Sto → Prop) (E : Str → D → Ev → Sto → Prop) : Fl → Sto → Prop
  | .nx ρ, S => Ws (b ρ S) Q E
  | f, S => Q f S
section
variable {Q : Fl → Sto → Prop} {E : Str → D → Ev → Sto → Prop} {ρ : Ev} {S : Sto} {a b : Sx} {e : Ex}
theorem ws_seq (h : Ws (a ρ S) (thenQ b Q E) E) : Ws (sSeq a b ρ S) Q E := by
  unfold sSeq
  cases e : a ρ S with
  | bad => rw [e] at h; exact h.out.elim
  | exc c p ρ' S' => rw [e] at h; first | exact h | exact ⟨h⟩ | exact (h).out | exact ⟨(h).out⟩
  | fl f S' =>
    rw [e] at h
    cases f <;> first | exact h | exact ⟨h⟩ | exact (h).out | exact ⟨(h).out⟩
theorem ws_then (h : Ws (b ρ S) Q E) : thenQ b Q E (.nx ρ) S := h
theorem ws_thenR {d : D} (h : Q (.rt d) S) : thenQ b Q E (.rt d) S := h
theorem ws_thenB (h : Q (.bk ρ) S) : thenQ b Q E (.bk ρ) S := h
theorem ws_thenC (h : Q (.ct ρ) S) : thenQ b Q E (.ct ρ) S := h
theorem ws_skip (q : Q (.nx ρ) S) : Ws (sSkip ρ S) Q E := ⟨q⟩
theorem ws_ret (h : Wp (e ρ S) (fun d S1 => Q (.rt d) S1) (fun c p S => E c p ρ S)) : Ws (sRet e ρ S) Q E := ws_bind (h.mono fun _ _ h => ⟨h⟩)
theorem ws_retN (q : Q (.rt .non) S) : Ws (sRetN ρ S) Q E := ⟨q⟩
theorem ws_expr (h : Wp (e ρ S) (fun d S1 => Q (.nx ρ) S1) (fun c p S => E c p ρ S)) : Ws (sExpr e ρ S) Q E := ws_bind (h.mono fun _ _ h => ⟨h⟩)
theorem ws_asg {i : Nat} (h : Wp (e ρ S) (fun d S1 => Q (.nx (ρ.set i (some d))) S1) (fun c p S => E c p ρ S)) : Ws (sAsg i e ρ S) Q E := ws_bind (h.mono fun _ _ h => ⟨h⟩)
theorem ws_brk (q : Q (.bk ρ) S) : Ws (sBrk ρ S) Q E := ⟨q⟩
theorem ws_cont (q : Q (.ct ρ) S) : Ws (sCont ρ S) Q E := ⟨q⟩
theorem ws_if {t : Tx} (h : Wp (t ρ S) (fun k S1 => (k = true → Ws (a ρ S1) Q E) ∧ (k = false → Ws (b ρ S1) Q E)) (fun c p S => E c p ρ S)) : Ws (sIf t a b ρ S) Q E := ws_bind (h.mono fun k S1 h => by
  cases k with
  | true => rw [if_pos rfl]; exact h.1 rfl
  | false => rw [if_neg (by decide)]; exact h.2 rfl)
theorem ws_asgT {t : Tg} (h : Wp (e ρ S) (fun d S1 => ∃ ρ', t.put d ρ = some ρ' ∧ Q (.nx ρ') S1) (fun c p S => E c p ρ S)) : Ws (sAsgT t e ρ S) Q E := ws_bind (h.mono fun d S1 ⟨ρ', h1, h⟩ => by
  rw [h1]
  first | exact h | exact ⟨h⟩ | exact (h).out | exact ⟨(h).out⟩)
theorem ws_aug {i : Nat} {g : D → D → Option D} {d : D} (h0 : ρ[i]? = some (some d)) (h : Wp (e ρ S) (fun y S1 => Wo (g (view S1 d) (view S1 y)) fun z => Q (.nx (ρ.set i (some z))) S1) (fun c p S => E c p ρ S)) : Ws (sAug i g e ρ S) Q E := by
  unfold sAug
  rw [h0]
  refine ws_bind (h.mono fun y S1 h => ?_)
  cases e : g (view S1 d) (view S1 y) with
  | none => rw [e] at h; exact h.out.elim
  | some z => rw [e] at h; first | exact h | exact ⟨h⟩ | exact (h).out | exact ⟨(h).out⟩
theorem ws_setIx {o i : Ex} (h : Wp (e ρ S) (fun z S1 => Wp (o ρ S1) (fun d S2 => Wp (i ρ S2) (fun k S3 => ∃ n xs j p, d = .ref n ∧ k = .int j ∧ S3[n]? = some (some (.lst xs)) ∧ ixN xs.length j = some p ∧ Q (.nx ρ) (S3.set n (some (.lst (xs.set p z))))) (fun c p S => E c p ρ S)) (fun c p S => E c p ρ S)) (fun c p S => E c p ρ S)) : Ws (sSetIx o i e ρ S) Q E :=
  ws_bind (h.mono fun z S1 h => ws_bind (h.mono fun d S2 h => ws_bind (h.mono fun k S3 ⟨n, xs, j, p, e1, e2, h1, h2, q⟩ => by
    subst e1 e2
    rw [lst_at h1]
    dsimp only
    rw [h2]
    exact ⟨q⟩)))
theorem ws_frz {i n : Nat} {s : Sx} {xs : List D} (h0 : ρ[i]? = some (some (.ref n))) (h1 : S[n]? = some (some (.lst xs))) (h : Ws (s (ρ.set i (some (.lst xs))) (S.set n none)) Q E) : Ws (sFrz i s ρ S) Q E := by
  unfold sFrz
  simp only [h0, h1]
  exact h
def putAll : List Nat → List (Option D) → Ev → Ev
  | i :: is, v :: vs, ρ => putAll is vs (ρ.set i v)
  | _, _, ρ => ρ
/-- the loop's body's ends: on to the next turn, out by a break (X), out by a return -/
def loopQ (A : List Nat) (ρ : Ev) (N X : List (Option D) → Sto → Prop) (Q : Fl → Sto → Prop) : Fl → Sto → Prop
  | .nx ρ', S => ∃ vs, vs.length = A.length ∧ ρ' = putAll A vs ρ ∧ N vs S
  | .ct ρ', S => ∃ vs, vs.length = A.length ∧ ρ' = putAll A vs ρ ∧ N vs S
  | .bk ρ', S => ∃ vs, vs.length = A.length ∧ ρ' = putAll A vs ρ ∧ X vs S
  | .rt d, S => Q (.rt d) S
theorem ws_loop {t : Tg} (A : List Nat) (I : Nat → List (Option D) → Sto → Prop) : ∀ (xs : List D) (k : Nat) (vs : List (Option D)) (S : Sto), vs.length = A.length → I k vs S →
    (∀ j d vs S, xs[j]? = some d → vs.length = A.length → I (k + j) vs S → ∃ ρ1, t.put d (putAll A vs ρ) = some ρ1 ∧ Ws (b ρ1 S) (loopQ A ρ (I (k + j + 1)) (fun vs S => Q (.nx (putAll A vs ρ)) S) Q) E) →
    (∀ vs S, vs.length = A.length → I (k + xs.length) vs S → Q (.nx (putAll A vs ρ)) S) → Ws (loopS t b xs (putAll A vs ρ) S) Q E
  | [], k, vs, S, hv, h, _, hq => ⟨hq vs S hv h⟩
  | d :: ds, k, vs, S, hv, h, st, hq => by
    obtain ⟨ρ1, e1, h1⟩ := st 0 d vs S rfl hv h
    unfold loopS
    simp only [e1]
    have next : ∀ vs S, vs.length = A.length → I (k + 1) vs S → Ws (loopS t b ds (putAll A vs ρ) S) Q E := fun vs S hv h =>
      ws_loop A I ds (k + 1) vs S hv h (fun j d vs S hj hv hI => by
        have := st (j + 1) d vs S (by simpa using hj) hv (by rw [show k + (j + 1) = k + 1 + j by omega]; exact hI)
        rw [show k + (j + 1) + 1 = k + 1 + j + 1 by omega] at this
        exact this) (fun vs S hv hI => hq vs S hv (by rw [List.length_cons, show k + (ds.length + 1) = k + 1 + ds.length by omega]; exact hI))
    cases e : b ρ1 S with
    | bad => rw [e] at h1; exact h1.out.elim
    | exc c p ρ' S' => rw [e] at h1; first | exact h1 | exact ⟨h1⟩ | exact (h1).out | exact ⟨(h1).out⟩
    | fl f S' =>
      rw [e] at h1
      cases f with
      | nx ρ' => obtain ⟨vs', hv', rfl, h2⟩ := h1; exact next vs' S' hv' h2
      | ct ρ' => obtain ⟨vs', hv', rfl, h2⟩ := h1; exact next vs' S' hv' h2
      | bk ρ' => obtain ⟨vs', hv', rfl, h2⟩ := h1; first | exact h2 | exact ⟨h2⟩ | exact (h2).out | exact ⟨(h2).out⟩
      | rt d => first | exact h1 | exact ⟨h1⟩ | exact (h1).out | exact ⟨(h1).out⟩
/-- a for: I turn values store -/
theorem ws_for {it : Ix} {t : Tg} (A : List Nat) (h : Wp (it ρ S) (fun xs S1 => ∃ (I : Nat → List (Option D) → Sto → Prop) (vs : List (Option D)), vs.length = A.length ∧ putAll A vs ρ = ρ ∧ I 0 vs S1 ∧
    (∀ j d vs S, xs[j]? = some d → vs.length = A.length → I j vs S → ∃ ρ1, t.put d (putAll A vs ρ) = some ρ1 ∧ Ws (b ρ1 S) (loopQ A ρ (I (j + 1)) (fun vs S => Q (.nx (putAll A vs ρ)) S) Q) E) ∧
    (∀ vs S, vs.length = A.length → I xs.length vs S → Q (.nx (putAll A vs ρ)) S)) (fun c p S => E c p ρ S)) : Ws (sFor it t b ρ S) Q E := by
  refine ws_bind (h.mono fun xs S1 ⟨I, vs, hv, hp, hi, st, hq⟩ => ?_)
  have := ws_loop (ρ := ρ) (b := b) (t := t) (Q := Q) (E := E) A I xs 0 vs S1 hv hi (fun j d vs S hj hv hI => by
    rw [Nat.zero_add] at hI ⊢
    exact st j d vs S hj hv hI) (fun vs S hv hI => hq vs S hv (by rw [Nat.zero_add] at hI; exact hI))
  rw [hp] at this
  exact this
/-- a while: m the measure -/
theorem ws_whileN {t : Tx} (A : List Nat) (I : Nat → List (Option D) → Sto → Prop) : ∀ (n k : Nat) (vs : List (Option D)) (S : Sto), k < n → vs.length = A.length → I k vs S →
    (∀ k vs S, vs.length = A.length → I k vs S → Wp (t (putAll A vs ρ) S) (fun c S1 => (c = true → Ws (b (putAll A vs ρ) S1) (loopQ A ρ (fun vs S => ∃ k', k' < k ∧ I k' vs S) (fun vs S => Q (.nx (putAll A vs ρ)) S) Q) E) ∧ (c = false → Q (.nx (putAll A vs ρ)) S1)) (fun c p S => E c p (putAll A vs ρ) S)) → Ws (whileS n t b (putAll A vs ρ) S) Q E
  | 0, k, vs, S, hk, _, _, _ => by omega
  | n + 1, k, vs, S, hk, hv, h, st => by
    unfold whileS
    refine ws_bind ((st k vs S hv h).mono fun c S1 h1 => ?_)
    cases c with
    | false => rw [if_neg (by decide)]; first | exact h1.2 rfl | exact ⟨h1.2 rfl⟩ | exact (h1.2 rfl).out | exact ⟨(h1.2 rfl).out⟩
    | true =>
      rw [if_pos rfl]
      have h2 := h1.1 rfl
      cases e : b (putAll A vs ρ) S1 with
      | bad => rw [e] at h2; exact h2.out.elim
      | exc c p ρ' S' => rw [e] at h2; first | exact h2 | exact ⟨h2⟩ | exact (h2).out | exact ⟨(h2).out⟩
      | fl f S' =>
        rw [e] at h2
        cases f with
        | nx ρ' => obtain ⟨vs', hv', rfl, k', hk', h3⟩ := h2; exact ws_whileN A I n k' vs' S' (by omega) hv' h3 st
        | ct ρ' => obtain ⟨vs', hv', rfl, k', hk', h3⟩ := h2; exact ws_whileN A I n k' vs' S' (by omega) hv' h3 st
        | bk ρ' => obtain ⟨vs', hv', rfl, h3⟩ := h2; first | exact h3 | exact ⟨h3⟩ | exact (h3).out | exact ⟨(h3).out⟩
        | rt d => first | exact h2 | exact ⟨h2⟩ | exact (h2).out | exact ⟨(h2).out⟩
theorem ws_while {n : Nat} {t : Tx} (A : List Nat) (I : Nat → List (Option D) → Sto → Prop) (k : Nat) (vs : List (Option D)) (hk : k < n) (hv : vs.length = A.length) (hp : putAll A vs ρ = ρ) (hi : I k vs S)
    (st : ∀ k vs S, vs.length = A.length → I k vs S → Wp (t (putAll A vs ρ) S) (fun c S1 => (c = true → Ws (b (putAll A vs ρ) S1) (loopQ A ρ (fun vs S => ∃ k', k' < k ∧ I k' vs S) (fun vs S => Q (.nx (putAll A vs ρ)) S) Q) E) ∧ (c = false → Q (.nx (putAll A vs ρ)) S1)) (fun c p S => E c p (putAll A vs ρ) S)) : Ws (whileS n t b ρ S) Q E := by
  have := ws_whileN (ρ := ρ) (b := b) (Q := Q) (E := E) A I n k vs S hk hv hi st
  rw [hp] at this
  exact this
end
def unQ (t : Tg) (b : Sx) (ds : List D) (Q : Fl → Sto → Prop) (E : Xs) : Fl → Sto → Prop
  | .nx ρ, S => Ws (loopS t b ds ρ S) Q E
  | .ct ρ, S => Ws (loopS t b ds ρ S) Q E
  | .bk ρ, S => Q (.nx ρ) S
  | .rt d, S => Q (.rt d) S
section
variable {t : Tg} {b : Sx} {ds : List D} {d : D} {Q : Fl → Sto → Prop} {E : Xs} {ρ ρ1 : Ev} {S : Sto} {it : Ix}
theorem ws_loopN (q : Q (.nx ρ) S) : Ws (loopS t b [] ρ S) Q E := ⟨q⟩
theorem ws_loopC (h : t.put d ρ = some ρ1) (h1 : Ws (b ρ1 S) (unQ t b ds Q E) E) : Ws (loopS t b (d :: ds) ρ S) Q E := by
  unfold loopS
  simp only [h]
  cases e : b ρ1 S with
  | bad => rw [e] at h1; exact h1.out.elim
  | exc c p ρ' S' => rw [e] at h1; first | exact h1 | exact ⟨h1⟩ | exact (h1).out | exact ⟨(h1).out⟩
  | fl f S' =>
    rw [e] at h1
    cases f <;> first | exact h1 | exact ⟨h1⟩ | exact (h1).out | exact ⟨(h1).out⟩
theorem un_nx (h : Ws (loopS t b ds ρ S) Q E) : unQ t b ds Q E (.nx ρ) S := h
theorem un_ct (h : Ws (loopS t b ds ρ S) Q E) : unQ t b ds Q E (.ct ρ) S := h
theorem un_bk (h : Q (.nx ρ) S) : unQ t b ds Q E (.bk ρ) S := h
theorem un_rt (h : Q (.rt d) S) : unQ t b ds Q E (.rt d) S := h
end
def dkl : D → Option (List D)
  | .lst xs => some xs
  | .dic false kvs => some (kvs.map (·.1))
  | _ => none
section
variable {Q : List D → Sto → Prop} {E : Px} {ρ : Ev} {S : Sto} {a b : Ex}
theorem wi_seq (h : Wp (a ρ S) (fun d S1 => ∃ xs, (d = .tup xs ∨ dkl d = some xs) ∧ Q xs S1) E) : Wp (iSeq a ρ S) Q E := wp_bind (h.mono fun d S1 ⟨xs, e, q⟩ => by
  rcases e with rfl | e
  · exact ⟨q⟩
  · cases d with
    | lst ys => cases e; exact ⟨q⟩
    | dic t kvs => cases t with
      | false => cases e; exact ⟨q⟩
      | true => cases e
    | _ => cases e)
theorem wi_rng1 (h : Wp (a ρ S) (fun d S1 => ∃ j, d = .int j ∧ (-1000000000000 ≤ j ∧ j ≤ 1000000000000) ∧ Q (iRng 0 j) S1) E) : Wp (iRng1X a ρ S) Q E := wp_bind (h.mono fun d S1 ⟨j, e, h1, q⟩ => by
  subst e
  dsimp only
  rw [if_pos ⟨by omega, by omega⟩]
  first | exact q | exact ⟨q⟩ | exact (q).out | exact ⟨(q).out⟩)
theorem wi_rng2 (h : Wp (a ρ S) (fun d S1 => Wp (b ρ S1) (fun d2 S2 => ∃ i j, d = .int i ∧ d2 = .int j ∧ (-1000000000000 ≤ i ∧ i ≤ 1000000000000) ∧ (-1000000000000 ≤ j ∧ j ≤ 1000000000000) ∧ Q (iRng i j) S2) E) E) : Wp (iRng2X a b ρ S) Q E :=
  wp_bind (h.mono fun d S1 h => wp_bind (h.mono fun d2 S2 ⟨i, j, e1, e2, h1, h2, q⟩ => by
    subst e1 e2
    dsimp only
    rw [if_pos ⟨by omega, by omega, by omega, by omega⟩]
    first | exact q | exact ⟨q⟩ | exact (q).out | exact ⟨(q).out⟩))
theorem wi_zip2 (h : Wp (a ρ S) (fun x S1 => Wp (b ρ S1) (fun y S2 => ∃ xs ys, ((x = .lst xs ∧ y = .lst ys) ∨ (x = .tup xs ∧ y = .tup ys)) ∧ Q (zipDs xs ys) S2) E) E) : Wp (iZip2 a b ρ S) Q E :=
  wp_bind (h.mono fun d S1 h => wp_bind (h.mono fun d2 S2 ⟨xs, ys, e, q⟩ => by rcases e with ⟨rfl, rfl⟩ | ⟨rfl, rfl⟩ <;> first | exact q | exact ⟨q⟩ | exact (q).out | exact ⟨(q).out⟩))
theorem wi_zipS (h : Wp (a ρ S) (fun x S1 => Wp (b ρ S1) (fun y S2 => ∃ xs ys, (x = .lst xs ∨ x = .tup xs) ∧ (y = .lst ys ∨ y = .tup ys) ∧ xs.length = ys.length ∧ Q (zipDs xs ys) S2) E) E) : Wp (iZipS a b ρ S) Q E :=
  wp_bind (h.mono fun d S1 h => wp_bind (h.mono fun d2 S2 ⟨xs, ys, e1, e2, hl, q⟩ => by
    rcases e1 with rfl | rfl <;> rcases e2 with rfl | rfl <;> simp only [asSq] <;> rw [if_pos hl] <;> first | exact q | exact ⟨q⟩ | exact (q).out | exact ⟨(q).out⟩))
end
section
variable {Q : D → Sto → Prop} {E : Px} {ρ : Ev} {S : Sto} {t : Tg} {tt : Tx} {e : Ex} {vs : List Nat} {it : Ix}
theorem wp_nox {α : Type} {r : R α} {Q : α → Sto → Prop} (h : Wp r Q noX) : Wp r.nox Q E := by
  obtain ⟨a, S, e, h⟩ := h.ok
  rw [e]
  first | exact h | exact ⟨h⟩ | exact (h).out | exact ⟨(h).out⟩
/-- what a comprehension gathers: I turn gathered store -/
theorem wp_compL (I : Nat → List D → Sto → Prop) : ∀ (xs : List D) (k : Nat) (acc : List D) (S : Sto) (Q : List D → Sto → Prop), I k acc S →
    (∀ j d acc S, xs[j]? = some d → I (k + j) acc S → ∃ ρ1, t.put d (wipeD ρ vs) = some ρ1 ∧ Wp (tt ρ1 S) (fun b S1 => (b = true → Wp (e ρ1 S1) (fun y S2 => acc.length < 16777216 ∧ I (k + j + 1) (acc ++ [y]) S2) noX) ∧ (b = false → I (k + j + 1) acc S1)) noX) →
    (∀ acc S, I (k + xs.length) acc S → Q acc S) → Wp (compL t tt e vs xs ρ S acc) Q E
  | [], k, acc, S, Q, h, _, hq => ⟨hq acc S h⟩
  | d :: ds, k, acc, S, Q, h, st, hq => by
    obtain ⟨ρ1, e1, h1⟩ := st 0 d acc S rfl h
    unfold compL
    rw [e1]
    dsimp only
    have next : ∀ acc S, I (k + 1) acc S → Wp (compL t tt e vs ds ρ S acc) Q E := fun acc S h =>
      wp_compL I ds (k + 1) acc S Q h (fun j d acc S hj hI => by
        have := st (j + 1) d acc S (by simpa using hj) (by rw [show k + (j + 1) = k + 1 + j by omega]; exact hI)
        rw [show k + (j + 1) + 1 = k + 1 + j + 1 by omega] at this
        exact this) (fun acc S hI => hq acc S (by rw [List.length_cons, show k + (ds.length + 1) = k + 1 + ds.length by omega]; exact hI))
    refine wp_bind (wp_nox (h1.mono fun b S1 h2 => ?_))
    cases b with
    | false => rw [if_neg (by decide)]; exact next _ _ (h2.2 rfl)
    | true =>
      rw [if_pos rfl]
      refine wp_bind (wp_nox ((h2.1 rfl).mono fun y S2 h3 => ?_))
      rw [if_pos (by rw [sizeLine_eq]; exact h3.1)]
      exact next _ _ h3.2
theorem wp_comp (h : Wp (it ρ S) (fun xs S1 => ∃ I : Nat → List D → Sto → Prop, I 0 [] S1 ∧
    (∀ j d acc S, xs[j]? = some d → I j acc S → ∃ ρ1, t.put d (wipeD ρ vs) = some ρ1 ∧ Wp (tt ρ1 S) (fun b S1 => (b = true → Wp (e ρ1 S1) (fun y S2 => acc.length < 16777216 ∧ I (j + 1) (acc ++ [y]) S2) noX) ∧ (b = false → I (j + 1) acc S1)) noX) ∧
    (∀ acc S, I xs.length acc S → Q (.lst acc) S)) E) : Wp (eComp it t tt e vs ρ S) Q E :=
  wp_bind (h.mono fun xs S1 ⟨I, h0, st, hq⟩ => wp_bind (wp_compL I xs 0 [] S1 _ h0 (fun j d acc S hj hI => by
    rw [Nat.zero_add] at hI ⊢
    exact st j d acc S hj hI) fun acc S hI => ⟨hq acc S (by rw [Nat.zero_add] at hI; exact hI)⟩))
/-- of plain things, each told its own, the store stays -/
theorem wp_comp_map {α : Type} (l : List α) (f : α → D) (p : α → Bool) (g : α → D) (hl : l.length ≤ 16777216) (h : Wp (it ρ S) (fun xs S1 => xs = l.map f ∧
    (∀ x ∈ l, ∃ ρ1, t.put (f x) (wipeD ρ vs) = some ρ1 ∧ Wp (tt ρ1 S1) (fun b S2 => b = p x ∧ S2 = S1) noX ∧ (p x = true → Wp (e ρ1 S1) (fun y S2 => y = g x ∧ S2 = S1) noX)) ∧ Q (.lst ((l.filter p).map g)) S1) E) : Wp (eComp it t tt e vs ρ S) Q E := by
  refine wp_comp (h.mono fun xs S1 ⟨h1, st, q⟩ => ?_)
  subst h1
  refine ⟨fun j acc S => S = S1 ∧ acc = ((l.take j).filter p).map g, ⟨rfl, by simp⟩, ?_, ?_⟩
  · rintro j d acc S hj ⟨rfl, rfl⟩
    rw [List.getElem?_map] at hj
    obtain ⟨x, hx, rfl⟩ := Option.map_eq_some_iff.mp hj
    obtain ⟨ρ1, e1, h2, h3⟩ := st x (List.mem_of_getElem? hx)
    have hj' := (List.getElem?_eq_some_iff.mp hx).1
    have ht : l.take (j + 1) = l.take j ++ [x] := by rw [List.take_succ, hx]; rfl
    refine ⟨ρ1, e1, h2.mono fun b S2 ⟨hb, hS⟩ => ?_⟩
    subst hS
    constructor
    · intro hbt
      rw [hb] at hbt
      refine (h3 hbt).mono fun y S3 ⟨hy, hS⟩ => ?_
      subst hS hy
      refine ⟨?_, rfl, ?_⟩
      · rw [List.length_map]
        have h4 := List.length_filter_le p (l.take j)
        rw [List.length_take] at h4
        omega
      · rw [ht, List.filter_append, List.map_append]
        simp [hbt]
    · intro hbf
      rw [hb] at hbf
      refine ⟨rfl, ?_⟩
      rw [ht, List.filter_append]
      simp [hbf]
  · rintro acc S ⟨rfl, rfl⟩
    rw [List.length_map, List.take_length]
    exact q
end
theorem ite_d {p : Prop} [Decidable p] {A B : Prop} (h1 : p → A) (h2 : ¬ p → B) : (decide p = true → A) ∧ (decide p = false → B) := ⟨fun h => h1 (of_decide_eq_true h), fun h => h2 (of_decide_eq_false h)⟩
theorem wo_id {o : Option D} {Q : D → Prop} (h : Wo o Q) : Wo o Q := h
theorem ex_id {α : Type} {p : α → Prop} (h : ∃ x, p x) : ∃ x, p x := h
theorem and_id {a b : Prop} (h : a ∧ b) : a ∧ b := h
theorem ite_f {A B : Prop} (h : B) : (false = true → A) ∧ (false = false → B) := ⟨fun h => (by cases h), fun _ => h⟩
theorem ite_t {A B : Prop} (h : A) : (true = true → A) ∧ (true = false → B) := ⟨fun _ => h, fun h => (by cases h)⟩
theorem ite_nt {A B : Prop} (h : B) : ((!true) = true → A) ∧ ((!true) = false → B) := ite_f h
theorem ite_nf {A B : Prop} (h : A) : ((!false) = true → A) ∧ ((!false) = false → B) := ite_t h
section
variable {Q : D → Prop} {S : Sto} {i j : Int} {xs ys : List D}
theorem wo_add (q : Q (.int (i + j))) : Wo (addD (.int i) (.int j)) Q := ⟨q⟩
theorem wo_addL (h : xs.length + ys.length ≤ 16777216) (q : Q (.lst (xs ++ ys))) : Wo (addD (.lst xs) (.lst ys)) Q := .of (if_pos (by rw [sizeLine_eq]; exact h)) q
theorem wo_sub (q : Q (.int (i - j))) : Wo (subD (.int i) (.int j)) Q := ⟨q⟩
theorem wo_neg (q : Q (.int (-i))) : Wo (negD (.int i)) Q := ⟨q⟩
theorem wo_mulL (h : -18446744073709551616 < i ∧ i < 18446744073709551616) (q : Q (.int (i * j))) : Wo (mulD (.int i) (.int j)) Q := .of (mulD_l h.1 h.2) q
theorem wo_mulR (h : -18446744073709551616 < j ∧ j < 18446744073709551616) (q : Q (.int (i * j))) : Wo (mulD (.int i) (.int j)) Q := .of (mulD_r h.1 h.2) q
theorem wo_mod (h : 0 < j) (q : Q (.int (i % j))) : Wo (modD (.int i) (.int j)) Q := .of (if_pos h) q
theorem wo_div (h : 0 < j ∧ j < 1073741824) (q : Q (.int (i / j))) : Wo (divD (.int i) (.int j)) Q := .of (if_pos h) q
theorem wo_lt (q : Q (.bl (decide (i < j)))) : Wo (ltD (.int i) (.int j)) Q := ⟨q⟩
theorem wo_le (q : Q (.bl (decide (i ≤ j)))) : Wo (leD (.int i) (.int j)) Q := ⟨q⟩
theorem wo_gt (q : Q (.bl (decide (j < i)))) : Wo (gtD (.int i) (.int j)) Q := ⟨q⟩
theorem wo_ge (q : Q (.bl (decide (j ≤ i)))) : Wo (geD (.int i) (.int j)) Q := ⟨q⟩
theorem wo_eq (q : Q (.bl (decide (i = j)))) : Wo (eqD (.int i) (.int j)) Q := .of (eqD_int i j) q
theorem wo_ne (q : Q (.bl (!decide (i = j)))) : Wo (neD (.int i) (.int j)) Q := .of (neD_int i j) q
theorem wo_eqB {a b : Bool} (q : Q (.bl (a == b))) : Wo (eqD (.bl a) (.bl b)) Q := .of (eqD_bl a b) q
theorem wo_neB {a b : Bool} (q : Q (.bl (!(a == b)))) : Wo (neD (.bl a) (.bl b)) Q := .of (neD_bl a b) q
theorem wo_ixL {d : D} (h : L2.atI xs i = some d) (q : Q d) : Wo (ixD (.lst xs) (.int i)) Q := .of h q
theorem wo_slT {a b : Option Int} (q : Q (.tup (cutD xs a b))) : Wo (slD (.tup xs) a b) Q := ⟨q⟩
theorem wo_slL {a b : Option Int} (q : Q (.lst (cutD xs a b))) : Wo (slD (.lst xs) a b) Q := ⟨q⟩
theorem wo_lenT (q : Q (.int xs.length)) : Wo (lenD [.tup xs]) Q := ⟨q⟩
theorem wo_lenL (q : Q (.int xs.length)) : Wo (lenD [.lst xs]) Q := ⟨q⟩
theorem wo_revT (q : Q (.tup xs.reverse)) : Wo (revD (.tup xs)) Q := ⟨q⟩
theorem wo_revL (q : Q (.lst xs.reverse)) : Wo (revD (.lst xs)) Q := ⟨q⟩
theorem wo_min (q : Q (.int (if j < i then j else i))) : Wo (min2D [.int i, .int j]) Q := ⟨q⟩
theorem wo_max (q : Q (.int (if j > i then j else i))) : Wo (max2D [.int i, .int j]) Q := ⟨q⟩
theorem wo_pick {zs : List Int} (hx : xs = zs.map D.int) (h : 0 ≤ i ∧ i < zs.length) (q : ∀ z ∈ zs, Q (.int z)) : Wo (ixD (.lst xs) (.int i)) Q := by
  subst hx
  refine .of (d := .int (zs[i.toNat]'(by omega))) ?_ (q _ (List.getElem_mem _))
  show L2.atI (zs.map D.int) i = _
  rw [atI_in h.1 (by rw [List.length_map]; omega), List.getElem_map]
theorem wo_tupL (q : Q (.tup xs)) : Wo (tupleD [.lst xs]) Q := ⟨q⟩
theorem wo_tupT (q : Q (.tup xs)) : Wo (tupleD [.tup xs]) Q := ⟨q⟩
theorem wo_lisL (q : Q (.lst xs)) : Wo (listD [.lst xs]) Q := ⟨q⟩
theorem wo_lisT (q : Q (.lst xs)) : Wo (listD [.tup xs]) Q := ⟨q⟩
end
end DL
set_option Elab.async false
set_option linter.all false
set_option maxRecDepth 100000
set_option maxHeartbeats 4000000
namespace DL
open PySem PySem.Spec PyProof.Rows
/-- the others stand as before -/
def Only (n : Nat) (S S' : Sto) : Prop := S'.length = S.length ∧ ∀ m, m ≠ n → S'[m]? = S[m]?
theorem Only.refl {n : Nat} {S : Sto} : Only n S S := ⟨rfl, fun _ _ => rfl⟩
theorem Only.trans {n : Nat} {S S1 S2 : Sto} (h : Only n S S1) (h2 : Only n S1 S2) : Only n S S2 := ⟨h2.1.trans h.1, fun m hm => (h2.2 m hm).trans (h.2 m hm)⟩
theorem Only.set {n : Nat} {S : Sto} {o : Option Ob} : Only n S (S.set n o) := ⟨by simp, fun m hm => List.getElem?_set_ne (fun e => hm e.symm)⟩
theorem set_at {S : Sto} {n : Nat} {o o' : Option Ob} (h : S[n]? = some o) : (S.set n o')[n]? = some o' := by
  have := (List.getElem?_eq_some_iff.mp h).1
  simp [this]
/-- a store that is changed at one place: what is needed of it -/
theorem set_gen {P : Sto → Prop} {S : Sto} {n : Nat} {o : Ob} {o' : Option Ob} (h : S[n]? = some (some o)) (k : ∀ S', S'[n]? = some o' → Only n S S' → P S') : P (S.set n o') := k _ (set_at h) .set
/-- all that stood stands -/
def Ext (S S' : Sto) : Prop := S.length ≤ S'.length ∧ ∀ m, m < S.length → S'[m]? = S[m]?
theorem Ext.refl {S : Sto} : Ext S S := ⟨Nat.le_refl _, fun _ _ => rfl⟩
theorem Ext.trans {S S1 S2 : Sto} (h : Ext S S1) (h2 : Ext S1 S2) : Ext S S2 := ⟨Nat.le_trans h.1 h2.1, fun m hm => (h2.2 m (Nat.lt_of_lt_of_le hm h.1)).trans (h.2 m hm)⟩
theorem Ext.app {S : Sto} {l : List (Option Ob)} : Ext S (S ++ l) := ⟨by simp, fun m hm => List.getElem?_append_left hm⟩
theorem Ext.at_ {S S' : Sto} {n : Nat} {o : Option Ob} (h : Ext S S') (e : S[n]? = some o) : S'[n]? = some o := (h.2 n (List.getElem?_eq_some_iff.mp e).1).trans e
theorem app_at {S : Sto} {o : Option Ob} : (S ++ [o])[S.length]? = some o := by simp
/-- a change of what is new, seen from before it was -/
theorem Ext.set {S S' : Sto} {n : Nat} {o : Option Ob} (h : Ext S S') (hn : S.length ≤ n) : Ext S (S'.set n o) := ⟨by simpa using h.1, fun m hm => by rw [List.getElem?_set_ne (by omega)]; exact h.2 m hm⟩
theorem Ext.only {S S1 S2 : Sto} {n : Nat} (h : Ext S S1) (ho : Only n S1 S2) (hn : S.length ≤ n) : Ext S S2 := ⟨by rw [ho.1]; exact h.1, fun m hm => (ho.2 m (by omega)).trans (h.2 m hm)⟩
def JarS (S : Sto) (n : Nat) (k : Int) : Prop := ∃ cells t r, Jar S n cells t r ∧ 0 ≤ t ∧ t ≤ k
theorem JarS.mono {S : Sto} {n : Nat} {k k' : Int} (h : JarS S n k) (hk : k ≤ k') : JarS S n k' := by
  obtain ⟨c, t, r, h1, h2, h3⟩ := h
  exact ⟨c, t, r, h1, h2, by omega⟩
theorem JarS.lt {S : Sto} {n : Nat} {k : Int} (h : JarS S n k) : n < S.length := by
  obtain ⟨_, _, _, h, _, _⟩ := h
  exact (List.getElem?_eq_some_iff.mp h).1
theorem JarS.ext {S S' : Sto} {n : Nat} {k : Int} (h : JarS S n k) (e : Ext S S') : JarS S' n k := by
  obtain ⟨c, t, r, h1, h2, h3⟩ := h
  exact ⟨c, t, r, e.at_ h1, h2, h3⟩
theorem JarS.only {S S' : Sto} {n m : Nat} {k : Int} (h : JarS S n k) (e : Only m S S') (hm : n ≠ m) : JarS S' n k := by
  obtain ⟨c, t, r, h1, h2, h3⟩ := h
  exact ⟨c, t, r, (e.2 n hm).trans h1, h2, h3⟩
theorem eqv_ints : ∀ xs ys : List Int, PyData.eqvAll (xs.map PyData.int) (ys.map PyData.int) = decide (xs = ys)
  | [], [] => by simp [PyData.eqvAll]
  | [], y :: ys => by simp [PyData.eqvAll]
  | x :: xs, [] => by simp [PyData.eqvAll]
  | x :: xs, y :: ys => by
    rw [List.map_cons, List.map_cons, PyData.eqvAll, eqv_ints xs ys]
    by_cases h1 : x = y <;> by_cases h2 : xs = ys <;> simp [PyData.eqv, h1, h2]
theorem eqD_str (a b : Str) : eqD (.str a) (.str b) = some (.bl (decide (a = b))) := by simp [eqD, eqB, eqS]
theorem neD_str (a b : Str) : neD (.str a) (.str b) = some (.bl (!decide (a = b))) := by simp [neD, eqB, eqS]
mutual
def dpD : D → Nat
  | .tup xs => 1 + dpDs xs
  | .lst xs => 1 + dpDs xs
  | _ => 0
def dpDs : List D → Nat
  | [] => 0
  | d :: ds => max (dpD d) (dpDs ds)
end
theorem log2_small {n : Nat} (h : n < 10 ^ 50) : n.log2 < 1920 := by
  by_cases h0 : n = 0
  · subst h0; decide
  · exact (Nat.log2_lt h0).mpr (Nat.lt_of_lt_of_le h (by exact Nat.le_trans (show 10 ^ 50 ≤ 2 ^ 200 by decide) (Nat.pow_le_pow_right (by decide) (by decide))))
/-- signs -/
def Row (xs : List Int) : Prop := ∀ x ∈ xs, 0 ≤ x ∧ x < 31
/-- a join: M holds behind the first statement -/
theorem ws_mid {a b : Sx} {ρ : Ev} {S : Sto} {Q : Fl → Sto → Prop} {E : Xs} (M : Fl → Sto → Prop) (h1 : Ws (a ρ S) M E) (h2 : ∀ f S', M f S' → thenQ b Q E f S') : Ws (sSeq a b ρ S) Q E := ws_seq (h1.mono h2)
theorem ws_midT {a b : Sx} {ρ : Ev} {S : Sto} {Q : Fl → Sto → Prop} {E : Xs} (M : Fl → Sto → Prop) (h1 : Ws (a ρ S) M E) (h2 : ∀ f S', M f S' → thenQ b Q E f S') : Ws (a ρ S) (thenQ b Q E) E := h1.mono h2
section
variable {Q : D → Sto → Prop} {E : Px} {ρ : Ev} {S : Sto} {a b c : Ex}
theorem wp_repr (h : Wp (a ρ S) (fun d S1 => Wo (reprD (frzD S1 d)) fun z => Q z S1) E) : Wp (eRepr a ρ S) Q E := wp_bind (h.mono fun _ _ h => wp_ans h)
theorem wp_isi {t : PT} (h : Wp (a ρ S) (fun x S1 => Wo (Option.map D.bl (t.isOf (view S1 x))) fun z => Q z S1) E) : Wp (eIsi t a ρ S) Q E := wp_op1 h
theorem wp_isis {t : List PT} (h : Wp (a ρ S) (fun x S1 => Wo (Option.map D.bl (isOfs t (view S1 x))) fun z => Q z S1) E) : Wp (eIsis t a ρ S) Q E := wp_op1 h
theorem wp_maxD {i : Int} (h : Wp (a ρ S) (fun d S1 => Wo (maxDD [view S1 d, .int i]) fun z => Q z S1) E) : Wp (eMaxD i a ρ S) Q E := wp_bind (h.mono fun _ _ h => wp_ans h)
theorem wi_rng3 {Q : List D → Sto → Prop} (h : Wp (evL [a, b, c] ρ S) (fun ds S1 => ∃ i j k, ds = [.int i, .int j, .int k] ∧ (k ≠ 0 ∧ k.natAbs < 1073741824 ∧ Builtin.Range.small i j k = true) ∧ Q (iRng3 i j k) S1) E) : Wp (iRng3X a b c ρ S) Q E :=
  wp_bind (h.mono fun ds S1 ⟨i, j, k, e, h1, q⟩ => by
    subst e
    dsimp only
    rw [if_pos h1]
    exact ⟨q⟩)
end
section
variable {Q : D → Prop} {S : Sto} {n : Nat} {xs : List D} {y d : D}
theorem wo_vw1 {g : D → D → Option D} (h : S[n]? = some (some (.lst xs))) (q : Wo (g (view S (.lst xs)) y) Q) : Wo (g (view S (.ref n)) y) Q := by rw [view_at h]; exact q
theorem wo_vw2 {g : D → D → Option D} (h : S[n]? = some (some (.lst xs))) (q : Wo (g y (view S (.lst xs))) Q) : Wo (g y (view S (.ref n))) Q := by rw [view_at h]; exact q
theorem wo_eqS {a b : Str} (q : Q (.bl (decide (a = b)))) : Wo (eqD (.str a) (.str b)) Q := .of (eqD_str a b) q
theorem wo_neS {a b : Str} (q : Q (.bl (!decide (a = b)))) : Wo (neD (.str a) (.str b)) Q := .of (neD_str a b) q
end
def cutL {α : Type} (xs : List α) (lo hi : Option Int) : List α := (xs.drop (HT.sIx xs.length 0 lo)).take (HT.sIx xs.length xs.length hi - HT.sIx xs.length 0 lo)
theorem cut_map {α : Type} (f : α → D) (xs : List α) (lo hi : Option Int) : cutD (xs.map f) lo hi = (cutL xs lo hi).map f := by
  unfold cutD cutL
  rw [List.length_map, List.map_take, List.map_drop]
theorem cutL_mem {α : Type} {xs : List α} {lo hi : Option Int} {x : α} (h : x ∈ cutL xs lo hi) : x ∈ xs := List.mem_of_mem_drop (List.mem_of_mem_take h)
theorem Row.cut {xs : List Int} (h : Row xs) (lo hi : Option Int) : Row (cutL xs lo hi) := fun x hx => h x (cutL_mem hx)
theorem Row.app {xs ys : List Int} (h : Row xs) (h2 : Row ys) : Row (xs ++ ys) := fun x hx => (List.mem_append.mp hx).elim (h x) (h2 x)
section
variable {Q : D → Sto → Prop} {E : Px} {ρ : Ev} {S : Sto} {t : Tg} {e : Ex} {vs : List Nat} {it : Ix}
theorem wp_compG {α : Type} (f : α → D) (h : Wp (it ρ S) (fun xs S1 => ∃ I : Nat → List α → Sto → Prop, xs.length ≤ 16777216 ∧ I 0 [] S1 ∧
    (∀ j d as S, xs[j]? = some d → as.length = j → I j as S → ∃ ρ1, t.put d (wipeD ρ vs) = some ρ1 ∧ Wp (e ρ1 S) (fun y S2 => ∃ a, y = f a ∧ I (j + 1) (as ++ [a]) S2) noX) ∧
    (∀ as S, as.length = xs.length → I xs.length as S → Q (.lst (as.map f)) S)) E) : Wp (eComp it t tYesX e vs ρ S) Q E := by
  refine wp_comp (h.mono fun xs S1 ⟨I, hl, h0, st, hq⟩ => ⟨fun j acc S => ∃ as : List α, acc = as.map f ∧ as.length = j ∧ j ≤ xs.length ∧ I j as S, ⟨[], rfl, rfl, Nat.zero_le _, h0⟩, ?_, ?_⟩)
  · rintro j d acc S hj ⟨as, rfl, hal, hjl, hI⟩
    obtain ⟨ρ1, e1, h1⟩ := st j d as S hj hal hI
    have hj' := (List.getElem?_eq_some_iff.mp hj).1
    refine ⟨ρ1, e1, wp_tyes ⟨fun _ => h1.mono fun y S2 ⟨a, hy, hI2⟩ => ?_, fun z => by cases z⟩⟩
    subst hy
    exact ⟨by rw [List.length_map]; omega, as ++ [a], by simp, by simp [hal], by omega, hI2⟩
  · rintro acc S ⟨as, rfl, hal, _, hI⟩
    exact hq as S hal hI
end
theorem iRng_len (a b : Int) : (iRng a b).length = (b - a).toNat := by simp [iRng]
theorem iRng_at {a b : Int} {j : Nat} {d : D} (h : (iRng a b)[j]? = some d) : d = .int (a + j) ∧ a + j < b := by
  have hj := (List.getElem?_eq_some_iff.mp h).1
  rw [iRng_len] at hj
  simp only [iRng, List.getElem?_map, List.getElem?_range hj, Option.map_some, Option.some.injEq] at h
  exact ⟨h.symm, by omega⟩
theorem cutL_take {α : Type} (xs : List α) (v : Int) (h : 0 ≤ v) : cutL xs none (some v) = xs.take v.toNat := by
  have e2 : HT.sIx xs.length xs.length (some v) = min v.toNat xs.length := by
    unfold HT.sIx
    exact if_neg (by omega)
  unfold cutL
  rw [e2]
  simp only [HT.sIx, Nat.sub_zero, List.drop_zero]
  rw [Nat.min_def]
  split
  · rfl
  · rw [List.take_of_length_le (by omega), List.take_of_length_le (by omega)]
section
variable {Q : D → Prop} {a b c d e f g : D} {l : List D}
theorem wo_ixL0 (q : Q a) : Wo (ixD (.lst (a :: l)) (.int 0)) Q := .of (d := a) (by show L2.atI _ _ = _; unfold L2.atI L2.ixN; rw [if_pos (by decide), if_pos (by simp only [List.length_cons]; omega)]; rfl) q
theorem wo_ixL1 (q : Q b) : Wo (ixD (.lst (a :: b :: l)) (.int 1)) Q := .of (d := b) (by show L2.atI _ _ = _; unfold L2.atI L2.ixN; rw [if_pos (by decide), if_pos (by simp only [List.length_cons]; omega)]; rfl) q
theorem wo_ixL2 (q : Q c) : Wo (ixD (.lst (a :: b :: c :: l)) (.int 2)) Q := .of (d := c) (by show L2.atI _ _ = _; unfold L2.atI L2.ixN; rw [if_pos (by decide), if_pos (by simp only [List.length_cons]; omega)]; rfl) q
theorem wo_ixL3 (q : Q d) : Wo (ixD (.lst (a :: b :: c :: d :: l)) (.int 3)) Q := .of (d := d) (by show L2.atI _ _ = _; unfold L2.atI L2.ixN; rw [if_pos (by decide), if_pos (by simp only [List.length_cons]; omega)]; rfl) q
theorem wo_ixL4 (q : Q e) : Wo (ixD (.lst (a :: b :: c :: d :: e :: l)) (.int 4)) Q := .of (d := e) (by show L2.atI _ _ = _; unfold L2.atI L2.ixN; rw [if_pos (by decide), if_pos (by simp only [List.length_cons]; omega)]; rfl) q
theorem wo_ixL5 (q : Q f) : Wo (ixD (.lst (a :: b :: c :: d :: e :: f :: l)) (.int 5)) Q := .of (d := f) (by show L2.atI _ _ = _; unfold L2.atI L2.ixN; rw [if_pos (by decide), if_pos (by simp only [List.length_cons]; omega)]; rfl) q
theorem wo_ixL6 (q : Q g) : Wo (ixD (.lst (a :: b :: c :: d :: e :: f :: g :: l)) (.int 6)) Q := .of (d := g) (by show L2.atI _ _ = _; unfold L2.atI L2.ixN; rw [if_pos (by decide), if_pos (by simp only [List.length_cons]; omega)]; rfl) q
theorem wo_ixT0 (q : Q a) : Wo (ixD (.tup (a :: l)) (.int 0)) Q := .of (d := a) (by show L2.atI _ _ = _; unfold L2.atI L2.ixN; rw [if_pos (by decide), if_pos (by simp only [List.length_cons]; omega)]; rfl) q
theorem wo_ixT1 (q : Q b) : Wo (ixD (.tup (a :: b :: l)) (.int 1)) Q := .of (d := b) (by show L2.atI _ _ = _; unfold L2.atI L2.ixN; rw [if_pos (by decide), if_pos (by simp only [List.length_cons]; omega)]; rfl) q
theorem wo_ixT2 (q : Q c) : Wo (ixD (.tup (a :: b :: c :: l)) (.int 2)) Q := .of (d := c) (by show L2.atI _ _ = _; unfold L2.atI L2.ixN; rw [if_pos (by decide), if_pos (by simp only [List.length_cons]; omega)]; rfl) q
theorem wo_ixT3 (q : Q d) : Wo (ixD (.tup (a :: b :: c :: d :: l)) (.int 3)) Q := .of (d := d) (by show L2.atI _ _ = _; unfold L2.atI L2.ixN; rw [if_pos (by decide), if_pos (by simp only [List.length_cons]; omega)]; rfl) q
theorem wo_ixT4 (q : Q e) : Wo (ixD (.tup (a :: b :: c :: d :: e :: l)) (.int 4)) Q := .of (d := e) (by show L2.atI _ _ = _; unfold L2.atI L2.ixN; rw [if_pos (by decide), if_pos (by simp only [List.length_cons]; omega)]; rfl) q
theorem wo_ixT5 (q : Q f) : Wo (ixD (.tup (a :: b :: c :: d :: e :: f :: l)) (.int 5)) Q := .of (d := f) (by show L2.atI _ _ = _; unfold L2.atI L2.ixN; rw [if_pos (by decide), if_pos (by simp only [List.length_cons]; omega)]; rfl) q
theorem wo_ixT6 (q : Q g) : Wo (ixD (.tup (a :: b :: c :: d :: e :: f :: g :: l)) (.int 6)) Q := .of (d := g) (by show L2.atI _ _ = _; unfold L2.atI L2.ixN; rw [if_pos (by decide), if_pos (by simp only [List.length_cons]; omega)]; rfl) q
end
section
variable {Q : D → Prop} {S : Sto} {i j : Int} {xs ys : List D} {a b : Bool} {x y : Str} {d : D}
theorem vo_add (q : Q (.int (i + j))) : Wo (addD (view S (.int i)) (view S (.int j))) Q := wo_add q
theorem vo_sub (q : Q (.int (i - j))) : Wo (subD (view S (.int i)) (view S (.int j))) Q := wo_sub q
theorem vo_mod (h : 0 < j) (q : Q (.int (i % j))) : Wo (modD (view S (.int i)) (view S (.int j))) Q := wo_mod h q
theorem vo_div (h : 0 < j ∧ j < 1073741824) (q : Q (.int (i / j))) : Wo (divD (view S (.int i)) (view S (.int j))) Q := wo_div h q
theorem vo_mulR (h : -18446744073709551616 < j ∧ j < 18446744073709551616) (q : Q (.int (i * j))) : Wo (mulD (view S (.int i)) (view S (.int j))) Q := wo_mulR h q
theorem vo_mulL (h : -18446744073709551616 < i ∧ i < 18446744073709551616) (q : Q (.int (i * j))) : Wo (mulD (view S (.int i)) (view S (.int j))) Q := wo_mulL h q
theorem vo_lt (q : Q (.bl (decide (i < j)))) : Wo (ltD (view S (.int i)) (view S (.int j))) Q := wo_lt q
theorem vo_le (q : Q (.bl (decide (i ≤ j)))) : Wo (leD (view S (.int i)) (view S (.int j))) Q := wo_le q
theorem vo_gt (q : Q (.bl (decide (j < i)))) : Wo (gtD (view S (.int i)) (view S (.int j))) Q := wo_gt q
theorem vo_ge (q : Q (.bl (decide (j ≤ i)))) : Wo (geD (view S (.int i)) (view S (.int j))) Q := wo_ge q
theorem vo_eq (q : Q (.bl (decide (i = j)))) : Wo (eqD (view S (.int i)) (view S (.int j))) Q := wo_eq q
theorem vo_ne (q : Q (.bl (!decide (i = j)))) : Wo (neD (view S (.int i)) (view S (.int j))) Q := wo_ne q
theorem vo_eqB (q : Q (.bl (a == b))) : Wo (eqD (view S (.bl a)) (view S (.bl b))) Q := wo_eqB q
theorem vo_neB (q : Q (.bl (!(a == b)))) : Wo (neD (view S (.bl a)) (view S (.bl b))) Q := wo_neB q
theorem vo_eqS (q : Q (.bl (decide (x = y)))) : Wo (eqD (view S (.str x)) (view S (.str y))) Q := wo_eqS q
theorem vo_neS (q : Q (.bl (!decide (x = y)))) : Wo (neD (view S (.str x)) (view S (.str y))) Q := wo_neS q
theorem vo_neg (q : Q (.int (-i))) : Wo (negD (view S (.int i))) Q := wo_neg q
theorem vo_addL (h : xs.length + ys.length ≤ 16777216) (q : Q (.lst (xs ++ ys))) : Wo (addD (view S (.lst xs)) (view S (.lst ys))) Q := wo_addL h q
theorem vo_slT {l h : Option Int} (q : Q (.tup (cutD xs l h))) : Wo (slD (view S (.tup xs)) l h) Q := wo_slT q
theorem vo_slL {l h : Option Int} (q : Q (.lst (cutD xs l h))) : Wo (slD (view S (.lst xs)) l h) Q := wo_slL q
theorem vo_slS {ns : List Int} {l h : Option Int} (q : Q (.lst (cutD (ns.map .int) l h))) : Wo (slD (view S (.scr ns)) l h) Q := ⟨q⟩
theorem vo_lenT (q : Q (.int xs.length)) : Wo (lenD (List.map (view S) [.tup xs])) Q := wo_lenT q
theorem vo_lenL (q : Q (.int xs.length)) : Wo (lenD (List.map (view S) [.lst xs])) Q := wo_lenL q
theorem vo_tupL (q : Q (.tup xs)) : Wo (tupleD (List.map (view S) [.lst xs])) Q := wo_tupL q
theorem vo_tupT (q : Q (.tup xs)) : Wo (tupleD (List.map (view S) [.tup xs])) Q := wo_tupT q
theorem vo_lisL (q : Q (.lst xs)) : Wo (listD (List.map (view S) [.lst xs])) Q := wo_lisL q
theorem vo_lisT (q : Q (.lst xs)) : Wo (listD (List.map (view S) [.tup xs])) Q := wo_lisT q
theorem vo_lenS {ns : List Int} (q : Q (.int ns.length)) : Wo (lenD (List.map (view S) [.scr ns])) Q := ⟨q⟩
theorem vo_revT (q : Q (.tup xs.reverse)) : Wo (revD (view S (.tup xs))) Q := wo_revT q
theorem vo_revL (q : Q (.lst xs.reverse)) : Wo (revD (view S (.lst xs))) Q := wo_revL q
theorem vo_min (q : Q (.int (if j < i then j else i))) : Wo (min2D (List.map (view S) [.int i, .int j])) Q := wo_min q
theorem vo_max (q : Q (.int (if j > i then j else i))) : Wo (max2D (List.map (view S) [.int i, .int j])) Q := wo_max q
theorem vo_vwc {g : List D → Option D} {n : Nat} (h : S[n]? = some (some (.lst xs))) (q : Wo (g (List.map (view S) [.lst xs])) Q) : Wo (g (List.map (view S) [.ref n])) Q := by
  have e : List.map (view S) [.ref n] = List.map (view S) [.lst xs] := by simp only [List.map_cons, List.map_nil, view_at h]; rfl
  rw [e]; exact q
theorem vo_isi {t : PT} {z : D} {c : Bool} (h : t.isOf (view S z) = some c) (q : Q (.bl c)) : Wo (Option.map D.bl (t.isOf (view S z))) Q := by rw [h]; exact ⟨q⟩
theorem vo_isis {t : List PT} {z : D} {c : Bool} (h : isOfs t (view S z) = some c) (q : Q (.bl c)) : Wo (Option.map D.bl (isOfs t (view S z))) Q := by rw [h]; exact ⟨q⟩
variable {a0 a1 a2 a3 a4 a5 a6 : D} {l : List D}
theorem vo_ixL0 (q : Q a0) : Wo (ixD (view S (.lst (a0 :: l))) (view S (.int 0))) Q := wo_ixL0 q
theorem vo_ixL1 (q : Q a1) : Wo (ixD (view S (.lst (a0 :: a1 :: l))) (view S (.int 1))) Q := wo_ixL1 q
theorem vo_ixL2 (q : Q a2) : Wo (ixD (view S (.lst (a0 :: a1 :: a2 :: l))) (view S (.int 2))) Q := wo_ixL2 q
theorem vo_ixL3 (q : Q a3) : Wo (ixD (view S (.lst (a0 :: a1 :: a2 :: a3 :: l))) (view S (.int 3))) Q := wo_ixL3 q
theorem vo_ixL4 (q : Q a4) : Wo (ixD (view S (.lst (a0 :: a1 :: a2 :: a3 :: a4 :: l))) (view S (.int 4))) Q := wo_ixL4 q
theorem vo_ixL5 (q : Q a5) : Wo (ixD (view S (.lst (a0 :: a1 :: a2 :: a3 :: a4 :: a5 :: l))) (view S (.int 5))) Q := wo_ixL5 q
theorem vo_ixL6 (q : Q a6) : Wo (ixD (view S (.lst (a0 :: a1 :: a2 :: a3 :: a4 :: a5 :: a6 :: l))) (view S (.int 6))) Q := wo_ixL6 q
theorem vo_ixT0 (q : Q a0) : Wo (ixD (view S (.tup (a0 :: l))) (view S (.int 0))) Q := wo_ixT0 q
theorem vo_ixT1 (q : Q a1) : Wo (ixD (view S (.tup (a0 :: a1 :: l))) (view S (.int 1))) Q := wo_ixT1 q
theorem vo_ixT2 (q : Q a2) : Wo (ixD (view S (.tup (a0 :: a1 :: a2 :: l))) (view S (.int 2))) Q := wo_ixT2 q
theorem vo_ixT3 (q : Q a3) : Wo (ixD (view S (.tup (a0 :: a1 :: a2 :: a3 :: l))) (view S (.int 3))) Q := wo_ixT3 q
theorem vo_ixT4 (q : Q a4) : Wo (ixD (view S (.tup (a0 :: a1 :: a2 :: a3 :: a4 :: l))) (view S (.int 4))) Q := wo_ixT4 q
theorem vo_ixT5 (q : Q a5) : Wo (ixD (view S (.tup (a0 :: a1 :: a2 :: a3 :: a4 :: a5 :: l))) (view S (.int 5))) Q := wo_ixT5 q
theorem vo_ixT6 (q : Q a6) : Wo (ixD (view S (.tup (a0 :: a1 :: a2 :: a3 :: a4 :: a5 :: a6 :: l))) (view S (.int 6))) Q := wo_ixT6 q
end
theorem gApp {xs : List D} {d : D} (h : xs.length < 16777216) : gAppend xs [d] = some (xs ++ [d], .non) := if_pos (by rw [sizeLine_eq]; exact h)
theorem lst_some {S : Sto} {n : Nat} {xs : List D} (h : S[n]? = some (some (.lst xs))) : (lstOf S (.ref n)).isSome = true := by rw [lst_at h]; rfl
theorem len3 {α : Type} {l : List α} (h : l.length = 3) : ∃ a0 a1 a2, l = [a0, a1, a2] := match l, h with | [a0, a1, a2], _ => ⟨a0, a1, a2, rfl⟩
section
variable {Q : D → Prop} {S : Sto} {i j : Int}
theorem vo_igAdd (q : Q (.int (i + j))) : Wo (igAdd (view S (.int i)) (view S (.int j))) Q := ⟨q⟩
theorem vo_igMulR (h : -18446744073709551616 < j ∧ j < 18446744073709551616) (q : Q (.int (i * j))) : Wo (igMul (view S (.int i)) (view S (.int j))) Q := .of (if_pos (.inr h)) q
theorem vo_igMulL (h : -18446744073709551616 < i ∧ i < 18446744073709551616) (q : Q (.int (i * j))) : Wo (igMul (view S (.int i)) (view S (.int j))) Q := .of (if_pos (.inl h)) q
end
theorem fq_rt {Q : D → Sto → Prop} {d : D} {S : Sto} (h : Q d S) : fnQ Q (.rt d) S := h
theorem fq_nx {Q : D → Sto → Prop} {ρ : Ev} {S : Sto} (h : Q .non S) : fnQ Q (.nx ρ) S := h
end DL
set_option Elab.async false
set_option linter.all false
set_option maxRecDepth 100000
set_option maxHeartbeats 4000000
namespace DL
open PySem PySem.Spec PyProof.Rows L2
end DL
set_option Elab.async false
set_option linter.all false
set_option maxRecDepth 100000
set_option maxHeartbeats 4000000
namespace DL
open PySem PySem.Spec PyProof.Rows L2
def frzO (S : Sto) (o : Option D) : Option D := match o with
  | some d => if noRef (frzD S d) = true then some (frzD S d) else none
  | none => none
def frzE (S : Sto) (ρ : Ev) : Ev := ρ.map (frzO S)
section
variable {K : PySem.W.Frag} {mg : Str → Option Value} {H : Hp} {m : List Addr} {B : Addr → Prop} {S : Sto} {σ : L2.St} {ρ : Ev}
theorem RepE.frz (r : Rl K mg B m H S) (h : RepE K H (Fo B m S) m σ ρ) : RepE K H (Fo (fun _ => False) [] []) [] σ (frzE S ρ) := by
  refine ⟨by simp [frzE, h.1], fun i d e => ?_⟩
  unfold frzE at e
  rw [List.getElem?_map] at e
  obtain ⟨o, e1, e2⟩ := Option.map_eq_some_iff.mp e
  cases o with
  | none => simp [frzO] at e2
  | some d0 =>
    unfold frzO at e2
    dsimp only at e2
    split at e2
    · rename_i hn
      cases e2
      obtain ⟨v, ev, rv⟩ := h.2 i d0 e1
      have e0 : ∀ a, Fo (fun _ => False) [] [] a → False := fun a z => z.elim id fun ⟨n, o, e1, e2⟩ => by simp at e1
      exact ⟨v, ev, (Rep.frzD r rv hn).noRef (fun a z => e0 a z) hn⟩
    · cases e2
end
end DL
set_option Elab.async false
set_option linter.all false
set_option maxRecDepth 100000
set_option maxHeartbeats 4000000
namespace DL
open PySem PySem.Spec PyProof.Rows L2
end DL
set_option Elab.async false
set_option linter.all false
set_option maxRecDepth 100000
set_option maxHeartbeats 4000000
namespace DL
open PySem PySem.Spec PyProof.Rows L2
end DL
set_option Elab.async false
set_option linter.all false
set_option maxRecDepth 100000
set_option maxHeartbeats 4000000
namespace DL
open PySem PySem.Spec PyProof.Rows L2
def eDNew : Ex := fun _ S => .ok (.ref S.length) (S ++ [some (.dic false [])])
def isDc : D → Bool
  | .dic false _ => true
  | _ => false
def getD2 (d k z : D) : Option D := match d with
  | .dic false kvs => (unK k).map fun kk => (valD kvs kk).getD z
  | _ => none
def eGet2 (o k x : Ex) : Ex := fun ρ S => (o ρ S).bind fun d S => if isDc (view S d) = true then (k ρ S).bind fun y S => (x ρ S).bind fun z S => ans S (getD2 (view S d) y z) else .bad
/-- a live dict: a key's thing, put there where it lacks -/
def popAtD (S : Sto) (d k : D) : Option (D × Sto) := match dicOf S d with
  | some (n, kvs) => match unK k with
    | some kk => match valD kvs kk with
      | some z => some (z, S.set n (some (.dic false (dropD kvs kk))))
      | none => none
    | none => none
  | none => none
def ePopD1 (o k : Ex) : Ex := fun ρ S => (o ρ S).bind fun d S => if (dicOf S d).isSome = true then (k ρ S).bind fun y S => match popAtD S d y with
  | some (z, S') => .ok z S'
  | none => .bad else .bad
section
variable {K : PySem.W.Frag} {mg : Str → Option Value} {B : Addr → Prop} {m m' : List Addr} {S S' : Sto} {H H' : Hp} {v vk : V} {d k : D}
theorem isDc_at (r : Rl K mg B m H S) (h : Rep K H (Fo B m S) m v d) (e : isDc (view S d) = true) : ∃ a, v = .ref a ∧ IsD H a := by
  have w := vw r h
  generalize hd : view S d = dd at e w
  cases dd with
  | dic t kvs =>
    cases t with
    | false =>
      obtain ⟨a, kv, rfl, h1, _, _⟩ := w.asD
      exact ⟨a, rfl, .inl ⟨kv, h1⟩⟩
    | true => simp [isDc] at e
  | _ => simp [isDc] at e
theorem getD2_ok {dd z w : D} {vz : V} {Fb : Addr → Prop} (vd : Vw K H Fb m v dd) (rk : Rep K H Fb m vk k) (rz : Rep K H Fb m vz z) (e : getD2 dd k z = some w) : ∃ a o, v = .ref a ∧ DGet H a vk o ∧ Rep K H Fb m (o.getD vz) w := by
  unfold getD2 at e
  split at e
  · rename_i kvs
    obtain ⟨kk, e1, rfl⟩ := Option.map_eq_some_iff.mp e
    obtain ⟨a, kv, rfl, h1, z1, q1⟩ := vd.asD
    refine ⟨a, _, rfl, .inl ⟨kv, kk, h1, rk.key e1, rfl⟩, ?_⟩
    rcases q1.val kk with ⟨v', d', e2, e3, r'⟩ | ⟨e2, e3⟩
    · rw [e2, e3]; exact r'
    · rw [e2, e3]; exact rz
  · cases e
theorem popAt_ok {z : D} (r : Rl K mg B m H S) (rd : Rep K H (Fo B m S) m v d) (rk : Rep K H (Fo B m S) m vk k) (e : popAtD S d k = some (z, S')) :
    ∃ a kv kk w, v = .ref a ∧ H a = some (.dK kv) ∧ vk = kV kk ∧ valV kv kk = some w ∧ Post K mg B m S H m S' (L2.upd H a (.dK (dropK kv kk))) ∧ Rep K (L2.upd H a (.dK (dropK kv kk))) (Fo B m S') m w z := by
  unfold popAtD at e
  cases e1 : dicOf S d with
  | none => rw [e1] at e; cases e
  | some nk =>
    obtain ⟨n, kvs⟩ := nk
    rw [e1] at e
    dsimp only at e
    cases e2 : unK k with
    | none => rw [e2] at e; cases e
    | some kk =>
      rw [e2] at e
      dsimp only at e
      cases e3 : valD kvs kk with
      | none => rw [e3] at e; cases e
      | some z' =>
        rw [e3] at e
        cases e
        obtain ⟨a, kv, rfl, h1, h2, h3, h4, h5⟩ := dicOf_some r e1 rd
        obtain ⟨w, e4, rw'⟩ := h5.some e3
        have po := Post.updD (n := n) (kws := dropD kvs kk) r h1 h2 (h5.drop kk) (Nat.le_trans (dropK_le kv kk) h4)
        exact ⟨a, kv, kk, w, rfl, h3, rk.key e2, e4, po, rw'.kp (po.kp r)⟩
end
section
variable {X : Cx} {W : WX} {o e f : Expr} {fo fe ff : Ex} {pos apos cpos tpos : Pos}
theorem ev_dnew : EV X W (.Dict [] [] pos) eDNew := by
  refine pe_imp pe_dnewK fun σ H Q ⟨B, m, ρ, S, r, re, f⟩ p hp => ?_
  exact f (m ++ [p]) _ _ (Post.new r hp (.dK (kv := []) upd_same (Nat.zero_le _) rfl .nil)) (rep_new r)
theorem m1_of {nm : Str} (h1 : attributeBase o nm X.env (eval o X.env) = eval o X.env := by rfl)
    (h2 : ((backTo cpos (starEach [e] X.env)).all (fun x => !x.1) && (backToKw cpos (keywordEach [] X.env)).all (fun x => x.1.isSome)
    && decide (([e] : List Expr).length + ([] : List Keyword).length + (if ([] : List Keyword).isEmpty then 0 else 1) < 30)) = true := by rfl) (h3 : (apos.endLine == cpos.line) = true := by rfl)
    (h4 : backTo cpos (starEach [e] X.env) = [(false, eval e X.env)] := by rfl) : M1 X o nm apos e cpos := ⟨h1, h2, h3, h4⟩
theorem m2_of {nm : Str} (h1 : attributeBase o nm X.env (eval o X.env) = eval o X.env := by rfl)
    (h2 : ((backTo cpos (starEach [e, f] X.env)).all (fun x => !x.1) && (backToKw cpos (keywordEach [] X.env)).all (fun x => x.1.isSome)
    && decide (([e, f] : List Expr).length + ([] : List Keyword).length + (if ([] : List Keyword).isEmpty then 0 else 1) < 30)) = true := by rfl) (h3 : (apos.endLine == cpos.line) = true := by rfl)
    (h4 : backTo cpos (starEach [e, f] X.env) = [(false, eval e X.env), (false, eval f X.env)] := by rfl) : M2 X o nm apos e f cpos := ⟨h1, h2, h3, h4⟩
theorem ev_get2 (hu : X.A.units + 64 < cLine) (ho : EV X W o fo) (he : EV X W e fe) (hf : EV X W f ff) (mm : M2 X o "get" apos e f cpos) : EV X W (.Call (.Attribute o "get" apos) [e, f] [] cpos) (eGet2 fo fe ff) := by
  refine pe_imp (pe_dget2 (by omega) ho he hf mm) fun σ H Q h => ?_
  obtain ⟨B, m, ρ, S, r, re, f⟩ := up_one (g := fun d ρ S => if isDc (view S d) = true then (fe ρ S).bind fun y S => (ff ρ S).bind fun z S => ans S (getD2 (view S d) y z) else .bad) h
  refine ⟨B, m, ρ, S, r, re, f.mono fun x H1 => ?_⟩
  rintro ⟨B, m, ρ, S, d, r, re, rx, f⟩
  split at f
  · rename_i hd
    obtain ⟨a, rfl, hD⟩ := isDc_at r rx hd
    refine ⟨a, rfl, hD, B, m, ρ, S, r, re, fin.mono (fin.bind f) fun y H2 => ?_⟩
    rintro ⟨m2, S2, dy, p2, q2, f2⟩
    have re2 := re.kp (p2.kp r)
    refine ⟨B, m2, ρ, S2, p2.rl, re2, fin.mono (fin.bind f2) fun z H3 => ?_⟩
    rintro ⟨m3, S3, dz, p3, q3, f3⟩
    have rx3 := (rx.kp (p2.kp r)).kp (p3.kp p2.rl)
    have ry3 := q2.kp (p3.kp p2.rl)
    cases e1 : getD2 (view S3 d) dy dz with
    | none => rw [e1] at f3; exact f3.elim
    | some w =>
      rw [e1] at f3
      obtain ⟨a', ov, ea, g, rw'⟩ := getD2_ok (vw p3.rl rx3) ry3 q3 e1
      cases ea
      exact ⟨ov, g, f3.ok p3.rl (Same.refl _) rw'⟩
  · exact f.elim
theorem ev_popD1 (ho : EV X W o fo) (he : EV X W e fe) (mm : M1 X o "pop" apos e cpos) : EV X W (.Call (.Attribute o "pop" apos) [e] [] cpos) (ePopD1 fo fe) := by
  refine pe_imp (pe_dpop1 ho he mm) fun σ H Q h => ?_
  obtain ⟨B, m, ρ, S, r, re, f⟩ := up_one (g := fun d ρ S => if (dicOf S d).isSome = true then (fe ρ S).bind fun y S => match popAtD S d y with
    | some (z, S') => .ok z S'
    | none => .bad else .bad) h
  refine ⟨B, m, ρ, S, r, re, f.mono fun x H1 => ?_⟩
  rintro ⟨B, m, ρ, S, d, r, re, rx, f⟩
  cases e0 : dicOf S d with
  | none => rw [e0] at f; exact f.elim
  | some nk =>
    rw [e0] at f
    simp only [Option.isSome_some, if_true] at f
    obtain ⟨a, kv, rfl, h1, h2, h3, h4, h5⟩ := dicOf_some r e0 rx
    refine ⟨a, rfl, .inl ⟨kv, .inl h3⟩, B, m, ρ, S, r, re, fin.mono (fin.bind f) fun y H2 => ?_⟩
    rintro ⟨m2, S2, dy, p2, q2, f2⟩
    have rx2 := rx.kp (p2.kp r)
    cases e1 : popAtD S2 d dy with
    | none => rw [e1] at f2; exact f2.elim
    | some zS =>
      obtain ⟨z, S'⟩ := zS
      rw [e1] at f2
      obtain ⟨a', kv', kk, w, ea, g1, g2, g3, po, rw'⟩ := popAt_ok p2.rl rx2 q2 e1
      cases ea
      exact ⟨kv', kk, w, g1, g2, g3, f2 m2 _ w po rw'⟩
def sAugIx (g : D → D → Option D) (o i e : Ex) : Sx := fun ρ S => (o ρ S).bindS ρ fun d S => (i ρ S).bindS ρ fun k S => match dgetD (view S d) k with
  | some x => (e ρ S).bindS ρ fun y S => match g (view S x) (view S y) with
    | some z => match putAtD S d k z with
      | some S' => .fl (.nx ρ) S'
      | none => .bad
    | none => .bad
  | none => .bad
def iVals (e : Ex) : Ix := fun ρ S => (e ρ S).bind fun d S => match d with
  | .dic false kvs => .ok (kvs.map (·.2)) S
  | _ => .bad
def iItems (e : Ex) : Ix := fun ρ S => (e ρ S).bind fun d S => match d with
  | .dic false kvs => .ok (kvs.map fun p => .tup [p.1, p.2]) S
  | _ => .bad
theorem kr_get {K : PySem.W.Frag} {H : Hp} {Fb : Addr → Prop} {m : List Addr} {kv : List (Key × V)} {kvs : List (D × D)} (h : KR K H Fb m kv kvs) {i : Nat} {k : Key} {v : V} (e : kv[i]? = some (k, v)) : ∃ d, kvs[i]? = some (keyD k, d) ∧ Rep K H Fb m v d := by
  induction h generalizing i with
  | nil => simp at e
  | cons r h ih =>
    cases i with
    | zero => cases e; exact ⟨_, rfl, r⟩
    | succ i => exact ih e
theorem itr_vals {K : PySem.W.Frag} {H : Hp} {Fb : Addr → Prop} {m : List Addr} {a : Addr} {od : Obj} {kv : List (Key × V)} {kvs : List (D × D)} (h : H a = some (.frz od (.dK kv))) (q : KR K H Fb m kv kvs) : ItR K H Fb m (Itd a od kv) (kvs.map (·.2)) := by
  intro H2 F2 m2 p
  have h2 := p.fix _ (.frz od (.dK kv)) trivial h
  have hl := q.length
  have q2 := q.kp p
  refine ⟨fun i hi => ⟨⟨h2, by rw [List.length_map] at hi; omega⟩, fun x H3 y => ?_⟩, fun i hi => ⟨h2, by rw [List.length_map] at hi; omega⟩⟩
  obtain ⟨rfl, k, ek⟩ := y
  obtain ⟨d, ed, rd⟩ := kr_get q2 ek
  exact ⟨d, by rw [List.getElem?_map, ed]; rfl, Same.refl _, rd⟩
theorem itr_items {K : PySem.W.Frag} {H : Hp} {Fb : Addr → Prop} {m : List Addr} {a : Addr} {od : Obj} {kv : List (Key × V)} {kvs : List (D × D)} (h : H a = some (.frz od (.dK kv))) (q : KR K H Fb m kv kvs) : ItR K H Fb m (Iti a od kv) (kvs.map fun p => .tup [p.1, p.2]) := by
  intro H2 F2 m2 p
  have h2 := p.fix _ (.frz od (.dK kv)) trivial h
  have hl := q.length
  have q2 := q.kp p
  refine ⟨fun i hi => ⟨⟨h2, by rw [List.length_map] at hi; omega⟩, fun x H3 y => ?_⟩, fun i hi => ⟨h2, by rw [List.length_map] at hi; omega⟩⟩
  obtain ⟨T, k, v, ek, rfl, hT, rfl⟩ := y
  obtain ⟨d, ed, rd⟩ := kr_get q2 ek
  refine ⟨.tup [keyD k, d], by rw [List.getElem?_map, ed]; rfl, same_upd hT, .tup (.of upd_same) (by rw [sizeLine_eq]; simp) (.cons (rep_key k) (.cons (rd.kp (kp_same (same_upd hT))) .nil))⟩
theorem iv_vals {tg : Expr} (h : EV X W e fe) (hbase : attributeBase e "values" X.env (eval e X.env) = eval e X.env := by rfl) (hline : (apos.endLine == cpos.line) = true := by rfl) : IV X W tg (.Call (.Attribute e "values" apos) [] [] cpos) (iVals fe) := by
  refine pi_imp (pi_values h hbase hline) fun σ H Q h => ?_
  obtain ⟨B, m, ρ, S, r, re, f⟩ := upI_one (g := fun d ρ S => match d with | .dic false kvs => .ok (kvs.map (·.2)) S | _ => .bad) h
  refine ⟨B, m, ρ, S, r, re, f.mono fun x H1 => ?_⟩
  rintro ⟨B, m, ρ, S, dx, r, re, rx, f⟩
  split at f
  · cases rx with
    | dK h z e q =>
      obtain ⟨od, h⟩ := h
      exact ⟨_, od, _, rfl, h, f m H1 _ (Post.refl r) (itr_vals h (kr_of e q))⟩
  · exact f.elim
theorem iv_items {elts : List Expr} {kk : Nat} (h : EV X W e fe) (hbase : attributeBase e "items" X.env (eval e X.env) = eval e X.env := by rfl) (hline : (apos.endLine == cpos.line) = true := by rfl) : IV X W (.Tuple elts kk tpos) (.Call (.Attribute e "items" apos) [] [] cpos) (iItems fe) := by
  refine pi_imp (pi_items h hbase hline) fun σ H Q h => ?_
  obtain ⟨B, m, ρ, S, r, re, f⟩ := upI_one (g := fun d ρ S => match d with | .dic false kvs => .ok (kvs.map fun p => .tup [p.1, p.2]) S | _ => .bad) h
  refine ⟨B, m, ρ, S, r, re, f.mono fun x H1 => ?_⟩
  rintro ⟨B, m, ρ, S, dx, r, re, rx, f⟩
  split at f
  · cases rx with
    | dK h z e q =>
      obtain ⟨od, h⟩ := h
      exact ⟨_, od, _, rfl, h, f m H1 _ (Post.refl r) (itr_items h (kr_of e q))⟩
  · exact f.elim
end
end DL
set_option Elab.async false
set_option linter.all false
set_option maxRecDepth 100000
set_option maxHeartbeats 4000000
namespace DL
open PySem PySem.Spec PyProof.Rows L2
def isI (ns : List Int) : List Int := ns.mergeSort fun a b => decide (a ≤ b)
theorem isI_perm (ns : List Int) : (isI ns).Perm ns := List.mergeSort_perm _ _
theorem isI_pw (ns : List Int) : (isI ns).Pairwise (· ≤ ·) := by
  have := List.pairwise_mergeSort (le := fun a b : Int => decide (a ≤ b)) (fun a b c h1 h2 => by simp at *; omega) (fun a b => by simp; omega) ns
  exact this.imp fun h => of_decide_eq_true h
theorem isI_uniq {ns ms : List Int} (h : ms.Perm ns) (hs : ms.Pairwise (· ≤ ·)) : ms = isI ns :=
  List.Perm.eq_of_pairwise (fun a b _ _ h1 h2 => Int.le_antisymm h1 h2) hs (isI_pw ns) (h.trans (isI_perm ns).symm)
theorem isI_len (ns : List Int) : (isI ns).length = ns.length := (isI_perm ns).length_eq
def sortD : List D → Option D
  | [.lst xs] => (asIs xs).map fun ns => .lst ((isI ns).map .int)
  | [.dic false kvs] => if kvs.length < 64 then (asIs (kvs.map (·.1))).map fun ns => .lst ((isI ns).map .int) else none
  | _ => none
section
variable {X : Cx}
theorem cg_sorted (hc : X.calm = true) : CallR X (.builtin "sorted") (rGn X.K sortD) := by
  intro pins s σ H xs us Q I r ⟨Fb, m, ds, d, fr, vx, e, k⟩
  unfold sortD at e
  split at e
  · rename_i ys
    obtain ⟨ns, e1, rfl⟩ := Option.map_eq_some_iff.mp e
    obtain ⟨v, rfl, h⟩ := vx.one
    obtain ⟨a, vs, rfl, h1, z1, q1⟩ := h.asL
    have hv : vs = ns.map V.int := asIs_vals e1 q1
    subst hv
    refine cr_sortedI pins s σ H _ us Q I r ⟨a, ns, rfl, SqL.of h1, fun ns' p h2 h3 hp => ?_⟩
    have := isI_uniq h2 h3
    subst this
    refine k _ _ (same_upd hp) (.lst upd_same (fr p hp) ?_ (repA_ints _))
    have := q1.length
    have := isI_len ns
    simp only [List.length_map] at *
    omega
  · rename_i kvs
    split at e
    · rename_i h64
      obtain ⟨ns, e1, rfl⟩ := Option.map_eq_some_iff.mp e
      obtain ⟨v, rfl, h⟩ := vx.one
      obtain ⟨a, kv, rfl, h1, z1, q1⟩ := h.asD
      have hk := asIs_eq e1
      rw [q1.keys] at hk
      have hk2 : kv.map (·.1) = ns.map Sum.inl := by
        have : (kv.map (·.1)).map keyD = (ns.map Sum.inl).map keyD := by
          rw [List.map_map, List.map_map]
          exact hk
        exact (List.map_inj_right fun a b h => by cases a <;> cases b <;> simp [keyD] at h <;> simp [h]).mp this
      have hl : ns.length = kvs.length := by
        have := congrArg List.length hk
        simp only [List.length_map] at this
        rw [← this, q1.length]
      refine call_sortedDI hc pins s σ H _ us Q I r ⟨a, kv, ns, rfl, h1, hk2, by omega, fun ys p h2 h3 hp => ?_⟩
      have := isI_uniq h2 h3
      subst this
      refine k _ _ (same_upd hp) (.lst upd_same (fr p hp) ?_ (repA_ints _))
      have := isI_len ns
      simp only [List.length_map]
      rw [sizeLine_eq]
      omega
    · cases e
  · cases e
end
def notNon : PyData → Bool
  | .none => false
  | _ => true
def cmpP (x y : D) : Option (PyData × PyData) := (toP x).bind fun p => (toP y).bind fun q => if PySem.W.alike p q = true ∧ notNon p = true ∧ p.depth ≤ 40 then some (p, q) else none
def ltXD : D → D → Option D
  | .int i, .int j => some (.bl (decide (i < j)))
  | x, y => (cmpP x y).map fun z => .bl (PySem.W.dataLt z.1 z.2)
theorem lt_tup0 : PySem.W.dataLt (.tuple []) (.tuple []) = false := by rw [PySem.W.dataLt_tuple]; exact PyProof.Rows.lex_irrefl _
theorem lt_tupI (a b : Int) (xs ys : List PyData) : PySem.W.dataLt (.tuple (.int a :: xs)) (.tuple (.int b :: ys)) = (decide (a < b) || (decide (a = b) && PySem.W.dataLt (.tuple xs) (.tuple ys))) := by
  have ha : PySem.W.alike (.int a) (.int b) = true := by simp [PySem.W.alike]
  rw [PySem.W.dataLt_tuple, PySem.W.dataLt_tuple]
  by_cases h : a = b
  · subst h
    rw [PySem.W.dataLt_all_yes ha (by simp [PyData.eqv])]
    simp
  · rw [PySem.W.dataLt_all_no ha (by simp [PyData.eqv, h]), PySem.W.dataLt_int]
    simp [h]
mutual
def ofP : PyData → D
  | .none => .non
  | .bool b => .bl b
  | .int i => .int i
  | .str x => .str x
  | .list xs => .lst (ofPs xs)
  | .tuple xs => .tup (ofPs xs)
  | .dict _ => .non
def ofPs : List PyData → List D
  | [] => []
  | x :: xs => ofP x :: ofPs xs
end
mutual
theorem ofP_toP : ∀ {d : D} {p : PyData}, toP d = some p → ofP p = d
  | .non, _, e => by cases e; simp [ofP]
  | .bl b, _, e => by cases e; simp [ofP]
  | .int i, _, e => by cases e; simp [ofP]
  | .str x, _, e => by cases e; simp [ofP]
  | .tup xs, p, e => by
    cases e1 : toPs xs with
    | none => simp [toP, e1] at e
    | some ps => simp [toP, e1] at e; subst e; simp only [ofP]; rw [ofPs_toPs e1]
  | .lst xs, p, e => by
    cases e1 : toPs xs with
    | none => simp [toP, e1] at e
    | some ps => simp [toP, e1] at e; subst e; simp only [ofP]; rw [ofPs_toPs e1]
  | .dic _ _, _, e => by simp [toP] at e
  | .ref _, _, e => by simp [toP] at e
  | .raw _, _, e => by simp [toP] at e
  | .scr _, _, e => by simp [toP] at e
  | .exn _ _, _, e => by simp [toP] at e
theorem ofPs_toPs : ∀ {ds : List D} {ps : List PyData}, toPs ds = some ps → ofPs ps = ds
  | [], ps, e => by cases e; simp [ofPs]
  | d :: ds, ps, e => by
    cases e1 : toP d with
    | none => simp [toPs, e1] at e
    | some p =>
      cases e2 : toPs ds with
      | none => simp [toPs, e1, e2] at e
      | some qs => simp [toPs, e1, e2] at e; subst e; simp only [ofPs]; rw [ofP_toP e1, ofPs_toPs e2]
end
theorem toPs_get : ∀ {ds : List D} {ps : List PyData}, toPs ds = some ps → ∀ {i : Nat} {d : D}, ds[i]? = some d → ∃ p, ps[i]? = some p ∧ toP d = some p
  | [], ps, e, i, d, h => by simp at h
  | x :: ds, ps, e, i, d, h => by
    cases e1 : toP x with
    | none => simp [toPs, e1] at e
    | some p =>
      cases e2 : toPs ds with
      | none => simp [toPs, e1, e2] at e
      | some qs =>
        simp [toPs, e1, e2] at e
        subst e
        cases i with
        | zero => cases h; exact ⟨p, rfl, e1⟩
        | succ i => exact toPs_get e2 (i := i) h
def alikeB (ps : List PyData) : Bool := ps.all fun p => ps.all (fun q => PySem.W.alike p q) && (match p with | .none => false | _ => true)
def minLD : List D → Option D
  | [.lst xs] => (toPs xs).bind fun ps => match ps with
    | p :: qs => if alikeB (p :: qs) = true ∧ PyData.depthAll (p :: qs) ≤ 40 then some (ofP (PySem.W.minD p qs)) else none
    | [] => none
  | _ => none
theorem alikeB_ok {ps : List PyData} (h : alikeB ps = true) : PySem.W.AlikeAll ps := by
  unfold alikeB at h
  rw [List.all_eq_true] at h
  refine ⟨fun x hx y hy => ?_, fun x hx => ?_⟩
  · have := h x hx
    simp only [Bool.and_eq_true, List.all_eq_true] at this
    exact this.1 y hy
  · have := h x hx
    rintro rfl
    simp at this
theorem minD_mem : ∀ (qs : List PyData) (p : PyData), PySem.W.minD p qs ∈ p :: qs
  | [], p => by simp [PySem.W.minD]
  | q :: qs, p => by
    have := minD_mem qs (if PySem.W.dataLt q p then q else p)
    have e : PySem.W.minD p (q :: qs) = PySem.W.minD (if PySem.W.dataLt q p then q else p) qs := rfl
    rw [e]
    rcases List.mem_cons.mp this with h | h
    · rw [h]; split <;> simp
    · simp [h]
section
variable {X : Cx}
theorem cg_minL (hc : X.calm = true) (hu : X.A.units + 64 < cLine) : CallR X (.builtin "min") (rGn X.K minLD) := by
  intro pins s σ H xs us Q I r ⟨Fb, m, ds, d, fr, vx, e, k⟩
  unfold minLD at e
  split at e
  · rename_i ys
    cases e0 : toPs ys with
    | none => rw [e0] at e; cases e
    | some ps =>
      rw [e0] at e
      simp only [Option.bind] at e
      split at e
      · rename_i p qs
        split at e
        · rename_i hh
          cases e
          obtain ⟨v, rfl, h⟩ := vx.one
          obtain ⟨a, vs, rfl, h1, z1, q1⟩ := h.asL
          obtain ⟨its, rv, hl, hz⟩ := I.list (SqL.of (K := X.K) h1)
          rw [Vals.ref1 r]
          obtain ⟨as, hr⟩ := Dp.readsAll I _ _ its (q1.dp e0) rv
          have hal := alikeB_ok hh.1
          refine PySem.W.min_list_data (I.ok.hd hc) hl.isList (by simpa using hr) hal (by have := hh.2; omega) fun i v h' tk bs hv rb hk => ?_
          have hv' : its[i]? = some v := by simpa using hv
          obtain ⟨w, ew, rw'⟩ : ∃ w, vs[i]? = some w ∧ RelV w v := by
            have hlen := rv.length
            have hi : i < vs.length := by rw [hlen]; exact (List.getElem?_eq_some_iff.mp hv').1
            obtain ⟨u, hu', ru⟩ := rv.get (List.getElem?_eq_getElem hi)
            rw [hv'] at hu'
            cases hu'
            exact ⟨_, List.getElem?_eq_getElem hi, ru⟩
          obtain ⟨dd, ed, rd⟩ := q1.getV ew
          obtain ⟨pp, ep, tp⟩ := toPs_get e0 ed
          have I' : Inv X pins σ H { s with heap := h', toks := tk } := I.kept hk
          obtain ⟨cs, r2⟩ := Dp.reads I' pp w v (rd.dp tp) rw'
          have hm : PySem.W.minD p qs ∈ p :: qs := minD_mem qs p
          have hpm : pp ∈ p :: qs := List.mem_of_getElem? ep
          have hq : pp = PySem.W.minD p qs := PySem.W.alike_unique _ _ _ _ _ (hal.1 _ hpm _ hm) r2 rb
          refine ⟨w, H, I', rw', k H w (Same.refl H) ?_⟩
          rw [← hq, ofP_toP tp]
          exact rd
        · cases e
      · cases e
  · cases e
end
end DL
set_option Elab.async false
set_option linter.all false
set_option maxRecDepth 100000
set_option maxHeartbeats 4000000
namespace DL
open PySem PySem.Spec PyProof.Rows L2
mutual
inductive Dq (K : PySem.W.Frag) (H : Hp) : V → PyData → Prop
  | non : Dq K H .non .none
  | bl (b : Bool) : Dq K H (.bl b) (.bool b)
  | int (i : Int) : Dq K H (.int i) (.int i)
  | str (x : Str) : Dq K H (.str x) (.str x)
  | lst {a : Addr} {xs : List V} {ds : List PyData} : SqL K H a xs → DqAll K H xs ds → Dq K H (.ref a) (.list ds)
  | tup {a : Addr} {xs : List V} {ds : List PyData} : SqT K H a xs → DqAll K H xs ds → Dq K H (.ref a) (.tuple ds)
  | dic {a : Addr} {kv : List (Key × V)} {kvs : List (PyData × PyData)} : Rd H a (.dK kv) → DqAll K H (kv.map fun p => kV p.1) (kvs.map (·.1)) → DqAll K H (kv.map (·.2)) (kvs.map (·.2)) → Dq K H (.ref a) (.dict kvs)
inductive DqAll (K : PySem.W.Frag) (H : Hp) : List V → List PyData → Prop
  | nil : DqAll K H [] []
  | cons {v : V} {vs : List V} {d : PyData} {ds : List PyData} : Dq K H v d → DqAll K H vs ds → DqAll K H (v :: vs) (d :: ds)
end
/-- sys.modules stands in the written part -/
def sysB (K : PySem.W.Frag) : Bool := match K.lookup sysModules with
  | some ⟨.type c, _, _, _⟩ => decide (c = "dict")
  | _ => false
section
variable {X : Cx} {pins : List (Addr × Obj)} {σ : L2.St} {H : Hp} {s : Shared}
theorem sys_none (I : Inv X pins σ H s) (h : sysB X.K = true) : H sysModules = none ∧ ∃ o, s.heap.get? sysModules = some o ∧ o.cls = .type "dict" := by
  unfold sysB at h
  split at h
  · rename_i c d dt sl e
    have h1 := I.mod.kin _ _ e
    exact ⟨(I.bs _ _ h1).2, _, (I.bs _ _ h1).1, by rw [of_decide_eq_true h]⟩
  · cases h
theorem sys_list (I : Inv X pins σ H s) (h : sysB X.K = true) {a : Addr} {xs : List V} (q : SqL X.K H a xs) : sysModules ≠ a := by
  rintro rfl
  obtain ⟨h1, o, h2, h3⟩ := sys_none I h
  obtain ⟨its, rv, hl, hz⟩ := I.list q
  obtain ⟨o', n, e1, e2, _⟩ := hl
  rw [h2] at e1
  cases e1
  rw [h3] at e2
  injection e2 with e2
  exact absurd e2 (by decide)
mutual
theorem Dq.reads (I : Inv X pins σ H s) (hs : sysB X.K = true) : ∀ {v : V} {d : PyData} {u : Value}, Dq X.K H v d → RelV v u → ∃ as, Reads s.heap u d as ∧ sysModules ∉ as
  | _, _, _, .non, r => by cases r; exact ⟨_, .none, by simp⟩
  | _, _, _, .bl b, r => by cases r; exact ⟨_, .bool b, by simp⟩
  | _, _, _, .int i, r => by obtain ⟨t, rfl⟩ := r; exact ⟨_, .int i t, by simp⟩
  | _, _, _, .str x, r => by obtain ⟨t, rfl⟩ := r; exact ⟨_, .str x t, by simp⟩
  | _, _, _, .lst hq ha, r => by
    cases r
    obtain ⟨its, rv, ⟨o, n, ho, hc, _, hd⟩, _⟩ := I.list hq
    obtain ⟨as, hr, hn⟩ := DqAll.reads I hs ha rv
    refine ⟨_, Reads.list ho hc hd hr, ?_⟩
    simp only [List.mem_cons, not_or]
    exact ⟨sys_list I hs hq, hn⟩
  | _, _, _, .tup hq ha, r => by
    cases r
    obtain ⟨its, rv, ⟨o, ho, hc, n, hd⟩, _⟩ := I.tuple hq
    obtain ⟨as, hr, hn⟩ := DqAll.reads I hs ha rv
    exact ⟨_, Reads.tuple ho hc hd hr, hn⟩
  | _, _, _, .dic (a := a) (kv := kv) hq hk hv, r => by
    obtain rfl : _ = Value.ref a := r
    obtain ⟨z, hne, vs, rel, o, es, ep, h1, h2, h3, h4, h5, h6⟩ := dk_rd I.hok hq
    have r1 : Vals (kv.map fun p => kV p.1) (es.toList.map (·.key)) := by
      have : ∀ {kv : List (Key × V)} {vs : List (Key × Value)} {es : List DictEntry}, KV kv vs → Pairs (mixKind X.prog X.w) es vs → Vals (kv.map fun p => kV p.1) (es.map (·.key)) := by
        intro kv vs es a b
        induction a generalizing es with
        | nil => cases b; exact .nil
        | cons hp _ ih =>
          cases b with
          | cons b1 b2 b3 =>
            refine .cons ?_ (ih b3)
            show L2.RelV (kV _) _
            rw [hp.1]
            exact relV_key b1
      exact this rel h5
    have r2 : Vals (kv.map (·.2)) (es.toList.map (·.val)) := by
      have : ∀ {kv : List (Key × V)} {vs : List (Key × Value)} {es : List DictEntry}, KV kv vs → Pairs (mixKind X.prog X.w) es vs → Vals (kv.map (·.2)) (es.map (·.val)) := by
        intro kv vs es a b
        induction a generalizing es with
        | nil => cases b; exact .nil
        | cons hp _ ih =>
          cases b with
          | cons b1 b2 b3 =>
            refine .cons ?_ (ih b3)
            exact (congrArg (fun z => L2.RelV _ z) b2).mpr hp.2
      exact this rel h5
    obtain ⟨as, q1, n1⟩ := DqAll.reads I hs hk r1
    obtain ⟨bs, q2, n2⟩ := DqAll.reads I hs hv r2
    refine ⟨_, Reads.dict h1 h2.1 h3 q1 q2, ?_⟩
    simp only [List.cons_append, List.mem_cons, List.mem_append, not_or]
    exact ⟨fun e => by rw [← e] at hne; simp at hne, n1, n2⟩
theorem DqAll.reads (I : Inv X pins σ H s) (hs : sysB X.K = true) : ∀ {vs : List V} {ds : List PyData} {us : List Value}, DqAll X.K H vs ds → Vals vs us → ∃ as, ReadsAll s.heap us ds as ∧ sysModules ∉ as
  | _, _, _, .nil, r => by cases r; exact ⟨_, .nil, by simp⟩
  | _, _, _, .cons h1 h2, r => by
    cases r with
    | cons r1 r2 =>
      obtain ⟨as, q1, n1⟩ := Dq.reads I hs h1 r1
      obtain ⟨bs, q2, n2⟩ := DqAll.reads I hs h2 r2
      exact ⟨_, .cons q1 q2, by simp only [List.mem_append, not_or]; exact ⟨n1, n2⟩⟩
end
end
def keyP : D → Option PyData
  | .int i => some (.int i)
  | .str x => some (.str x)
  | _ => none
mutual
/-- as data, the places read by r -/
def toQr (r : Nat → Option PyData) : D → Option PyData
  | .non => some .none
  | .bl b => some (.bool b)
  | .int i => some (.int i)
  | .str x => some (.str x)
  | .tup xs => (toQrs r xs).map .tuple
  | .lst xs => (toQrs r xs).map .list
  | .dic false kvs => (toQrk r kvs).map .dict
  | .ref n => r n
  | _ => none
def toQrs (r : Nat → Option PyData) : List D → Option (List PyData)
  | [] => some []
  | d :: ds => match toQr r d, toQrs r ds with
    | some p, some ps => some (p :: ps)
    | _, _ => none
def toQrk (r : Nat → Option PyData) : List (D × D) → Option (List (PyData × PyData))
  | [] => some []
  | (k, d) :: ds => match keyP k, toQr r d, toQrk r ds with
    | some q, some p, some ps => some ((q, p) :: ps)
    | _, _, _ => none
end
def rdQ (S : Sto) (n : Nat) : Option PyData := match S[n]? with
  | some (some (.lst xs)) => (toQrs (fun _ => none) xs).map .list
  | some (some (.dic false kvs)) => (toQrk (fun _ => none) kvs).map .dict
  | _ => none
def toQ (S : Sto) : D → Option PyData := toQr (rdQ S)
def reprQ (S : Sto) (d : D) : Option D := (toQ S d).bind fun p => if showsD p = true then some (.str p.shown) else none
def eReprQ (f : Ex) : Ex := fun ρ S => (f ρ S).bind fun d S => ans S (reprQ S d)
mutual
def smP : PyData → Bool
  | .none => true
  | .bool _ => true
  | .int i => decide (i.natAbs < 10 ^ 50)
  | .str _ => true
  | .tuple xs => smPs xs
  | .list xs => smPs xs
  | .dict kvs => smPk kvs
def smPs : List PyData → Bool
  | [] => true
  | d :: ds => smP d && smPs ds
def smPk : List (PyData × PyData) → Bool
  | [] => true
  | (k, d) :: ds => smP k && smP d && smPk ds
end
mutual
def wtP : PyData → Nat
  | .tuple xs => 1 + wtPs xs
  | .list xs => 1 + wtPs xs
  | .dict kvs => 1 + wtPk kvs
  | .str x => 1 + (reprText x).length / 15
  | _ => 1
def wtPs : List PyData → Nat
  | [] => 0
  | d :: ds => wtP d + wtPs ds
def wtPk : List (PyData × PyData) → Nat
  | [] => 0
  | (k, d) :: ds => wtP k + wtP d + wtPk ds
end
mutual
theorem small_P : ∀ p : PyData, smP p = true → p.showable = true ∧ p.depth ≤ wtP p ∧ p.shown.length + 2 ≤ 64 * wtP p
  | .none, _ => ⟨by simp [PyData.showable], by simp [PyData.depth, wtP], by simp only [PyData.shown, wtP]; decide⟩
  | .bool b, _ => ⟨by simp [PyData.showable], by simp [PyData.depth, wtP], by cases b <;> simp only [PyData.shown, wtP] <;> decide⟩
  | .int i, h => by
    have hi : i.natAbs < 10 ^ 50 := of_decide_eq_true h
    refine ⟨?_, by simp [PyData.depth, wtP], ?_⟩
    · simp only [PyData.showable]
      exact decide_eq_true (log2_small hi)
    · have h3 := int_text_length_le10 (k := 50) (by decide) hi
      have h4 : (PyData.shown (.int i)).length = (toString i).length := by
        show (Str.ofString (toString i)).length = _
        rw [PySem.ofString_length]
      simp only [wtP]
      omega
  | .str x, h => by
    refine ⟨by simp [PyData.showable], by simp [PyData.depth, wtP], ?_⟩
    simp only [PyData.shown, wtP]
    omega
  | .tuple ps, h => by
    obtain ⟨h1, h2, h3⟩ := small_Ps ps h
    have := tupleText_len_le (PyData.shownAll ps)
    have hl := PyData.shownAll_length ps
    refine ⟨by simpa [PyData.showable] using h1, by simp only [PyData.depth, wtP]; omega, ?_⟩
    simp only [PyData.shown, wtP]
    omega
  | .list ps, h => by
    obtain ⟨h1, h2, h3⟩ := small_Ps ps h
    have := listText_len_le (PyData.shownAll ps)
    have hl := PyData.shownAll_length ps
    refine ⟨by simpa [PyData.showable] using h1, by simp only [PyData.depth, wtP]; omega, ?_⟩
    simp only [PyData.shown, wtP]
    omega
  | .dict ps, h => by
    obtain ⟨h1, h2, h3⟩ := small_Pk ps h
    have := dictText_len_le (PyData.shownKv ps)
    refine ⟨by simpa [PyData.showable] using h1, by simp only [PyData.depth, wtP]; omega, ?_⟩
    simp only [PyData.shown, wtP]
    omega
theorem small_Ps : ∀ ps : List PyData, smPs ps = true → PyData.showableAll ps = true ∧ PyData.depthAll ps ≤ wtPs ps ∧ ((PyData.shownAll ps).map (·.length)).sum + 2 * ps.length ≤ 64 * wtPs ps
  | [], _ => ⟨by simp [PyData.showableAll], by simp [PyData.depthAll, wtPs], by simp [PyData.shownAll, wtPs]⟩
  | p :: ps, h => by
    simp only [smPs, Bool.and_eq_true] at h
    obtain ⟨a1, a2, a3⟩ := small_P p h.1
    obtain ⟨b1, b2, b3⟩ := small_Ps ps h.2
    refine ⟨by simp [PyData.showableAll, a1, b1], by simp only [PyData.depthAll, wtPs]; omega, ?_⟩
    simp only [PyData.shownAll, List.map_cons, List.sum_cons, List.length_cons, wtPs]
    omega
theorem small_Pk : ∀ ps : List (PyData × PyData), smPk ps = true → PyData.showableKv ps = true ∧ PyData.depthKv ps ≤ wtPk ps ∧ ((PyData.shownKv ps).map (·.length)).sum + 2 * (PyData.shownKv ps).length ≤ 64 * wtPk ps
  | [], _ => ⟨by simp [PyData.showableKv], by simp [PyData.depthKv, wtPk], by simp [PyData.shownKv, wtPk]⟩
  | (k, p) :: ps, h => by
    simp only [smPk, Bool.and_eq_true] at h
    obtain ⟨a1, a2, a3⟩ := small_P k h.1.1
    obtain ⟨c1, c2, c3⟩ := small_P p h.1.2
    obtain ⟨b1, b2, b3⟩ := small_Pk ps h.2
    refine ⟨by simp [PyData.showableKv, a1, c1, b1], by simp only [PyData.depthKv, wtPk]; omega, ?_⟩
    simp only [PyData.shownKv, List.map_cons, List.sum_cons, List.length_cons, wtPk]
    have e : (PyData.shown k ++ ": " ++ PyData.shown p).length = (PyData.shown k).length + 2 + (PyData.shown p).length := by
      rw [strLen_append, strLen_append]; rfl
    omega
end
theorem rep_smallQ {S : Sto} {d : D} {p : PyData} (e : toQ S d = some p) (h : smP p = true) (hw : wtP p ≤ 200000) (hd : p.depth ≤ 40) : reprQ S d = some (.str p.shown) := by
  obtain ⟨h1, h2, h3⟩ := small_P p h
  have hs : showsD p = true := by
    unfold showsD
    rw [h1, decide_eq_true (show p.depth ≤ 40 by omega), decide_eq_true (show p.shown.length ≤ 16000000 by omega)]
    rfl
  simp only [reprQ, e, Option.bind, hs, if_true]
end DL
set_option Elab.async false
set_option linter.all false
set_option maxRecDepth 100000
set_option maxHeartbeats 4000000
namespace DL
open PySem PySem.Spec PyProof.Rows L2
section
variable {K : PySem.W.Frag} {mg : Str → Option Value} {B : Addr → Prop} {m m' m1 m2 : List Addr} {S S' S1 S2 : Sto} {H H' H1 H2 : Hp}
theorem kp_writeD {Fb : Addr → Prop} {D : Addr} {u o : HO} (hD : H D = some u) (hn : ¬ Fixd u) (hF : Fb D) : Kp H (upd H D o) Fb Fb m m := by
  have ne : ∀ a, ¬ Fb a → a ≠ D := fun a f e => f (e ▸ hF)
  refine ⟨fun a xs h f => by rw [upd_ne (ne a f)]; exact h, fun a u h f => ?_, fun a o f h => ?_, fun _ _ _ f => f, fun _ _ h => h⟩
  · unfold Rd; rw [upd_ne (ne a f)]; exact h
  · have : a ≠ D := by
      rintro rfl
      rw [hD] at h
      cases h
      exact hn f
    rw [upd_ne this]; exact h
theorem Rl.writeD {D : Addr} {u o : HO} (r : Rl K mg (BD B D) m H S) (hD : H D = some u) (hn : ¬ Fixd u) : Rl K mg (BD B D) m (upd H D o) S := by
  have kp : Kp H (upd H D o) (Fo (BD B D) m S) (Fo (BD B D) m S) m m := kp_writeD hD hn (.inl (.inr rfl))
  have nD : ∀ a, Liv m S a → a ≠ D := fun a h e => r.nb a h (.inr e)
  have sm : ∀ a, H a ≠ none → upd H D o a ≠ none := fun a h => by
    by_cases e : a = D
    · subst e; rw [upd_same]; simp
    · rw [upd_ne e]; exact h
  refine ⟨r.len, r.nod, r.nb, fun a h => sm a (r.bt a h), fun a h => sm a (r.mt a h), fun n a u e1 e2 => ?_⟩
  have na : a ≠ D := nD a ⟨n, u, e1, e2⟩
  cases r.obj n a u e1 e2 with
  | lst h z q => exact .lst (by rw [upd_ne na]; exact h) z (q.kp kp)
  | dK h z e q => exact .dK (by rw [upd_ne na]; exact h) z e (q.kp kp)
  | dT h z e q => exact .dT (by rw [upd_ne na]; exact h) z e (q.kp kp)
  | ins g h e q => exact .ins g (by rw [upd_ne na]; exact h) e (q.kp kp)
end
end DL
set_option Elab.async false
set_option linter.all false
set_option maxRecDepth 100000
set_option maxHeartbeats 4000000
namespace DL
open PySem PySem.Spec PyProof.Rows L2
/-- the things at these places -/
def pick {α : Type} (is : List Nat) (xs : List α) : List α := is.filterMap fun i => xs[i]?
def eFnK (F : Fn) (is : List Nat) (dd : List D) (fs gs : List Ex) : Ex := fun ρ S => (evL fs ρ S).bind fun us S => (evL gs ρ S).bind fun zs S => F (pick is (us ++ (zs ++ dd))) S
end DL
set_option Elab.async false
set_option linter.all false
set_option maxRecDepth 100000
set_option maxHeartbeats 4000000
namespace DL
open PySem PySem.Spec PyProof PyProof.Rows L2 HT
def igAddA : D → D → Option D
  | .int i, .int j => some (.int (i + j))
  | .tup xs, .tup ys => if xs.length + ys.length ≤ sizeLine then some (.tup (xs ++ ys)) else none
  | _, _ => none
end DL
set_option Elab.async false
set_option linter.all false
set_option maxRecDepth 100000
set_option maxHeartbeats 4000000
namespace L2
open PySem PySem.Spec PyProof.Rows
end L2
namespace DL
open PySem PySem.Spec PyProof.Rows L2
end DL
set_option Elab.async false
set_option linter.all false
set_option maxRecDepth 100000
set_option maxHeartbeats 4000000
namespace DL
open PySem PySem.Spec PyProof.Rows L2
abbrev TB := List (Int × Int)
def kI (l : TB) : List (D × D) := l.map fun p => (.int p.1, .int p.2)
def dI (l : TB) : D := .dic false (kI l)
def getI : TB → Int → Option Int
  | [], _ => none
  | p :: l, k => if p.1 = k then some p.2 else getI l k
def putI (l : TB) (k v : Int) : TB := if (l.any fun p => decide (p.1 = k)) = true then l.map (fun p => if p.1 = k then (p.1, v) else p) else l ++ [(k, v)]
theorem unK_int (a k : Int) : (unK (.int a) = some (.inl k)) = (a = k) := by simp [unK]
theorem valD_I : ∀ (l : TB) (k : Int), valD (kI l) (.inl k) = (getI l k).map D.int
  | [], _ => rfl
  | p :: l, k => by
    have ih := valD_I l k
    unfold valD kI at ih ⊢
    simp only [List.map_cons, List.find?_cons, unK_int, getI]
    by_cases h : p.1 = k
    · simp [h]
    · simp only [h, decide_false, if_false]
      exact ih
theorem any_I (l : TB) (k : Int) : ((kI l).any fun p => decide (unK p.1 = some (.inl k))) = (l.any fun p => decide (p.1 = k)) := by
  unfold kI
  rw [List.any_map]
  congr 1
  funext p
  simp [unK]
theorem putD_I (l : TB) (k v : Int) : putD (kI l) (.inl k) (.int v) = kI (putI l k v) := by
  unfold putD putI
  rw [any_I]
  split
  · unfold kI
    rw [List.map_map, List.map_map]
    refine List.map_congr_left fun p _ => ?_
    simp only [Function.comp, unK_int]
    split <;> rfl
  · simp [kI, keyD]
theorem kI_len (l : TB) : (kI l).length = l.length := by simp [kI]
theorem getI_mem : ∀ {l : TB} {k v : Int}, getI l k = some v → (k, v) ∈ l
  | [], _, _, h => by cases h
  | p :: l, k, v, h => by
    unfold getI at h
    split at h
    · rename_i e
      cases h
      subst e
      simp
    · exact List.mem_cons_of_mem _ (getI_mem h)
theorem getI_none : ∀ {l : TB} {k : Int}, getI l k = none ↔ k ∉ l.map (·.1)
  | [], k => by simp [getI]
  | p :: l, k => by
    unfold getI
    have := @getI_none l k
    by_cases e : p.1 = k
    · simp [e]
    · rw [if_neg e, this, List.map_cons, List.mem_cons]
      have e' : ¬ k = p.1 := fun z => e z.symm
      simp only [e', false_or]
theorem asIs_I : ∀ xs : List Int, asIs (xs.map D.int) = some xs
  | [] => rfl
  | x :: xs => by simp only [List.map_cons, asIs, asIs_I xs]; rfl
theorem keys_I (l : TB) : (kI l).map (·.1) = (l.map (·.1)).map D.int := by simp [kI]
theorem vals_I (l : TB) : (kI l).map (·.2) = (l.map (·.2)).map D.int := by simp [kI]
theorem fVs_I : ∀ xs : List Int, fVs (xs.map .int) = some (xs.map .int)
  | [] => rfl
  | x :: xs => by simp only [List.map_cons, fVs, fV, fVs_I xs]
theorem inV_I (x : Int) (xs : List Int) : inV (.int x) (xs.map .int) = decide (x ∈ xs) := by
  unfold inV
  induction xs with
  | nil => simp
  | cons y ys ih =>
    rw [List.map_cons, List.any_cons, ih]
    have e : eqV (.int y) (.int x) = decide (x = y) := by
      show (y == x) = _
      rw [Bool.eq_iff_iff, beq_iff_eq, decide_eq_true_iff]
      exact ⟨Eq.symm, Eq.symm⟩
    rw [e]
    simp
abbrev I3 := Int × Int × Int
def d3 (t : I3) : D := .tup [.int t.1, .int t.2.1, .int t.2.2]
def p3 (t : I3) : PyData := .tuple [.int t.1, .int t.2.1, .int t.2.2]
def lt3 (a b : I3) : Bool := decide (a.1 < b.1) || (decide (a.1 = b.1) && (decide (a.2.1 < b.2.1) || (decide (a.2.1 = b.2.1) && (decide (a.2.2 < b.2.2) || (decide (a.2.2 = b.2.2) && false)))))
theorem toP_3 (t : I3) : toP (d3 t) = some (p3 t) := by simp [d3, p3, toP, toPs]
theorem lt_p3 (a b : I3) : PySem.W.dataLt (p3 a) (p3 b) = lt3 a b := by
  unfold p3 lt3
  rw [lt_tupI, lt_tupI, lt_tupI, lt_tup0]
theorem alike_3 (a b : I3) : PySem.W.alike (p3 a) (p3 b) = true := by simp [p3, PySem.W.alike, PySem.W.alikeAll]
theorem ltX_3 (a b : I3) : ltXD (d3 a) (d3 b) = some (.bl (lt3 a b)) := by
  have : cmpP (d3 a) (d3 b) = some (p3 a, p3 b) := by
    unfold cmpP
    rw [toP_3, toP_3]
    simp only [Option.bind]
    rw [if_pos ⟨alike_3 a b, rfl, by simp [p3, PyData.depth, PyData.depthAll]⟩]
  show (cmpP (d3 a) (d3 b)).map (fun z => D.bl (PySem.W.dataLt z.1 z.2)) = _
  rw [this]
  simp only [Option.map_some, lt_p3]
theorem lt3_iff (a b : I3) : lt3 a b = true ↔ a.1 < b.1 ∨ (a.1 = b.1 ∧ (a.2.1 < b.2.1 ∨ (a.2.1 = b.2.1 ∧ a.2.2 < b.2.2))) := by simp [lt3]
theorem lt3_tri {a b : I3} (h : lt3 a b = false) (h2 : lt3 b a = false) : a = b := by
  have h' : ¬ (lt3 a b = true) := by simp [h]
  have h2' : ¬ (lt3 b a = true) := by simp [h2]
  rw [lt3_iff] at h' h2'
  obtain ⟨a1, a2, a3⟩ := a
  obtain ⟨b1, b2, b3⟩ := b
  simp only [Prod.mk.injEq] at *
  omega
/-- the least of some -/
def Least (ts : List I3) (t : I3) : Prop := t ∈ ts ∧ ∀ u ∈ ts, lt3 u t = false
theorem Least.uniq {ts us : List I3} {t u : I3} (h : Least ts t) (h2 : Least us u) (e : ∀ x, x ∈ ts ↔ x ∈ us) : t = u := lt3_tri (h2.2 t ((e t).mp h.1)) (h.2 u ((e u).mpr h2.1))
section
variable {Q : D → Prop} {S : Sto} {n : Nat} {l : TB} {k v : Int} {xs ys : List Int} {y : D}
theorem vo_vwD1 {g : D → D → Option D} (h : S[n]? = some (some (.dic false (kI l)))) (q : Wo (g (view S (dI l)) y) Q) : Wo (g (view S (.ref n)) y) Q := by
  have : view S (.ref n) = view S (dI l) := by simp only [view, h]; rfl
  rw [this]; exact q
theorem vo_vwDc {g : List D → Option D} (h : S[n]? = some (some (.dic false (kI l)))) (q : Wo (g (List.map (view S) [dI l])) Q) : Wo (g (List.map (view S) [.ref n])) Q := by
  have : view S (.ref n) = view S (dI l) := by simp only [view, h]; rfl
  have e : List.map (view S) [.ref n] = List.map (view S) [dI l] := by simp only [List.map_cons, List.map_nil, this]
  rw [e]; exact q
theorem vo_ixI (h : getI l k = some v) (q : Q (.int v)) : Wo (ixD (view S (dI l)) (view S (.int k))) Q := by
  refine .of (d := .int v) ?_ q
  show (unK (.int k)).bind (valD (kI l)) = _
  show valD (kI l) (.inl k) = _
  rw [valD_I, h]; rfl
theorem vo_inT (q : Q (.bl (decide (k ∈ xs)))) : Wo (inD (view S (.int k)) (view S (.tup (xs.map .int)))) Q := by
  refine .of ?_ q
  show (inB (.int k) (.tup (xs.map .int))).map D.bl = _
  simp only [inB, fV, sqOf, fVs_I, Option.bind, Option.map_some, inV_I]
theorem vo_ninT (q : Q (.bl (!decide (k ∈ xs)))) : Wo (ninD (view S (.int k)) (view S (.tup (xs.map .int)))) Q := by
  refine .of ?_ q
  show (inB (.int k) (.tup (xs.map .int))).map _ = _
  simp only [inB, fV, sqOf, fVs_I, Option.bind, Option.map_some, inV_I]
theorem vo_inL (q : Q (.bl (decide (k ∈ xs)))) : Wo (inD (view S (.int k)) (view S (.lst (xs.map .int)))) Q := by
  refine .of ?_ q
  show (inB (.int k) (.lst (xs.map .int))).map D.bl = _
  simp only [inB, fV, sqOf, fVs_I, Option.bind, Option.map_some, inV_I]
theorem vo_ninL (q : Q (.bl (!decide (k ∈ xs)))) : Wo (ninD (view S (.int k)) (view S (.lst (xs.map .int)))) Q := by
  refine .of ?_ q
  show (inB (.int k) (.lst (xs.map .int))).map _ = _
  simp only [inB, fV, sqOf, fVs_I, Option.bind, Option.map_some, inV_I]
theorem has_dec (l : TB) (k : Int) : (getI l k).isSome = decide (k ∈ l.map (·.1)) := by
  cases e : getI l k with
  | none => have := getI_none.mp e; simp [this]
  | some v => have := List.mem_map_of_mem (f := (·.1)) (getI_mem e); simp only [Option.isSome_some]; exact (decide_eq_true this).symm
theorem vo_inI (q : Q (.bl (decide (k ∈ l.map (·.1))))) : Wo (inD (view S (.int k)) (view S (dI l))) Q := by
  refine .of ?_ q
  show ((unK (.int k)).map fun kk => (valD (kI l) kk).isSome).map D.bl = _
  show some (D.bl (valD (kI l) (.inl k)).isSome) = _
  rw [valD_I, Option.isSome_map, has_dec]
theorem vo_ninI (q : Q (.bl (!decide (k ∈ l.map (·.1))))) : Wo (ninD (view S (.int k)) (view S (dI l))) Q := by
  refine .of ?_ q
  show ((unK (.int k)).map fun kk => (valD (kI l) kk).isSome).map _ = _
  show some (D.bl (!(valD (kI l) (.inl k)).isSome)) = _
  rw [valD_I, Option.isSome_map, has_dec]
theorem vo_sortI (h : l.length < 64) (q : Q (.lst ((isI (l.map (·.1))).map .int))) : Wo (sortD (List.map (view S) [dI l])) Q := by
  refine .of ?_ q
  show (if (kI l).length < 64 then (asIs ((kI l).map (·.1))).map (fun ns => D.lst ((isI ns).map .int)) else none) = _
  rw [if_pos (by rw [kI_len]; exact h), keys_I, asIs_I]; rfl
theorem vo_sortL (q : Q (.lst ((isI xs).map .int))) : Wo (sortD (List.map (view S) [.lst (xs.map .int)])) Q := by
  refine .of ?_ q
  show (asIs (xs.map D.int)).map _ = _
  rw [asIs_I]; rfl
theorem vo_lenI (q : Q (.int l.length)) : Wo (lenD (List.map (view S) [dI l])) Q := by
  refine .of ?_ q
  show some (D.int (kI l).length) = _
  rw [kI_len]
theorem vo_lt3 {a b : I3} (q : Q (.bl (lt3 a b))) : Wo (ltXD (view S (d3 a)) (view S (d3 b))) Q := .of (ltX_3 a b) q
theorem vo_isNN (q : Q (.bl true)) : Wo (isD (view S .non) (view S .non)) Q := ⟨q⟩
theorem vo_is3N {a : I3} (q : Q (.bl false)) : Wo (isD (view S (d3 a)) (view S .non)) Q := ⟨q⟩
theorem vo_isTN {zs : List D} (q : Q (.bl false)) : Wo (isD (view S (.tup zs)) (view S .non)) Q := ⟨q⟩
theorem vo_isIN (q : Q (.bl false)) : Wo (isD (view S (.int k)) (view S .non)) Q := ⟨q⟩
theorem vo_igAddI {j : Int} (q : Q (.int (k + j))) : Wo (igAddA (view S (.int k)) (view S (.int j))) Q := ⟨q⟩
end
section
variable {Q : D → Sto → Prop} {E : Px} {ρ : Ev} {S : Sto} {o f x : Ex}
theorem wp_dnew (q : Q (.ref S.length) (S ++ [some (.dic false (kI []))])) : Wp (eDNew ρ S) Q E := ⟨q⟩
theorem wp_get2 (h : Wp (o ρ S) (fun d S1 => isDc (view S1 d) = true ∧ Wp (f ρ S1) (fun y S2 => Wp (x ρ S2) (fun z S3 => ∃ (l : TB) (k v : Int), view S3 d = dI l ∧ y = .int k ∧ z = .int v ∧ Q (.int ((getI l k).getD v)) S3) E) E) E) : Wp (eGet2 o f x ρ S) Q E := by
  refine wp_bind (h.mono fun d S1 h => ?_)
  rw [if_pos h.1]
  refine wp_bind (h.2.mono fun y S2 h => wp_bind (h.mono fun z S3 ⟨l, k, v, e2, e3, e4, q⟩ => ?_))
  subst e3 e4
  refine wp_ans (.of (d := .int ((getI l k).getD v)) ?_ q)
  rw [e2]
  show some ((valD (kI l) (.inl k)).getD (.int v)) = _
  rw [valD_I]
  cases getI l k <;> rfl
theorem ws_augI {Q : Fl → Sto → Prop} {E : Str → D → Ev → Sto → Prop} {e o i : Ex} (h : Wp (o ρ S) (fun d S1 => Wp (i ρ S1) (fun k S2 => ∃ (n : Nat) (l : TB) (j v : Int), d = .ref n ∧ k = .int j ∧ S2[n]? = some (some (.dic false (kI l))) ∧ getI l j = some v ∧ Wp (e ρ S2) (fun y S3 => ∃ w : Int, y = .int w ∧ S3[n]? = some (some (.dic false (kI l))) ∧ l.length < 16777216 ∧ Q (.nx ρ) (S3.set n (some (.dic false (kI (putI l j (v + w))))))) (fun c p S => E c p ρ S)) (fun c p S => E c p ρ S)) (fun c p S => E c p ρ S)) : Ws (sAugIx igAdd o i e ρ S) Q E :=
  ws_bind (h.mono fun d S1 h => ws_bind (h.mono fun k S2 ⟨n, l, j, v, e1, e2, h1, hg, hh⟩ => by
    subst e1 e2
    have ev : view S2 (.ref n) = .dic false (kI l) := by simp only [view, h1]
    rw [ev]
    have eg : dgetD (.dic false (kI l)) (.int j) = some (.int v) := by
      show (unK (.int j)).bind (valD (kI l)) = _
      show valD (kI l) (.inl j) = _
      rw [valD_I, hg]; rfl
    rw [eg]
    refine ws_bind (hh.mono fun y S3 ⟨w, ey, h3, h2, q⟩ => ?_)
    subst ey
    have e1 : dicOf S3 (.ref n) = some (n, kI l) := by simp only [dicOf, h3]
    have e4 : putAtD S3 (.ref n) (.int j) (.int (v + w)) = some (S3.set n (some (.dic false (kI (putI l j (v + w)))))) := by
      unfold putAtD
      rw [e1]
      show (if (kI l).length < sizeLine then some (S3.set n (some (.dic false (putD (kI l) (.inl j) (.int (v + w)))))) else none) = _
      rw [if_pos (by rw [kI_len, sizeLine_eq]; exact h2), putD_I]
    have e5 : igAdd (view S3 (.int v)) (view S3 (.int w)) = some (.int (v + w)) := rfl
    rw [e5]
    dsimp only
    rw [e4]
    exact ⟨q⟩))
theorem wi_valsI {Q : List D → Sto → Prop} {e : Ex} (h : Wp (e ρ S) (fun d S1 => ∃ l : TB, d = dI l ∧ Q ((l.map (·.2)).map D.int) S1) E) : Wp (iVals e ρ S) Q E := wp_bind (h.mono fun d S1 ⟨l, e, q⟩ => by
  subst e
  rw [← vals_I] at q
  exact ⟨q⟩)
theorem wi_itemsI {Q : List D → Sto → Prop} {e : Ex} (h : Wp (e ρ S) (fun d S1 => ∃ l : TB, d = dI l ∧ Q (l.map fun p => .tup [.int p.1, .int p.2]) S1) E) : Wp (iItems e ρ S) Q E := wp_bind (h.mono fun d S1 ⟨l, e, q⟩ => by
  subst e
  have : (kI l).map (fun p => D.tup [p.1, p.2]) = l.map fun p => .tup [.int p.1, .int p.2] := by simp [kI]
  rw [← this] at q
  exact ⟨q⟩)
theorem wp_reprQ {f : Ex} (h : Wp (f ρ S) (fun d S1 => ∃ p : PyData, toQ S1 d = some p ∧ smP p = true ∧ wtP p ≤ 200000 ∧ p.depth ≤ 40 ∧ Q (.str p.shown) S1) E) : Wp (eReprQ f ρ S) Q E :=
  wp_bind (h.mono fun d S1 ⟨p, h1, h2, h3, h4, q⟩ => wp_ans (.of (rep_smallQ h1 h2 h3 h4) q))
theorem wp_fnK {F : Fn} {is : List Nat} {dd : List D} {fs gs : List Ex} (h : Wp (evL fs ρ S) (fun us S1 => Wp (evL gs ρ S1) (fun zs S2 => Wp (F (pick is (us ++ (zs ++ dd))) S2) Q E) E) E) : Wp (eFnK F is dd fs gs ρ S) Q E :=
  wp_bind (h.mono fun us S1 h => wp_bind h)
end
end DL
set_option Elab.async false
set_option linter.all false
set_option maxRecDepth 100000
set_option maxHeartbeats 4000000
namespace DL
open PySem PySem.Spec PyProof.Rows L2
def sPar (i j : Nat) (fs : List Ex) : Sx := fun ρ S => (evL fs ρ S).bindS ρ fun ds S => match ds with
  | [a, b] => .fl (.nx ((ρ.set i (some a)).set j (some b))) S
  | _ => .bad
theorem finA.bindS {K : PySem.W.Frag} {mg : Str → Option Value} {W : WX} {B : Addr → Prop} {m : List Addr} {S : Sto} {σ : L2.St} {H : Hp} {ρ : Ev} {E : Ends} {r : R (List D)} {g : List D → Sto → RS} (re : RepE K H (Fo B m S) m σ ρ) (rl : Rl K mg B m H S) (h : finS K mg W B m S H (r.bindS ρ g) E) :
    finA K mg W B m S σ H r (fun v H1 => ∃ m1 S1 d, Post K mg B m S H m1 S1 H1 ∧ RepA K H1 (Fo B m1 S1) m1 v d ∧ finS K mg W B m1 S1 H1 (g d S1) E) := by
  cases r with
  | ok d S' => exact fun m' H' v p r => ⟨m', S', d, p, r, finS.later p h⟩
  | exc c p' S' => exact fun m' H' cls dd p x => h m' H' σ cls dd p (re.kp (p.kp rl)) x
  | bad => exact h
theorem sv_par {X : Cx} {W : WX} {i j : Nat} {x y : Str} {a b : Expr} {fs : List Ex} {px py pt pos : Pos} {kt k2 pt2} (hc : X.calm = true) (hN : X.N.Nodup) (hi : X.N[i]? = some x) (hj : X.N[j]? = some y) (hij : i ≠ j)
    (hx : X.env.scope.names.lookup x = some .local) (hy : X.env.scope.names.lookup y = some .local) (ha : EVA X W [a, b] fs)
    (hw : swappedStores [.Tuple [.Name x px, .Name y py] kt pt] (.Tuple [a, b] k2 pt2) X.env = pure (some [x, y]) := by rfl)
    (hs : swapsWithSole [.Tuple [.Name x px, .Name y py] kt pt] (.Tuple [a, b] k2 pt2) pos.line X.env = pure false := by rfl) :
    SV X W (.Assign [.Tuple [.Name x px, .Name y py] kt pt] (.Tuple [a, b] k2 pt2) pos) (sPar i j fs) := by
  refine ps_imp (ps_par hc hN hi hj hij hx hy ha hw hs) fun E σ H h => ?_
  obtain ⟨B, m, ρ, S, r, re, f⟩ := h
  refine ⟨B, m, ρ, S, r, re, finA.mono (finA.bindS re r f) fun vs H1 => ?_⟩
  rintro ⟨m1, S1, ds, p, q, f1⟩
  split at f1
  · rename_i d1 d2
    cases q with
    | cons q1 q' =>
      cases q' with
      | cons q2 q3 =>
        cases q3
        exact ⟨_, _, rfl, f1 m1 H1 _ (Post.refl p.rl) (((re.kp (p.kp r)).set q1).set q2)⟩
  · exact f1.elim
theorem ws_par {Q : Fl → Sto → Prop} {E : Str → D → Ev → Sto → Prop} {ρ : Ev} {S : Sto} {i j : Nat} {fs : List Ex} (h : Wp (evL fs ρ S) (fun ds S1 => ∃ a b, ds = [a, b] ∧ Q (.nx ((ρ.set i (some a)).set j (some b))) S1) (fun c p S => E c p ρ S)) : Ws (sPar i j fs ρ S) Q E :=
  ws_bind (h.mono fun ds S1 ⟨a, b, e, q⟩ => by subst e; exact ⟨q⟩)
def kA {α : Type} (f : α → D) (l : List (Int × α)) : List (D × D) := l.map fun p => (.int p.1, f p.2)
def dA {α : Type} (f : α → D) (l : List (Int × α)) : D := .dic false (kA f l)
def getA {α : Type} : List (Int × α) → Int → Option α
  | [], _ => none
  | p :: l, k => if p.1 = k then some p.2 else getA l k
def putA {α : Type} (l : List (Int × α)) (k : Int) (v : α) : List (Int × α) := if (l.any fun p => decide (p.1 = k)) = true then l.map (fun p => if p.1 = k then (p.1, v) else p) else l ++ [(k, v)]
section
variable {α : Type} {f : α → D}
theorem valD_A : ∀ (l : List (Int × α)) (k : Int), valD (kA f l) (.inl k) = (getA l k).map f
  | [], _ => rfl
  | p :: l, k => by
    have ih := valD_A l k
    unfold valD kA at ih ⊢
    simp only [List.map_cons, List.find?_cons, unK_int, getA]
    by_cases h : p.1 = k
    · simp [h]
    · simp only [h, decide_false, if_false]
      exact ih
theorem any_A (l : List (Int × α)) (k : Int) : ((kA f l).any fun p => decide (unK p.1 = some (.inl k))) = (l.any fun p => decide (p.1 = k)) := by
  unfold kA
  rw [List.any_map]
  congr 1
  funext p
  simp [unK]
theorem putD_A (l : List (Int × α)) (k : Int) (v : α) : putD (kA f l) (.inl k) (f v) = kA f (putA l k v) := by
  unfold putD putA
  rw [any_A]
  split
  · unfold kA
    rw [List.map_map, List.map_map]
    refine List.map_congr_left fun p _ => ?_
    simp only [Function.comp, unK_int]
    split <;> rfl
  · simp [kA, keyD]
theorem kA_len (l : List (Int × α)) : (kA f l).length = l.length := by simp [kA]
theorem keys_A (l : List (Int × α)) : (kA f l).map (·.1) = (l.map (·.1)).map D.int := by simp [kA]
theorem getA_mem : ∀ {l : List (Int × α)} {k : Int} {v : α}, getA l k = some v → (k, v) ∈ l
  | [], _, _, h => by cases h
  | p :: l, k, v, h => by
    unfold getA at h
    split at h
    · rename_i e
      cases h
      subst e
      simp
    · exact List.mem_cons_of_mem _ (getA_mem h)
theorem getA_none : ∀ {l : List (Int × α)} {k : Int}, getA l k = none ↔ k ∉ l.map (·.1)
  | [], k => by simp [getA]
  | p :: l, k => by
    unfold getA
    have := @getA_none l k
    by_cases e : p.1 = k
    · simp [e]
    · rw [if_neg e, this, List.map_cons, List.mem_cons]
      have e' : ¬ k = p.1 := fun z => e z.symm
      simp only [e', false_or]
theorem putA_new {l : List (Int × α)} {k : Int} {v : α} (h : k ∉ l.map (·.1)) : putA l k v = l ++ [(k, v)] := by
  unfold putA
  have : ¬ (l.any fun p => decide (p.1 = k)) = true := fun z => h (by
    obtain ⟨p, h1, h2⟩ := List.any_eq_true.mp z
    exact List.mem_map.mpr ⟨p, h1, of_decide_eq_true h2⟩)
  rw [if_neg this]
end
section
variable {α : Type} {f : α → D} {Q : D → Prop} {S : Sto} {n : Nat} {l : List (Int × α)} {k : Int} {v : α} {y : D}
theorem vo_vwA1 {g : D → D → Option D} (h : S[n]? = some (some (.dic false (kA f l)))) (q : Wo (g (view S (dA f l)) y) Q) : Wo (g (view S (.ref n)) y) Q := by
  have : view S (.ref n) = view S (dA f l) := by simp only [view, h]; rfl
  rw [this]; exact q
theorem vo_vwAc {g : List D → Option D} (h : S[n]? = some (some (.dic false (kA f l)))) (q : Wo (g (List.map (view S) [dA f l])) Q) : Wo (g (List.map (view S) [.ref n])) Q := by
  have : view S (.ref n) = view S (dA f l) := by simp only [view, h]; rfl
  have e : List.map (view S) [.ref n] = List.map (view S) [dA f l] := by simp only [List.map_cons, List.map_nil, this]
  rw [e]; exact q
theorem vo_ixA (h : getA l k = some v) (q : Q (f v)) : Wo (ixD (view S (dA f l)) (view S (.int k))) Q := by
  refine .of (d := f v) ?_ q
  show valD (kA f l) (.inl k) = _
  rw [valD_A, h]; rfl
theorem vo_sortA (h : l.length < 64) (q : Q (.lst ((isI (l.map (·.1))).map .int))) : Wo (sortD (List.map (view S) [dA f l])) Q := by
  refine .of ?_ q
  show (if (kA f l).length < 64 then (asIs ((kA f l).map (·.1))).map (fun ns => D.lst ((isI ns).map .int)) else none) = _
  rw [if_pos (by rw [kA_len]; exact h), keys_A, asIs_I]; rfl
theorem vo_lenA (q : Q (.int l.length)) : Wo (lenD (List.map (view S) [dA f l])) Q := by
  refine .of ?_ q
  show some (D.int (kA f l).length) = _
  rw [kA_len]
end
section
variable {α : Type} {f : α → D} {Q : D → Sto → Prop} {E : Px} {ρ : Ev} {S : Sto} {o g x : Ex}
theorem ws_setA (f : α → D) {Q : Fl → Sto → Prop} {E : Str → D → Ev → Sto → Prop} {e o i : Ex} (h : Wp (e ρ S) (fun z S1 => Wp (o ρ S1) (fun d S2 => Wp (i ρ S2) (fun k S3 => ∃ (n : Nat) (l : List (Int × α)) (j : Int) (v : α), d = .ref n ∧ k = .int j ∧ z = f v ∧ S3[n]? = some (some (.dic false (kA f l))) ∧ l.length < 16777216 ∧ Q (.nx ρ) (S3.set n (some (.dic false (kA f (putA l j v)))))) (fun c p S => E c p ρ S)) (fun c p S => E c p ρ S)) (fun c p S => E c p ρ S)) : Ws (sSetIx o i e ρ S) Q E :=
  ws_bind (h.mono fun z S1 h => ws_bind (h.mono fun d S2 h => ws_bind (h.mono fun k S3 ⟨n, l, j, v, e1, e2, e3, h1, h2, q⟩ => by
    subst e1 e2 e3
    have e0 : lstOf S3 (.ref n) = none := by simp only [lstOf, h1]
    have e1 : dicOf S3 (.ref n) = some (n, kA f l) := by simp only [dicOf, h1]
    have e4 : putAtD S3 (.ref n) (.int j) (f v) = some (S3.set n (some (.dic false (kA f (putA l j v))))) := by
      unfold putAtD
      rw [e1]
      show (if (kA f l).length < sizeLine then some (S3.set n (some (.dic false (putD (kA f l) (.inl j) (f v))))) else none) = _
      rw [if_pos (by rw [kA_len, sizeLine_eq]; exact h2), putD_A]
    rw [e0]
    dsimp only
    rw [e4]
    exact ⟨q⟩)))
theorem ws_frzA {Q : Fl → Sto → Prop} {E : Str → D → Ev → Sto → Prop} {i n : Nat} {s : Sx} {kvs : List (D × D)} (h0 : ρ[i]? = some (some (.ref n))) (h1 : S[n]? = some (some (.dic false kvs))) (h : Ws (s (ρ.set i (some (.dic false kvs))) (S.set n none)) Q E) : Ws (sFrz i s ρ S) Q E := by
  unfold sFrz
  simp only [h0, h1]
  exact h
end
end DL
set_option Elab.async false
set_option linter.all false
set_option maxRecDepth 100000
set_option maxHeartbeats 4000000
namespace DL
open PySem PySem.Spec PyProof.Rows L2
end DL
set_option Elab.async false
set_option linter.all false
set_option maxRecDepth 100000
set_option maxHeartbeats 4000000
namespace DL
open PySem PySem.Spec PyProof.Rows L2
end DL
set_option Elab.async false
set_option linter.all false
set_option maxRecDepth 100000
set_option maxHeartbeats 4000000
namespace DL
open PySem PySem.Spec PyProof.Rows L2
section
variable {P : Program} {w : World} {A : Around} {E : Value → Shared → Prop} {s : Shared}
set_option maxRecDepth 100000 in
set_option maxHeartbeats 3200000 in
theorem call_set_listI {l : Addr} {items : Array Value} (ns : List Int) {Q : Value → Shared → Prop} (hh : A.handled = none) (hl : s.heap.IsList l items) (hit : IntsAre items.toList ns) (hb : ns.length + 1 < scanBound)
    (h : ∀ (h' : Heap) (tk c : Nat), SetR w h' s.heap.objs.size (fun j => decide (j ∈ ns)) c → c ≤ ns.length → (∀ b o, s.heap.get? b = some o → h'.get? b = some o) → Q (.ref s.heap.objs.size) { s with heap := h', toks := tk }) :
    wpAny (model P w) A (call (.type "set") [.ref l]) Q E s := by
  have hisz : items.size = ns.length := by
    have q := IntsAre.length hit
    rw [Array.length_toList] at q
    exact q
  obtain ⟨c, tl, hmro⟩ := F.called_set.mro
  have hmade := F.called_set.made
  have hsub := F.called_set.sub
  refine wpAny_call (codeAny_of_tree ?_)
  show wpAny _ _ (callAny (.type "set") _) _ _ _
  refine wpAny_pure ⟨Code.quiet_builtin _ (by decide +kernel), codeAny_builtin F.entry_type_call ?_⟩
  rw [Around.under_plain (weight_type_call_type "set" [.ref l] []) rfl]
  have h1 := F.called_set.notType
  have h2 := F.called_set.canCreate
  have hct := F.typeCall_set_1 (.ref l)
  repeat (any_goals (first | assumption | wp_step))

  refine codeAny_mono (code_set_led1 (.ref l) (E := E) (Q₁ := fun obj s₁ => obj = .ref s.heap.objs.size ∧ s₁ = { s with heap := s.heap.push { cls := .type "set", dict := none, data := .set #[] 0 (.fresh 0 0 (!w.params.followText "set-order")) } }) ⟨rfl, rfl⟩) fun r s₁ hr => ?_
  cases r with
  | error e => exact hr
  | ok fl =>
    cases fl with
    | ret obj =>
      obtain ⟨rfl, rfl⟩ := hr
      have hS : (s.heap.push { cls := .type "set", dict := none, data := .set #[] 0 (.fresh 0 0 (!w.params.followText "set-order")) }).get? s.heap.objs.size = some { cls := .type "set", dict := none, data := .set #[] 0 (.fresh 0 0 (!w.params.followText "set-order")) } := Heap.get?_push_size _ rfl
      have hT : Shared.TypeIs { s with heap := s.heap.push { cls := .type "set", dict := none, data := .set #[] 0 (.fresh 0 0 (!w.params.followText "set-order")) } } (.ref s.heap.objs.size) "set" := ⟨_, hS, rfl⟩
      have hli := F.called_set.init.lookup
      have hbi := F.called_set.init.bind (.ref s.heap.objs.size)
      repeat (any_goals (first | assumption | wp_step))

      refine codeAny_mono (codeAny_call_builtin (R := wants (fun r s₂ => r = .none ∧ ∃ h' tk c, s₂ = { s with heap := h', toks := tk } ∧ SetR w h' s.heap.objs.size (fun j => decide (j ∈ ns)) c ∧ c ≤ ns.length ∧
          (∀ b o, s.heap.get? b = some o → h'.get? b = some o)) E) F.called_set.init.plain F.entry_set_init (check_set_init_1 hT ?_)) fun r₂ s₂ hr₂ => ?_
      · obtain ⟨ol, hol, hcl, nl, hdl⟩ := hl
        obtain ⟨ocls, odict, odata, oslots⟩ := ol
        simp only at hcl hdl
        subst hcl; subst hdl
        have hol' : (s.heap.push { cls := .type "set", dict := none, data := .set #[] 0 (.fresh 0 0 (!w.params.followText "set-order")) }).get? l = some { cls := .type "list", dict := odict, data := .seq items nl, slots := oslots } := Heap.get?_push_of_some _ hol
        have hsls := F.sub_list_set
        have hslf := F.sub_list_frozenset
        have hne : (Value.type "list" == Value.type "dict") = false := by decide
        have hl1 : (s.heap.push { cls := .type "set", dict := none, data := .set #[] 0 (.fresh 0 0 (!w.params.followText "set-order")) }).IsList l items := ⟨_, hol', rfl, nl, rfl⟩
        unfold Builtin.«set.__init__» noKeywords Builtin.Frozenset.updateFrom
        generalize hPI : pyIter = PI
        wp_walk
        subst hPI

        refine wpAny_pyIter_list hl1 ?_
        refine wpAny_bind (wpAny_runValue ?_)
        have hlS : l < s.heap.objs.size := Heap.lt_size hol
        have hh3 : A.in1.in1.in1.handled = none := by simp [hh]
        have hz1 : (s.heap.push { cls := .type "set", dict := none, data := .set #[] 0 (.fresh 0 0 (!w.params.followText "set-order")) }).objs.size = s.heap.objs.size + 1 := Heap.size_push ..
        have hneI : l ≠ (s.heap.push { cls := .type "set", dict := none, data := .set #[] 0 (.fresh 0 0 (!w.params.followText "set-order")) }).objs.size := by
          rw [Heap.size_push]; exact Nat.ne_of_lt (Nat.lt_succ_of_lt hlS)
        have hSf : s.heap.objs.size ∉ [(s.heap.push { cls := .type "set", dict := none, data := .set #[] 0 (.fresh 0 0 (!w.params.followText "set-order")) }).objs.size, l] := by
          rw [Heap.size_push]; simp only [List.mem_cons, List.mem_singleton, List.not_mem_nil, or_false, not_or]
          exact ⟨Nat.ne_of_lt (Nat.lt_succ_self _), Nat.ne_of_gt hlS⟩
        have hval : ∀ (i : Nat) (v : Value), items[i]? = some v → ∃ k t, ns[i]? = some k ∧ v = .int k t := fun i v hv => by
          have hi : i < ns.length := by rw [← hisz]; exact (Array.getElem?_eq_some_iff.mp hv).1
          obtain ⟨t, e⟩ := PyProof.Rows.IntsAre.int_at hit i v (by rw [Array.getElem?_toList]; exact hv)
          refine ⟨ns[i], t, List.getElem?_eq_getElem hi, ?_⟩
          rw [e, List.getD_eq_getElem?_getD, List.getElem?_eq_getElem hi] <;> rfl
        refine set_update_ints ((Walks.list hh3 _ l hneI items).toS) s.heap.objs.size
          hSf ns hisz hb hval (items.size - 0) 0 _ (by omega) (Nat.zero_le _)
          ⟨⟨_, Heap.get?_push_size _ rfl, rfl, rfl⟩, (hl1.push _)⟩ ?hS0 ?hR
        case hS0 =>
          have hget : ((s.heap.push { cls := .type "set", dict := none, data := .set #[] 0 (.fresh 0 0 (!w.params.followText "set-order")) }).push { cls := .type "list_iterator", data := .fields #[.ref l, .int 0 0] }).get? s.heap.objs.size
              = some { cls := .type "set", dict := none, data := .set #[] 0 (.fresh 0 0 (!w.params.followText "set-order")) } := Heap.get?_push_of_some _ hS
          exact ⟨0, Nat.le_refl 0, setR_new_at hget⟩
        case hR =>
          intro s' c' hm hc' hS'
          obtain ⟨h', g2, d', tk', os'⟩ := s'
          have eg : g2 = s.gens := hm.gens
          have ed : d' = s.drawn := hm.drawn
          have eo : os' = s.os := hm.os
          subst eg; subst ed; subst eo
          show wpAny _ _ _ _ _ _
          refine wpAny_pure ?_
          show wpAny _ _ (ret Value.none) _ _ _
          rw [hisz] at hc'
          refine wpAny_pure ⟨rfl, h', tk', c', rfl, hS', hc', fun b o e => ?_⟩
          have hb0 : b < s.heap.objs.size := Heap.lt_size e
          have hb1 : b ≠ s.heap.objs.size := Nat.ne_of_lt hb0
          have hb2 : b ≠ (s.heap.push { cls := .type "set", dict := none, data := .set #[] 0 (.fresh 0 0 (!w.params.followText "set-order")) }).objs.size := by
            rw [Heap.size_push]; exact Nat.ne_of_lt (Nat.lt_succ_of_lt hb0)
          exact hm.heap b o (by simp only [List.mem_cons, List.mem_singleton, List.not_mem_nil, or_false, not_or]; exact ⟨hb1, hb2⟩) (Heap.get?_push_of_some _ (Heap.get?_push_of_some _ e))

      · cases r₂ with
        | error e => exact hr₂
        | ok fl₂ =>
          cases fl₂ with
          | ret r =>
            obtain ⟨rfl, h', tk, c', rfl, hS', hc', hk'⟩ := hr₂
            repeat (any_goals (first | assumption | wp_step))
            exact h _ _ _ hS' hc' hk'
          | _ => exact hr₂.elim
    | _ => exact hr.elim
end
end DL
set_option Elab.async false
set_option linter.all false
set_option maxRecDepth 100000
set_option maxHeartbeats 4000000
namespace DL
open PySem PySem.Spec PyProof.Rows L2
def ded : List Int → List Int
  | [] => []
  | x :: xs => if x ∈ xs then ded xs else x :: ded xs
theorem ded_mem : ∀ {xs : List Int} {k : Int}, k ∈ ded xs ↔ k ∈ xs
  | [], k => by simp [ded]
  | x :: xs, k => by
    unfold ded
    have := @ded_mem xs k
    split
    · rename_i h
      rw [this, List.mem_cons]
      exact ⟨.inr, fun z => z.elim (fun e => e ▸ h) id⟩
    · rw [List.mem_cons, List.mem_cons, this]
theorem ded_nodup : ∀ xs : List Int, (ded xs).Nodup
  | [] => List.nodup_nil
  | x :: xs => by
    unfold ded
    split
    · exact ded_nodup xs
    · rename_i h
      exact List.nodup_cons.mpr ⟨fun z => h (ded_mem.mp z), ded_nodup xs⟩
theorem ded_len : ∀ xs : List Int, (ded xs).length ≤ xs.length
  | [] => by simp [ded]
  | x :: xs => by
    unfold ded
    have := ded_len xs
    split <;> simp <;> omega
def suI (ns : List Int) : List Int := isI (ded ns)
theorem su_mem {ns : List Int} {k : Int} : k ∈ suI ns ↔ k ∈ ns := by
  unfold suI
  rw [(isI_perm _).mem_iff, ded_mem]
theorem su_len (ns : List Int) : (suI ns).length ≤ ns.length := by
  unfold suI
  rw [isI_len]
  exact ded_len ns
theorem su_uniq {ns ms : List Int} (h : ms.Pairwise (· < ·)) (hm : ∀ k : Int, k ∈ ms ↔ k ∈ ns) : ms = suI ns := by
  have hn : ms.Nodup := h.imp fun h => by omega
  have hp : ms.Perm (ded ns) := (List.perm_ext_iff_of_nodup hn (ded_nodup ns)).mpr fun k => (hm k).trans ded_mem.symm
  exact isI_uniq hp (h.imp fun h => by omega)
def sqI : D → Option (List Int)
  | .lst xs => asIs xs
  | .tup xs => asIs xs
  | _ => none
def rSetL (X : Cx) : List V → Hp → VK → Prop := fun xs H Q => ∃ (a : Addr) (ns : List Int), xs = [.ref a] ∧ (SqL X.K H a (ns.map V.int) ∨ SqT X.K H a (ns.map V.int)) ∧ ns.length < 4000 ∧ ∀ p c, H p = none → c = (ded ns).length → Q (.ref p) (upd H p (SetO X.w p (fun j => decide (j ∈ ns)) c))
section
variable {X : Cx} {W : WX} {e : Expr} {fe : Ex} {p p2 q pos : Pos}
theorem setR_count {w : World} {h : Heap} {a : Addr} {ns : List Int} {c : Nat} (R : SetR w h a (fun j => decide (j ∈ ns)) c) : c = (ded ns).length := by
  obtain ⟨o, es, ep, t, ho, hx, hd, g, nd, hm, hb, hf, hn, _⟩ := R
  have hp : (es.toList.map keyOf).Perm (ded ns) := (List.perm_ext_iff_of_nodup nd (ded_nodup ns)).mpr fun k => by
    rw [← hm k, decide_eq_true_eq, ded_mem]
  have := hp.length_eq
  rw [List.length_map, Array.length_toList] at this
  omega
theorem cr_setL (hc : X.calm = true) : CallR X (.type "set") (rSetL X) := by
  intro pins s σ H xs us Q I r ⟨a, ns, ex, h, hl, k⟩
  subst ex
  rw [Vals.ref1 r]
  have hd := I.ok.hd hc
  have fin : ∀ (h' : Heap) (tk c : Nat), SetR X.w h' s.heap.objs.size (fun j => decide (j ∈ ns)) c → c ≤ ns.length → (∀ b o, s.heap.get? b = some o → h'.get? b = some o) → EP X pins σ Q (.ref s.heap.objs.size) { s with heap := h', toks := tk } := fun h' tk c R hcn kp =>
    ⟨.ref _, upd H s.heap.objs.size (SetO X.w s.heap.objs.size (fun j => decide (j ∈ ns)) c), I.laid kp (Nat.le_refl _) (setO_new R), rfl, k _ c (I.hok.fresh (Nat.le_refl _)) (setR_count R)⟩
  rcases h with h | h
  · obtain ⟨its, rv, pl, hz⟩ := I.list h
    exact call_set_listI ns hd (show s.heap.IsList a its.toArray from pl.isList) (ints_of_vals rv) (by unfold scanBound; omega) fin
  · obtain ⟨its, rv, pt, hz⟩ := I.tuple h
    exact call_set_tupI ns hd (show s.heap.IsTuple a its.toArray from pt) (ints_of_vals rv) (by unfold scanBound; omega) fin
theorem su_lt (ns : List Int) : (suI ns).Pairwise (· < ·) := by
  have h1 := isI_pw (ded ns)
  have h2 : (suI ns).Nodup := (isI_perm _).nodup_iff.mpr (ded_nodup ns)
  exact (h1.and h2).imp fun {a b} h => by have := h.2; omega
end
end DL
set_option Elab.async false
set_option linter.all false
set_option maxRecDepth 100000
set_option maxHeartbeats 4000000
namespace DL
open PySem PySem.Spec PyProof.Rows L2
def compL2 (t : Tg) (tt : Tx) (fi1 : Ix) (t1 : Tg) (tt1 : Tx) (e : Ex) (vs vs1 : List Nat) : List D → Ev → Sto → List D → R (List D)
  | [], _, S, acc => .ok acc S
  | d :: ds, ρ, S, acc => match t.put d (wipeD ρ vs) with
    | none => .bad
    | some ρ1 => (tt ρ1 S).nox.bind fun b S => if b = true then (fi1 ρ1 S).nox.bind fun ys S => (compL t1 tt1 e vs1 ys ρ1 S acc).bind fun acc S => compL2 t tt fi1 t1 tt1 e vs vs1 ds ρ S acc else compL2 t tt fi1 t1 tt1 e vs vs1 ds ρ S acc
def eComp2 (it : Ix) (t : Tg) (tt : Tx) (fi1 : Ix) (t1 : Tg) (tt1 : Tx) (e : Ex) (vs vs1 : List Nat) : Ex := fun ρ S => (it ρ S).bind fun xs S => (compL2 t tt fi1 t1 tt1 e vs vs1 xs ρ S []).bind fun acc S => .ok (.lst acc) S
section
variable {W : WX} {fi fi1 : Ix} {t t1 : Tg} {tt tt1 : Tx} {fe : Ex}
/-- what stands while the new list at D grows; cont what is left to do -/
def Pk (K : PySem.W.Frag) (mg : Str → Option Value) (W : WX) (B : Addr → Prop) (m1 : List Addr) (S1 : Sto) (σ : L2.St) (H1 : Hp) (Q : VK) (D : Addr) (Fin : List DL.D → Sto → R DL.D) (m0 : List Addr) (S0 : Sto) (H0 : Hp) (cont : Sto → List DL.D → R (List DL.D)) (H : Hp) : Prop :=
  ∃ m2 S2 acc ds, Pc m1 S1 H1 m2 S2 H ∧ Kp H1 H (Fo B m1 S1) (Fo (BD B D) m2 S2) m1 m2 ∧ Kp H0 H (Fo (BD B D) m0 S0) (Fo (BD B D) m2 S2) m0 m2 ∧ Rl K mg (BD B D) m2 H S2 ∧ H D = some (.lst acc) ∧ RepA K H (Fo (BD B D) m2 S2) m2 acc ds ∧ acc.length ≤ sizeLine ∧ D ∉ m2 ∧ fin K mg W B m1 S1 σ H1 ((cont S2 ds).bind Fin) Q
theorem lc2_of {K : PySem.W.Frag} {mg : Str → Option Value} {σ : L2.St} {H : Hp} {Q : VK} {vs vs1 : List Nat} {Fin : List D → Sto → R D} (hv : ∀ i ∈ t.sl, i ∈ vs) (hv1 : ∀ i ∈ t1.sl, i ∈ vs1) (h : up K mg W (fun ρ S => (fi ρ S).bind fun xs S => (compL2 t tt fi1 t1 tt1 fe vs vs1 xs ρ S []).bind Fin) σ H Q)
    (hf : ∀ B m1 S1 H1 m2 S2 H2 D acc ds, Rl K mg B m1 H1 S1 → H1 D = none → Pc m1 S1 H1 m2 S2 H2 → Rl K mg (BD B D) m2 H2 S2 → H2 D = some (.lst acc) → RepA K H2 (Fo (BD B D) m2 S2) m2 acc ds → acc.length ≤ sizeLine → D ∉ m2 → fin K mg W B m1 S1 σ H1 (Fin ds S2) Q → Q (.ref D) H2) :
    tLc2 (upI K mg W fi) (Tg.rd K t) (upT K mg W0 tt) (upI K mg W0 fi1) (Tg.rd K t1) (upT K mg W0 tt1) (up K mg W0 fe) vs vs1 σ H Q := by
  obtain ⟨B, m, ρ, S, r, re, f⟩ := h
  refine ⟨B, m, ρ, S, r, re, finI.mono (finI.bind f) fun J H1 => ?_⟩
  rintro ⟨m1, S1, xs, p1, itr, f1⟩ D hD
  have re1 := re.kp (p1.kp r)
  have k0 := kp_aside (B := B) (m := m1) (S := S1) (o := .lst []) hD
  refine ⟨fun i n H => n = xs.length - i ∧ i ≤ xs.length ∧ ∃ m2 S2 acc ds, Pc m1 S1 H1 m2 S2 H ∧ Kp H1 H (Fo B m1 S1) (Fo (BD B D) m2 S2) m1 m2 ∧ Rl K mg (BD B D) m2 H S2 ∧ H D = some (.lst acc) ∧ RepA K H (Fo (BD B D) m2 S2) m2 acc ds ∧ acc.length ≤ sizeLine ∧ D ∉ m2 ∧
      fin K mg W B m1 S1 σ H1 ((compL2 t tt fi1 t1 tt1 fe vs vs1 (xs.drop i) ρ S2 ds).bind Fin) Q,
    ⟨xs.length, by simp, Nat.zero_le _, m1, S1, [], [], (Post.refl p1.rl).pc.over hD, k0, p1.rl.aside hD, upd_same, .nil, by simp, fun z => p1.rl.mt D z hD, by simpa using f1⟩, ?_⟩
  rintro i n H2 ⟨rfl, hi, m2, S2, acc, ds, pc, kp, rl, hacc, qa, za, nD, f2⟩
  obtain ⟨go, stop⟩ := itr H2 _ m2 kp
  by_cases hlt : i < xs.length
  · right
    refine ⟨(go i hlt).1, fun H' => ∃ m3 S3 acc ds, Pc m1 S1 H1 m3 S3 H' ∧ Kp H1 H' (Fo B m1 S1) (Fo (BD B D) m3 S3) m1 m3 ∧ Rl K mg (BD B D) m3 H' S3 ∧ H' D = some (.lst acc) ∧ RepA K H' (Fo (BD B D) m3 S3) m3 acc ds ∧ acc.length ≤ sizeLine ∧ D ∉ m3 ∧
      fin K mg W B m1 S1 σ H1 ((compL2 t tt fi1 t1 tt1 fe vs vs1 (xs.drop (i + 1)) ρ S3 ds).bind Fin) Q, ?_, ?_⟩
    · rintro H' ⟨m3, S3, acc3, ds3, h3⟩
      exact ⟨_, by omega, rfl, hlt, m3, S3, acc3, ds3, h3⟩
    · intro x H3 y
      obtain ⟨d, ed, sm, rx⟩ := (go i hlt).2 x H3 y
      have p3 : Post K mg (BD B D) m2 S2 H2 m2 S2 H3 := Post.grow rl sm
      have kp3 := kp.trans (p3.kp rl)
      have ed' : xs[i] = d := by
        have := List.getElem?_eq_getElem hlt
        rw [this] at ed
        exact Option.some.inj ed
      rw [List.drop_eq_getElem_cons hlt, ed'] at f2
      unfold compL2 at f2
      cases e1 : t.put d (wipeD ρ vs) with
      | none => rw [e1] at f2; exact f2.elim
      | some ρ4 =>
        rw [e1] at f2
        dsimp only at f2
        refine Tg.rd_okP (A := fun σ' => L2.wipe σ' vs = L2.wipe σ vs) t (fun σ i v h1 h2 => by rw [wipe_set (hv i h1)]; exact h2) e1 rx ((re1.kp kp3).wipe vs) ?_ fun σ4 re4 a4 => ⟨a4, BD B D, m2, ρ4, S2, p3.rl, re4, ?_⟩
        · apply List.ext_getElem?
          intro j
          rw [wipe_get, wipe_get, wipe_length]
          by_cases h1 : j ∈ vs ∧ j < σ.length
          · simp [h1]
          · simp [h1]
        · rcases R.nox_ok (r := tt ρ4 S2) (g := fun b S => if b = true then (fi1 ρ4 S).nox.bind fun ys S => (compL t1 tt1 fe vs1 ys ρ4 S ds).bind fun acc S => compL2 t tt fi1 t1 tt1 fe vs vs1 (xs.drop (i + 1)) ρ S acc else compL2 t tt fi1 t1 tt1 fe vs vs1 (xs.drop (i + 1)) ρ S ds) with ⟨b, S5, e5, e6⟩ | e6
          · rw [e6] at f2
            rw [e5]
            intro m5 H5 p5
            have kp5 := kp3.trans (p5.kp p3.rl)
            have pc5 : Pc m1 S1 H1 m5 S5 H5 := (pc.trans p3.pc).trans p5.pc
            have hacc3 := p3.keep _ _ hacc fun z => rl.nb _ z (.inr rfl)
            have hacc5 : H5 D = some (.lst acc) := p5.keep _ _ hacc3 fun z => p3.rl.nb _ z (.inr rfl)
            have qa5 := (qa.kp (p3.kp rl)).kp (p5.kp p3.rl)
            have nD5 : D ∉ m5 := notin_ext nD p5.ext hacc3
            have re5 := re4.kp (p5.kp p3.rl)
            cases b with
            | false =>
              rw [if_neg Bool.false_ne_true] at f2 ⊢
              exact ⟨m5, S5, acc, ds, pc5, kp5, p5.rl, hacc5, qa5, za, nD5, f2⟩
            | true =>
              rw [if_pos rfl] at f2 ⊢
              rcases R.nox_ok (r := fi1 ρ4 S5) (g := fun ys S => (compL t1 tt1 fe vs1 ys ρ4 S ds).bind fun acc S => compL2 t tt fi1 t1 tt1 fe vs vs1 (xs.drop (i + 1)) ρ S acc) with ⟨ys, S6, e7, e8⟩ | e8
              · rw [e8] at f2
                refine ⟨BD B D, m5, ρ4, S5, p5.rl, re5, ?_⟩
                rw [e7]
                intro m6 H6 J1 p6 itr1
                have kp6 := kp5.trans (p6.kp p5.rl)
                have pc6 := pc5.trans p6.pc
                have hacc6 : H6 D = some (.lst acc) := p6.keep _ _ hacc5 fun z => p5.rl.nb _ z (.inr rfl)
                have qa6 := qa5.kp (p6.kp p5.rl)
                have nD6 : D ∉ m6 := notin_ext nD5 p6.ext hacc5
                have re6 := re5.kp (p6.kp p5.rl)
                clear kp5 pc5 hacc5 qa5 nD5 re5 e5 e6 e7 e8
                refine ⟨fun j n H => n = ys.length - j ∧ j ≤ ys.length ∧ Pk K mg W B m1 S1 σ H1 Q D Fin m6 S6 H6 (fun S ds => (compL t1 tt1 fe vs1 (ys.drop j) ρ4 S ds).bind fun acc S => compL2 t tt fi1 t1 tt1 fe vs vs1 (xs.drop (i + 1)) ρ S acc) H,
                  ⟨ys.length, by simp, Nat.zero_le _, m6, S6, acc, ds, pc6, kp6, ⟨fun _ _ h _ => h, fun _ _ h _ => h, fun _ _ _ h => h, fun _ _ _ f => f, fun _ _ h => h⟩, p6.rl, hacc6, qa6, za, nD6, by simpa using f2⟩, ?_⟩
                rintro j n H7 ⟨rfl, hj, m7, S7, acc7, ds7, pc7, kp7, kq7, rl7, hacc7, qa7, za7, nD7, f7⟩
                obtain ⟨go1, stop1⟩ := itr1 H7 _ m7 kq7
                by_cases hlt1 : j < ys.length
                · right
                  refine ⟨(go1 j hlt1).1, fun H' => Pk K mg W B m1 S1 σ H1 Q D Fin m6 S6 H6 (fun S ds => (compL t1 tt1 fe vs1 (ys.drop (j + 1)) ρ4 S ds).bind fun acc S => compL2 t tt fi1 t1 tt1 fe vs vs1 (xs.drop (i + 1)) ρ S acc) H', ?_, ?_⟩
                  · intro H' h'
                    exact ⟨_, by omega, rfl, hlt1, h'⟩
                  · intro x1 H8 y1
                    obtain ⟨d1, ed1, sm1, rx1⟩ := (go1 j hlt1).2 x1 H8 y1
                    have p8 : Post K mg (BD B D) m7 S7 H7 m7 S7 H8 := Post.grow rl7 sm1
                    have kq8 := kq7.trans (p8.kp rl7)
                    have kp8 := kp7.trans (p8.kp rl7)
                    have ed1' : ys[j] = d1 := by
                      have := List.getElem?_eq_getElem hlt1
                      rw [this] at ed1
                      exact Option.some.inj ed1
                    rw [List.drop_eq_getElem_cons hlt1, ed1'] at f7
                    unfold compL at f7
                    cases e9 : t1.put d1 (wipeD ρ4 vs1) with
                    | none => rw [e9] at f7; exact f7.elim
                    | some ρ9 =>
                      rw [e9] at f7
                      dsimp only at f7
                      refine Tg.rd_okP (A := fun σ' => L2.wipe σ' vs1 = L2.wipe σ4 vs1) t1 (fun σ i v h1 h2 => by rw [wipe_set (hv1 i h1)]; exact h2) e9 rx1 ((re6.kp kq8).wipe vs1) ?_ fun σ9 re9 a9 => ⟨a9, BD B D, m7, ρ9, S7, p8.rl, re9, ?_⟩
                      · apply List.ext_getElem?
                        intro j
                        rw [wipe_get, wipe_get, wipe_length]
                        by_cases h1 : j ∈ vs1 ∧ j < σ4.length
                        · simp [h1]
                        · simp [h1]
                      · rcases R.nox_ok (r := tt1 ρ9 S7) (g := fun b S => if b = true then (fe ρ9 S).nox.bind fun y S => if ds7.length < sizeLine then compL t1 tt1 fe vs1 (ys.drop (j + 1)) ρ4 S (ds7 ++ [y]) else .bad else compL t1 tt1 fe vs1 (ys.drop (j + 1)) ρ4 S ds7) with ⟨b, S10, e10, e11⟩ | e11
                        · rw [e11] at f7
                          rw [e10]
                          intro m10 H10 p10
                          have kq10 := kq8.trans (p10.kp p8.rl)
                          have kp10 := kp8.trans (p10.kp p8.rl)
                          have pc10 : Pc m1 S1 H1 m10 S10 H10 := (pc7.trans p8.pc).trans p10.pc
                          have hacc8 := p8.keep _ _ hacc7 fun z => rl7.nb _ z (.inr rfl)
                          have hacc10 : H10 D = some (.lst acc7) := p10.keep _ _ hacc8 fun z => p8.rl.nb _ z (.inr rfl)
                          have qa10 := (qa7.kp (p8.kp rl7)).kp (p10.kp p8.rl)
                          have nD10 : D ∉ m10 := notin_ext nD7 p10.ext hacc8
                          cases b with
                          | false =>
                            rw [if_neg Bool.false_ne_true] at f7 ⊢
                            exact ⟨m10, S10, acc7, ds7, pc10, kp10, kq10, p10.rl, hacc10, qa10, za7, nD10, f7⟩
                          | true =>
                            rw [if_pos rfl] at f7 ⊢
                            rcases R.nox_ok (r := fe ρ9 S10) (g := fun y S => if ds7.length < sizeLine then compL t1 tt1 fe vs1 (ys.drop (j + 1)) ρ4 S (ds7 ++ [y]) else .bad) with ⟨z, S11, e12, e13⟩ | e13
                            · rw [e13] at f7
                              refine ⟨BD B D, m10, ρ9, S10, p10.rl, re9.kp (p10.kp p8.rl), ?_⟩
                              rw [e12]
                              intro m11 H11 v p11 rv
                              have hacc11 : H11 D = some (.lst acc7) := p11.keep _ _ hacc10 fun z => p10.rl.nb _ z (.inr rfl)
                              split at f7
                              · rename_i hz
                                have hl : acc7.length = ds7.length := qa7.length
                                have hF : Fo (BD B D) m11 S11 D := .inl (.inr rfl)
                                refine ⟨acc7, hacc11, by rw [hl]; exact hz, m11, S11, acc7 ++ [v], ds7 ++ [z], (pc10.trans p11.pc).over hD, (kp10.trans (p11.kp p10.rl)).trans (kp_write hacc11 hF), (kq10.trans (p11.kp p10.rl)).trans (kp_write hacc11 hF), p11.rl.write hacc11, upd_same, ?_, by simp; omega, notin_ext nD10 p11.ext hacc10, f7⟩
                                exact ((qa10.kp (p11.kp p10.rl)).append (.cons rv .nil)).kp (kp_write hacc11 hF)
                              · exact f7.elim
                            · rw [e13] at f7; exact f7.elim
                        · rw [e11] at f7; exact f7.elim
                · left
                  have hd1 : ys.drop j = [] := List.drop_eq_nil_of_le (by omega)
                  rw [hd1] at f7
                  exact ⟨stop1 j (by omega), m7, S7, acc7, ds7, pc7, kp7, rl7, hacc7, qa7, za7, nD7, f7⟩
              · rw [e8] at f2; exact f2.elim
          · rw [e6] at f2; exact f2.elim
  · left
    have hd : xs.drop i = [] := List.drop_eq_nil_of_le (by omega)
    rw [hd] at f2
    exact ⟨stop i (by omega), hf B m1 S1 H1 m2 S2 H2 D acc ds p1.rl hD pc rl hacc qa za nD f2⟩
end
section
variable {X : Cx} {W : WX} {tg iter tg1 iter1 elt : Expr} {ifs ifs1 : List Expr} {fi fi1 : Ix} {t t1 : Tg} {tt tt1 : Tx} {fe : Ex} {scope : Scope} {own : List (Str × Nat)} {vs1 : List Nat} {pos : Pos}
theorem comp_fin {K : PySem.W.Frag} {mg : Str → Option Value} {W : WX} {σ : L2.St} {Q : VK} (B : Addr → Prop) (m1 : List Addr) (S1 : Sto) (H1 : Hp) (m2 : List Addr) (S2 : Sto) (H2 : Hp) (D : Addr) (acc : List V) (ds : List DL.D) (r1 : Rl K mg B m1 H1 S1) (hD : H1 D = none) (pc : Pc m1 S1 H1 m2 S2 H2) (rl : Rl K mg (BD B D) m2 H2 S2) (hacc : H2 D = some (.lst acc))
    (qa : RepA K H2 (Fo (BD B D) m2 S2) m2 acc ds) (za : acc.length ≤ sizeLine) (nD : D ∉ m2) (f : fin K mg W B m1 S1 σ H1 (.ok (.lst ds) S2) Q) : Q (.ref D) H2 := by
  have rl2 : Rl K mg B m2 H2 S2 := rl.less fun a z => .inl z
  have nf : ¬ Fo B m2 S2 D := by
    rintro (z | z)
    · exact r1.bt D z hD
    · exact rl.nb D z (.inr rfl)
  exact f m2 H2 _ (post_of_pc pc rl2) (.lst hacc nf za (qa.kp (kp_anti fo_bd)))
theorem sv_setComp2 {i : Nat} {y : Str} {py spos : Pos} (hc : X.calm = true) (hN : X.N.Nodup) (hy : X.N[i]? = some y) (hyl : X.env.scope.names.lookup y = some .local) (hsw : swapsWith (.ListComp elt [⟨tg, iter, ifs, 0⟩, ⟨tg1, iter1, ifs1, 0⟩] scope pos) (some (.Name y py)) spos.line X.env = pure true) (hi : IV X W tg iter fi) (ok : BlkOk X.N X.env.scope scope own)
    (hg : ∀ (s : Shared) (H : Hp) (C : Addr) (cl : List (Str × Addr)) (fp : List Addr), GV (X.blk s H scope (compEnvC scope cl C X.env) fp) tg t) (ht : ∀ (s : Shared) (H : Hp) (C : Addr) (cl : List (Str × Addr)) (fp : List Addr), TVs (X.blk s H scope (compEnvC scope cl C X.env) fp) W0 ifs tt)
    (hi1 : ∀ (s : Shared) (H : Hp) (C : Addr) (cl : List (Str × Addr)) (fp : List Addr), IV (X.blk s H scope (compEnvC scope cl C X.env) fp) W0 tg1 iter1 fi1)
    (hg1 : ∀ (s : Shared) (H : Hp) (C : Addr) (cl : List (Str × Addr)) (fp : List Addr), GV (X.blk s H scope (compEnvC scope cl C X.env) fp) tg1 t1) (ht1 : ∀ (s : Shared) (H : Hp) (C : Addr) (cl : List (Str × Addr)) (fp : List Addr), TVs (X.blk s H scope (compEnvC scope cl C X.env) fp) W0 ifs1 tt1)
    (he : ∀ (s : Shared) (H : Hp) (C : Addr) (cl : List (Str × Addr)) (fp : List Addr), EV (X.blk s H scope (compEnvC scope cl C X.env) fp) W0 elt fe) (hv : ∀ i ∈ t.sl, i ∈ own.map (·.2) := by decide) (hv1 : ∀ i ∈ t1.sl, i ∈ vs1 := by decide) (hvv : ∀ i ∈ vs1, i ∈ own.map (·.2) := by decide) (hs : ∀ x, foldedSetIterable iter X.env x = pure x := by intro _; rfl) (hs1 : ∀ env x, foldedSetIterable iter1 env x = pure x := by intro _ _; rfl) :
    SV X W (.Assign [.Name y py] (.ListComp elt [⟨tg, iter, ifs, 0⟩, ⟨tg1, iter1, ifs1, 0⟩] scope pos) spos) (sAsg i (eComp2 fi t tt fi1 t1 tt1 fe (own.map (·.2)) vs1)) := by
  refine ps_imp (ps_setLc2 (wi1 := upI X.K X.mg W0 fi1) (g := Tg.rd X.K t) (tt := upT X.K X.mg W0 tt) (g1 := Tg.rd X.K t1) (tt1 := upT X.K X.mg W0 tt1) (te := up X.K X.mg W0 fe) hc hN hy hyl hsw hi ok hvv hg ht hi1 hg1 ht1 he hs hs1) fun E σ H h => ?_
  obtain ⟨B, m, ρ, S, r, re, f⟩ := h
  refine lc2_of (W := W) (Fin := fun acc S => .ok (.lst acc) S) hv hv1 (Q := fun x H1 => gName i x σ H1 E.nx) ⟨B, m, ρ, S, r, re, ?_⟩ comp_fin
  have f' : finS X.K X.mg W B m S H ((eComp2 fi t tt fi1 t1 tt1 fe (own.map (·.2)) vs1 ρ S).bindS ρ fun d S => .fl (.nx (ρ.set i (some d))) S) E := f
  show fin X.K X.mg W B m S σ H (eComp2 fi t tt fi1 t1 tt1 fe (own.map (·.2)) vs1 ρ S) _
  refine fin.mono (fin.bindS re r f') fun v H1 => ?_
  rintro ⟨m1, S1, d, p, q, f1⟩
  exact f1 m1 H1 _ (Post.refl p.rl) ((re.kp (p.kp r)).set q)
end
end DL
set_option Elab.async false
set_option linter.all false
set_option maxRecDepth 100000
set_option maxHeartbeats 4000000
namespace DL
open PySem PySem.Spec PyProof.Rows L2
section
variable {E : Px} {ρ : Ev} {t t1 : Tg} {tt tt1 : Tx} {fi1 : Ix} {e : Ex} {vs vs1 : List Nat}
/-- what a comprehension adds: of plain things, the store stays -/
theorem wp_compLM {β : Type} (f : β → D) (p : β → Bool) (g : β → D) (S : Sto) : ∀ (l : List β) (acc : List D) (Q : List D → Sto → Prop), acc.length + l.length ≤ 16777216 →
    (∀ x ∈ l, ∃ ρ1, t.put (f x) (wipeD ρ vs) = some ρ1 ∧ Wp (tt ρ1 S) (fun b S2 => b = p x ∧ S2 = S) noX ∧ (p x = true → Wp (e ρ1 S) (fun y S2 => y = g x ∧ S2 = S) noX)) →
    Q (acc ++ (l.filter p).map g) S → Wp (compL t tt e vs (l.map f) ρ S acc) Q E
  | [], acc, Q, _, _, q => by
    have q' : Q acc S := by simpa using q
    exact ⟨q'⟩
  | x :: l, acc, Q, hl, st, q => by
    obtain ⟨ρ1, e1, h1, h2⟩ := st x (by simp)
    rw [List.map_cons]
    unfold compL
    rw [e1]
    dsimp only
    simp only [List.length_cons] at hl
    refine wp_bind (wp_nox (h1.mono fun b S2 ⟨hb, hS⟩ => ?_))
    subst hb hS
    cases hp : p x with
    | false =>
      rw [if_neg (by decide)]
      exact wp_compLM f p g _ l acc Q (by omega) (fun y hy => st y (by simp [hy])) (by simpa [hp] using q)
    | true =>
      rw [if_pos rfl]
      refine wp_bind (wp_nox ((h2 hp).mono fun y S3 ⟨hy, hS⟩ => ?_))
      subst hy hS
      rw [if_pos (by rw [sizeLine_eq]; omega)]
      exact wp_compLM f p g _ l (acc ++ [g x]) Q (by simp; omega) (fun y hy => st y (by simp [hy])) (by simpa [hp] using q)
theorem wp_compL2M {α β : Type} (f : α → D) (m : α → List β) (f1 : β → D) (p : α → β → Bool) (g : α → β → D) (S : Sto) : ∀ (l : List α) (acc : List D) (Q : List D → Sto → Prop), acc.length + (l.flatMap m).length ≤ 16777216 →
    (∀ x ∈ l, ∃ ρ1, t.put (f x) (wipeD ρ vs) = some ρ1 ∧ Wp (fi1 ρ1 S) (fun ys S2 => ys = (m x).map f1 ∧ S2 = S) noX ∧ ∀ y ∈ m x, ∃ ρ2, t1.put (f1 y) (wipeD ρ1 vs1) = some ρ2 ∧ Wp (tt1 ρ2 S) (fun b S2 => b = p x y ∧ S2 = S) noX ∧ (p x y = true → Wp (e ρ2 S) (fun z S2 => z = g x y ∧ S2 = S) noX)) →
    Q (acc ++ l.flatMap fun x => ((m x).filter (p x)).map (g x)) S → Wp (compL2 t tYesX fi1 t1 tt1 e vs vs1 (l.map f) ρ S acc) Q E
  | [], acc, Q, _, _, q => by
    have q' : Q acc S := by simpa using q
    exact ⟨q'⟩
  | x :: l, acc, Q, hl, st, q => by
    obtain ⟨ρ1, e1, h1, h2⟩ := st x (by simp)
    rw [List.map_cons]
    unfold compL2
    rw [e1]
    dsimp only
    simp only [List.flatMap_cons, List.length_append] at hl
    refine wp_bind (wp_nox (wp_tyes ?_))
    rw [if_pos rfl]
    refine wp_bind (wp_nox (h1.mono fun ys S2 ⟨hy, hS⟩ => ?_))
    subst hy hS
    refine wp_bind (wp_compLM f1 (p x) (g x) _ (m x) acc _ (by omega) h2 ?_)
    have hf := List.length_filter_le (p x) (m x)
    exact wp_compL2M f m f1 p g _ l _ Q (by rw [List.length_append, List.length_map]; omega) (fun y hy => st y (by simp [hy])) (by simpa using q)
theorem wp_comp2 {α β : Type} {it : Ix} {S : Sto} {Q : D → Sto → Prop} (l : List α) (f : α → D) (m : α → List β) (f1 : β → D) (p : α → β → Bool) (g : α → β → D) (hl : (l.flatMap m).length ≤ 16777216) (h : Wp (it ρ S) (fun xs S1 => xs = l.map f ∧
    (∀ x ∈ l, ∃ ρ1, t.put (f x) (wipeD ρ vs) = some ρ1 ∧ Wp (fi1 ρ1 S1) (fun ys S2 => ys = (m x).map f1 ∧ S2 = S1) noX ∧ ∀ y ∈ m x, ∃ ρ2, t1.put (f1 y) (wipeD ρ1 vs1) = some ρ2 ∧ Wp (tt1 ρ2 S1) (fun b S2 => b = p x y ∧ S2 = S1) noX ∧ (p x y = true → Wp (e ρ2 S1) (fun z S2 => z = g x y ∧ S2 = S1) noX)) ∧
    Q (.lst (l.flatMap fun x => ((m x).filter (p x)).map (g x))) S1) E) : Wp (eComp2 it t tYesX fi1 t1 tt1 e vs vs1 ρ S) Q E :=
  wp_bind (h.mono fun xs S1 ⟨h1, st, q⟩ => by
    subst h1
    exact wp_bind (wp_compL2M f m f1 p g S1 l [] _ (by simpa using hl) st (by
      rw [List.nil_append]
      exact ⟨q⟩)))
end
end DL
set_option Elab.async false
set_option linter.all false
set_option maxRecDepth 100000
set_option maxHeartbeats 4000000
namespace DL
open PySem PySem.Spec PyProof.Rows L2
end DL
set_option Elab.async false
set_option linter.all false
set_option maxRecDepth 100000
set_option maxHeartbeats 4000000
namespace DL
open PySem PySem.Spec PyProof.Rows L2
end DL
set_option Elab.async false
set_option linter.all false
set_option maxRecDepth 100000
set_option maxHeartbeats 4000000
namespace DL
open PySem PySem.Spec PyProof.Rows L2
end DL
set_option Elab.async false
set_option linter.all false
set_option maxRecDepth 100000
set_option maxHeartbeats 4000000
namespace DL
open PySem PySem.Spec PyProof.Rows L2
end DL
set_option Elab.async false
set_option linter.all false
set_option maxRecDepth 100000
set_option maxHeartbeats 4000000
set_option Elab.async false
set_option linter.all false
set_option maxRecDepth 100000
set_option maxHeartbeats 4000000
set_option Elab.async false
set_option linter.all false
set_option maxRecDepth 100000
set_option maxHeartbeats 4000000
namespace LE
open DL
local macro_rules | `(tactic| walk_at "w1") => `(tactic| with_reducible first
  | (refine ws_then ?_; try with_reducible dsimp only [List.set_cons_zero, List.set_cons_succ]) | refine ws_seq ?_ | refine ws_asg ?_ | refine ws_expr ?_ | refine ws_ret ?_ | refine ws_if ?_ | refine ws_asgT ?_ | refine ws_setIx ?_ | refine ws_skip ?_ | refine ws_retN ?_ | refine ws_brk ?_ | refine ws_cont ?_ | refine ws_thenR ?_ | refine ws_thenB ?_ | refine ws_thenC ?_ | refine fq_rt ?_ | refine fq_nx ?_ | refine un_nx ?_ | refine un_ct ?_ | refine un_bk ?_ | refine un_rt ?_ | refine ws_loopN ?_
  | (refine ws_loopC (ρ1 := ?r) ?h ?q; (case h => with_unfolding_all rfl); try with_reducible dsimp only [List.set_cons_zero, List.set_cons_succ])
  | refine wp_c ?_ | refine wp_op2 ?_ | refine wp_fn ?_ | refine wp_cons ?_ | refine wp_nil ?_ | refine wp_call ?_ | refine wp_op1 ?_
  | (refine wp_var (d := ?d) ?h ?q; (case h => with_unfolding_all rfl))
  | (refine ws_aug (d := ?d) ?h ?q; (case h => with_unfolding_all rfl))
  | refine wp_tup ?_ | refine wp_lst ?_ | refine wp_lstM ?_ | refine wp_listM ?_
  | refine wp_sl0 ?_ | refine wp_sl1 ?_ | refine wp_sl2 ?_ | refine wp_sl3 ?_
  | refine wp_tval ?_ | refine wp_tnot ?_ | refine wp_tand ?_ | refine wp_tor ?_ | refine wp_tyes ?_ | refine wp_and ?_ | refine wp_or ?_ | refine wp_not ?_ | refine wp_ifx ?_ | refine wp_chain ?_ | refine wp_meth ?_ | refine wp_meth0 ?_
  | refine wp_isi ?_ | refine wp_isis ?_ | refine wp_repr ?_ | refine wp_maxD ?_ | refine wi_rng3 ?_
  | refine wi_seq ?_ | refine wi_rng1 ?_ | refine wi_rng2 ?_ | refine wi_zip2 ?_ | refine wi_zipS ?_
  | (refine wp_fnB (ρ := ?ρ) ?he ?_; (case he => (simp only [List.map_cons, List.map_nil, List.length_cons, List.length_nil, List.replicate, List.cons_append, List.nil_append, Nat.reduceAdd, Nat.reduceSub]; rfl))))
local macro_rules | `(tactic| walk_at "w2") => `(tactic| ((with_reducible refine wo_id ?_); with_reducible first
  | refine vo_sub ?_ | refine vo_add ?_ | refine vo_lt ?_ | refine vo_le ?_ | refine vo_gt ?_ | refine vo_ge ?_ | refine vo_eq ?_ | refine vo_ne ?_ | refine vo_eqS ?_ | refine vo_neS ?_ | refine vo_eqB ?_ | refine vo_neB ?_ | refine vo_neg ?_ | refine vo_slT ?_ | refine vo_slL ?_ | refine vo_slS ?_ | refine vo_lenT ?_ | refine vo_lenL ?_ | refine vo_lenS ?_ | refine vo_revT ?_ | refine vo_revL ?_ | refine vo_min ?_ | refine vo_max ?_ | refine vo_tupL ?_ | refine vo_tupT ?_ | refine vo_lisL ?_ | refine vo_lisT ?_
  | refine vo_igAdd ?_ | refine vo_igMulR (by omega) ?_ | refine vo_igMulL (by omega) ?_ | refine vo_mod (by omega) ?_ | refine vo_div (by omega) ?_ | refine vo_mulR (by omega) ?_ | refine vo_mulL (by omega) ?_
  | refine vo_ixL0 ?_ | refine vo_ixL1 ?_ | refine vo_ixL2 ?_ | refine vo_ixL3 ?_ | refine vo_ixL4 ?_ | refine vo_ixL5 ?_ | refine vo_ixL6 ?_ | refine vo_ixT0 ?_ | refine vo_ixT1 ?_ | refine vo_ixT2 ?_ | refine vo_ixT3 ?_ | refine vo_ixT4 ?_ | refine vo_ixT5 ?_ | refine vo_ixT6 ?_
  | refine wo_vw1 (by assumption) ?_ | refine wo_vw2 (by assumption) ?_ | refine vo_vwc (by assumption) ?_
  | (refine vo_isi (c := ?c) ?h ?q; (case h => with_unfolding_all rfl)) | (refine vo_isis (c := ?c) ?h ?q; (case h => with_unfolding_all rfl))))
local macro_rules | `(tactic| walk_at "w3") => `(tactic| first
  | with_reducible refine ite_f ?_ | with_reducible refine ite_nt ?_ | with_reducible refine ite_nf ?_ | with_reducible refine ite_t ?_
  | ((with_reducible refine ex_id ?_); refine ⟨_, rfl, ?_⟩) | ((with_reducible refine and_id ?_); refine ⟨Nat.le_of_ble_eq_true rfl, ?_⟩))
local macro_rules | `(tactic| walk_at "w") => `(tactic| repeat (first | walk_at "w1" | walk_at "w2" | walk_at "w3"))
/-- the pen: its count at most k -/
def PenS (S : Sto) (n : Nat) (k : Int) : Prop := ∃ (cells : List Int) (t r : Int), S[n]? = some (some (.lst [.lst (cells.map .int), .int t, .int r])) ∧ 0 ≤ t ∧ t ≤ k ∧ cells.length ≤ 1000
theorem PenS.mono {S : Sto} {n : Nat} {k k' : Int} (h : PenS S n k) (hk : k ≤ k') : PenS S n k' := by
  obtain ⟨c, t, r, h1, h2, h3, h4⟩ := h
  exact ⟨c, t, r, h1, h2, by omega, h4⟩
theorem PenS.lt {S : Sto} {n : Nat} {k : Int} (h : PenS S n k) : n < S.length := by
  obtain ⟨_, _, _, h, _⟩ := h
  exact (List.getElem?_eq_some_iff.mp h).1
theorem PenS.ext {S S' : Sto} {n : Nat} {k : Int} (h : PenS S n k) (e : Ext S S') : PenS S' n k := by
  obtain ⟨c, t, r, h1, h2⟩ := h
  exact ⟨c, t, r, e.at_ h1, h2⟩
theorem PenS.only {S S' : Sto} {n m : Nat} {k : Int} (h : PenS S n k) (e : Only m S S') (hm : n ≠ m) : PenS S' n k := by
  obtain ⟨c, t, r, h1, h2⟩ := h
  exact ⟨c, t, r, (e.2 n hm).trans h1, h2⟩
end LE
set_option Elab.async false
set_option linter.all false
set_option maxRecDepth 100000
set_option maxHeartbeats 4000000
namespace LS
open DL
local macro_rules | `(tactic| walk_at "w1") => `(tactic| with_reducible first
  | (refine ws_then ?_; try with_reducible dsimp only [List.set_cons_zero, List.set_cons_succ]) | refine ws_seq ?_ | refine ws_asg ?_ | refine ws_expr ?_ | refine ws_ret ?_ | refine ws_if ?_ | refine ws_asgT ?_ | refine ws_setIx ?_ | refine ws_skip ?_ | refine ws_retN ?_ | refine ws_brk ?_ | refine ws_cont ?_ | refine ws_thenR ?_ | refine ws_thenB ?_ | refine ws_thenC ?_ | refine fq_rt ?_ | refine fq_nx ?_ | refine un_nx ?_ | refine un_ct ?_ | refine un_bk ?_ | refine un_rt ?_ | refine ws_loopN ?_
  | (refine ws_loopC (ρ1 := ?r) ?h ?q; (case h => with_unfolding_all rfl); try with_reducible dsimp only [List.set_cons_zero, List.set_cons_succ])
  | refine wp_c ?_ | refine wp_op2 ?_ | refine wp_fn ?_ | refine wp_cons ?_ | refine wp_nil ?_ | refine wp_call ?_ | refine wp_op1 ?_
  | (refine wp_var (d := ?d) ?h ?q; (case h => with_unfolding_all rfl))
  | (refine ws_aug (d := ?d) ?h ?q; (case h => with_unfolding_all rfl))
  | refine wp_tup ?_ | refine wp_lst ?_ | refine wp_lstM ?_ | refine wp_listM ?_
  | refine wp_sl0 ?_ | refine wp_sl1 ?_ | refine wp_sl2 ?_ | refine wp_sl3 ?_
  | refine wp_tval ?_ | refine wp_tnot ?_ | refine wp_tand ?_ | refine wp_tor ?_ | refine wp_tyes ?_ | refine wp_and ?_ | refine wp_or ?_ | refine wp_not ?_ | refine wp_ifx ?_ | refine wp_chain ?_ | refine wp_meth ?_ | refine wp_meth0 ?_
  | refine wp_isi ?_ | refine wp_isis ?_ | refine wp_repr ?_ | refine wp_maxD ?_ | refine wi_rng3 ?_
  | refine wi_seq ?_ | refine wi_rng1 ?_ | refine wi_rng2 ?_ | refine wi_zip2 ?_ | refine wi_zipS ?_
  | (refine wp_fnB (ρ := ?ρ) ?he ?_; (case he => (simp only [List.map_cons, List.map_nil, List.length_cons, List.length_nil, List.replicate, List.cons_append, List.nil_append, Nat.reduceAdd, Nat.reduceSub]; rfl))))
local macro_rules | `(tactic| walk_at "w2") => `(tactic| ((with_reducible refine wo_id ?_); with_reducible first
  | refine vo_sub ?_ | refine vo_add ?_ | refine vo_lt ?_ | refine vo_le ?_ | refine vo_gt ?_ | refine vo_ge ?_ | refine vo_eq ?_ | refine vo_ne ?_ | refine vo_eqS ?_ | refine vo_neS ?_ | refine vo_eqB ?_ | refine vo_neB ?_ | refine vo_neg ?_ | refine vo_slT ?_ | refine vo_slL ?_ | refine vo_slS ?_ | refine vo_lenT ?_ | refine vo_lenL ?_ | refine vo_lenS ?_ | refine vo_revT ?_ | refine vo_revL ?_ | refine vo_min ?_ | refine vo_max ?_ | refine vo_tupL ?_ | refine vo_tupT ?_ | refine vo_lisL ?_ | refine vo_lisT ?_
  | refine vo_igAdd ?_ | refine vo_igMulR (by omega) ?_ | refine vo_igMulL (by omega) ?_ | refine vo_mod (by omega) ?_ | refine vo_div (by omega) ?_ | refine vo_mulR (by omega) ?_ | refine vo_mulL (by omega) ?_
  | refine vo_ixL0 ?_ | refine vo_ixL1 ?_ | refine vo_ixL2 ?_ | refine vo_ixL3 ?_ | refine vo_ixL4 ?_ | refine vo_ixL5 ?_ | refine vo_ixL6 ?_ | refine vo_ixT0 ?_ | refine vo_ixT1 ?_ | refine vo_ixT2 ?_ | refine vo_ixT3 ?_ | refine vo_ixT4 ?_ | refine vo_ixT5 ?_ | refine vo_ixT6 ?_
  | refine wo_vw1 (by assumption) ?_ | refine wo_vw2 (by assumption) ?_ | refine vo_vwc (by assumption) ?_
  | (refine vo_isi (c := ?c) ?h ?q; (case h => with_unfolding_all rfl)) | (refine vo_isis (c := ?c) ?h ?q; (case h => with_unfolding_all rfl))))
local macro_rules | `(tactic| walk_at "w3") => `(tactic| first
  | with_reducible refine ite_f ?_ | with_reducible refine ite_nt ?_ | with_reducible refine ite_nf ?_ | with_reducible refine ite_t ?_
  | ((with_reducible refine ex_id ?_); refine ⟨_, rfl, ?_⟩) | ((with_reducible refine and_id ?_); refine ⟨Nat.le_of_ble_eq_true rfl, ?_⟩))
local macro_rules | `(tactic| walk_at "w") => `(tactic| repeat (first | walk_at "w1" | walk_at "w2" | walk_at "w3"))
end LS
set_option Elab.async false
set_option linter.all false
set_option maxRecDepth 100000
set_option maxHeartbeats 4000000
set_option Elab.async false
set_option linter.all false
set_option maxRecDepth 100000
set_option maxHeartbeats 4000000
namespace LE
open DL
local macro_rules | `(tactic| walk_at "w1") => `(tactic| with_reducible first
  | (refine ws_then ?_; try with_reducible dsimp only [List.set_cons_zero, List.set_cons_succ]) | refine ws_seq ?_ | refine ws_asg ?_ | refine ws_expr ?_ | refine ws_ret ?_ | refine ws_if ?_ | refine ws_asgT ?_ | refine ws_setIx ?_ | refine ws_skip ?_ | refine ws_retN ?_ | refine ws_brk ?_ | refine ws_cont ?_ | refine ws_thenR ?_ | refine ws_thenB ?_ | refine ws_thenC ?_ | refine fq_rt ?_ | refine fq_nx ?_ | refine un_nx ?_ | refine un_ct ?_ | refine un_bk ?_ | refine un_rt ?_ | refine ws_loopN ?_
  | (refine ws_loopC (ρ1 := ?r) ?h ?q; (case h => with_unfolding_all rfl); try with_reducible dsimp only [List.set_cons_zero, List.set_cons_succ])
  | refine wp_c ?_ | refine wp_op2 ?_ | refine wp_fn ?_ | refine wp_cons ?_ | refine wp_nil ?_ | refine wp_call ?_ | refine wp_op1 ?_
  | (refine wp_var (d := ?d) ?h ?q; (case h => with_unfolding_all rfl))
  | (refine ws_aug (d := ?d) ?h ?q; (case h => with_unfolding_all rfl))
  | refine wp_tup ?_ | refine wp_lst ?_ | refine wp_lstM ?_ | refine wp_listM ?_
  | refine wp_sl0 ?_ | refine wp_sl1 ?_ | refine wp_sl2 ?_ | refine wp_sl3 ?_
  | refine wp_tval ?_ | refine wp_tnot ?_ | refine wp_tand ?_ | refine wp_tor ?_ | refine wp_tyes ?_ | refine wp_and ?_ | refine wp_or ?_ | refine wp_not ?_ | refine wp_ifx ?_ | refine wp_chain ?_ | refine wp_meth ?_ | refine wp_meth0 ?_
  | refine wp_isi ?_ | refine wp_isis ?_ | refine wp_repr ?_ | refine wp_maxD ?_ | refine wi_rng3 ?_
  | refine wi_seq ?_ | refine wi_rng1 ?_ | refine wi_rng2 ?_ | refine wi_zip2 ?_ | refine wi_zipS ?_
  | (refine wp_fnB (ρ := ?ρ) ?he ?_; (case he => (simp only [List.map_cons, List.map_nil, List.length_cons, List.length_nil, List.replicate, List.cons_append, List.nil_append, Nat.reduceAdd, Nat.reduceSub]; rfl))))
local macro_rules | `(tactic| walk_at "w2") => `(tactic| ((with_reducible refine wo_id ?_); with_reducible first
  | refine vo_sub ?_ | refine vo_add ?_ | refine vo_lt ?_ | refine vo_le ?_ | refine vo_gt ?_ | refine vo_ge ?_ | refine vo_eq ?_ | refine vo_ne ?_ | refine vo_eqS ?_ | refine vo_neS ?_ | refine vo_eqB ?_ | refine vo_neB ?_ | refine vo_neg ?_ | refine vo_slT ?_ | refine vo_slL ?_ | refine vo_slS ?_ | refine vo_lenT ?_ | refine vo_lenL ?_ | refine vo_lenS ?_ | refine vo_revT ?_ | refine vo_revL ?_ | refine vo_min ?_ | refine vo_max ?_ | refine vo_tupL ?_ | refine vo_tupT ?_ | refine vo_lisL ?_ | refine vo_lisT ?_
  | refine vo_igAdd ?_ | refine vo_igMulR (by omega) ?_ | refine vo_igMulL (by omega) ?_ | refine vo_mod (by omega) ?_ | refine vo_div (by omega) ?_ | refine vo_mulR (by omega) ?_ | refine vo_mulL (by omega) ?_
  | refine vo_ixL0 ?_ | refine vo_ixL1 ?_ | refine vo_ixL2 ?_ | refine vo_ixL3 ?_ | refine vo_ixL4 ?_ | refine vo_ixL5 ?_ | refine vo_ixL6 ?_ | refine vo_ixT0 ?_ | refine vo_ixT1 ?_ | refine vo_ixT2 ?_ | refine vo_ixT3 ?_ | refine vo_ixT4 ?_ | refine vo_ixT5 ?_ | refine vo_ixT6 ?_
  | refine wo_vw1 (by assumption) ?_ | refine wo_vw2 (by assumption) ?_ | refine vo_vwc (by assumption) ?_
  | (refine vo_isi (c := ?c) ?h ?q; (case h => with_unfolding_all rfl)) | (refine vo_isis (c := ?c) ?h ?q; (case h => with_unfolding_all rfl))))
local macro_rules | `(tactic| walk_at "w3") => `(tactic| first
  | with_reducible refine ite_f ?_ | with_reducible refine ite_nt ?_ | with_reducible refine ite_nf ?_ | with_reducible refine ite_t ?_
  | ((with_reducible refine ex_id ?_); refine ⟨_, rfl, ?_⟩) | ((with_reducible refine and_id ?_); refine ⟨Nat.le_of_ble_eq_true rfl, ?_⟩))
local macro_rules | `(tactic| walk_at "w") => `(tactic| repeat (first | walk_at "w1" | walk_at "w2" | walk_at "w3"))
end LE
namespace DL
def rowD (xs : List Int) : D := .tup (xs.map .int)
end DL
namespace LE
open DL
local macro_rules | `(tactic| walk_at "w1") => `(tactic| with_reducible first
  | (refine ws_then ?_; try with_reducible dsimp only [List.set_cons_zero, List.set_cons_succ]) | refine ws_seq ?_ | refine ws_asg ?_ | refine ws_expr ?_ | refine ws_ret ?_ | refine ws_if ?_ | refine ws_asgT ?_ | refine ws_setIx ?_ | refine ws_skip ?_ | refine ws_retN ?_ | refine ws_brk ?_ | refine ws_cont ?_ | refine ws_thenR ?_ | refine ws_thenB ?_ | refine ws_thenC ?_ | refine fq_rt ?_ | refine fq_nx ?_ | refine un_nx ?_ | refine un_ct ?_ | refine un_bk ?_ | refine un_rt ?_ | refine ws_loopN ?_
  | (refine ws_loopC (ρ1 := ?r) ?h ?q; (case h => with_unfolding_all rfl); try with_reducible dsimp only [List.set_cons_zero, List.set_cons_succ])
  | refine wp_c ?_ | refine wp_op2 ?_ | refine wp_fn ?_ | refine wp_cons ?_ | refine wp_nil ?_ | refine wp_call ?_ | refine wp_op1 ?_
  | (refine wp_var (d := ?d) ?h ?q; (case h => with_unfolding_all rfl))
  | (refine ws_aug (d := ?d) ?h ?q; (case h => with_unfolding_all rfl))
  | refine wp_tup ?_ | refine wp_lst ?_ | refine wp_lstM ?_ | refine wp_listM ?_
  | refine wp_sl0 ?_ | refine wp_sl1 ?_ | refine wp_sl2 ?_ | refine wp_sl3 ?_
  | refine wp_tval ?_ | refine wp_tnot ?_ | refine wp_tand ?_ | refine wp_tor ?_ | refine wp_tyes ?_ | refine wp_and ?_ | refine wp_or ?_ | refine wp_not ?_ | refine wp_ifx ?_ | refine wp_chain ?_ | refine wp_meth ?_ | refine wp_meth0 ?_
  | refine wp_isi ?_ | refine wp_isis ?_ | refine wp_repr ?_ | refine wp_maxD ?_ | refine wi_rng3 ?_
  | refine wi_seq ?_ | refine wi_rng1 ?_ | refine wi_rng2 ?_ | refine wi_zip2 ?_ | refine wi_zipS ?_
  | (refine wp_fnB (ρ := ?ρ) ?he ?_; (case he => (simp only [List.map_cons, List.map_nil, List.length_cons, List.length_nil, List.replicate, List.cons_append, List.nil_append, Nat.reduceAdd, Nat.reduceSub]; rfl))))
local macro_rules | `(tactic| walk_at "w2") => `(tactic| ((with_reducible refine wo_id ?_); with_reducible first
  | refine vo_sub ?_ | refine vo_add ?_ | refine vo_lt ?_ | refine vo_le ?_ | refine vo_gt ?_ | refine vo_ge ?_ | refine vo_eq ?_ | refine vo_ne ?_ | refine vo_eqS ?_ | refine vo_neS ?_ | refine vo_eqB ?_ | refine vo_neB ?_ | refine vo_neg ?_ | refine vo_slT ?_ | refine vo_slL ?_ | refine vo_slS ?_ | refine vo_lenT ?_ | refine vo_lenL ?_ | refine vo_lenS ?_ | refine vo_revT ?_ | refine vo_revL ?_ | refine vo_min ?_ | refine vo_max ?_ | refine vo_tupL ?_ | refine vo_tupT ?_ | refine vo_lisL ?_ | refine vo_lisT ?_
  | refine vo_igAdd ?_ | refine vo_igMulR (by omega) ?_ | refine vo_igMulL (by omega) ?_ | refine vo_mod (by omega) ?_ | refine vo_div (by omega) ?_ | refine vo_mulR (by omega) ?_ | refine vo_mulL (by omega) ?_
  | refine vo_ixL0 ?_ | refine vo_ixL1 ?_ | refine vo_ixL2 ?_ | refine vo_ixL3 ?_ | refine vo_ixL4 ?_ | refine vo_ixL5 ?_ | refine vo_ixL6 ?_ | refine vo_ixT0 ?_ | refine vo_ixT1 ?_ | refine vo_ixT2 ?_ | refine vo_ixT3 ?_ | refine vo_ixT4 ?_ | refine vo_ixT5 ?_ | refine vo_ixT6 ?_
  | refine wo_vw1 (by assumption) ?_ | refine wo_vw2 (by assumption) ?_ | refine vo_vwc (by assumption) ?_
  | (refine vo_isi (c := ?c) ?h ?q; (case h => with_unfolding_all rfl)) | (refine vo_isis (c := ?c) ?h ?q; (case h => with_unfolding_all rfl))))
local macro_rules | `(tactic| walk_at "w3") => `(tactic| first
  | with_reducible refine ite_f ?_ | with_reducible refine ite_nt ?_ | with_reducible refine ite_nf ?_ | with_reducible refine ite_t ?_
  | ((with_reducible refine ex_id ?_); refine ⟨_, rfl, ?_⟩) | ((with_reducible refine and_id ?_); refine ⟨Nat.le_of_ble_eq_true rfl, ?_⟩))
local macro_rules | `(tactic| walk_at "w") => `(tactic| repeat (first | walk_at "w1" | walk_at "w2" | walk_at "w3"))
end LE
namespace LH
open DL
local macro_rules | `(tactic| walk_at "w1") => `(tactic| with_reducible first
  | (refine ws_then ?_; try with_reducible dsimp only [List.set_cons_zero, List.set_cons_succ]) | refine ws_seq ?_ | refine ws_asg ?_ | refine ws_expr ?_ | refine ws_ret ?_ | refine ws_if ?_ | refine ws_asgT ?_ | refine ws_setIx ?_ | refine ws_skip ?_ | refine ws_retN ?_ | refine ws_brk ?_ | refine ws_cont ?_ | refine ws_thenR ?_ | refine ws_thenB ?_ | refine ws_thenC ?_ | refine fq_rt ?_ | refine fq_nx ?_ | refine un_nx ?_ | refine un_ct ?_ | refine un_bk ?_ | refine un_rt ?_ | refine ws_loopN ?_
  | (refine ws_loopC (ρ1 := ?r) ?h ?q; (case h => with_unfolding_all rfl); try with_reducible dsimp only [List.set_cons_zero, List.set_cons_succ])
  | refine wp_c ?_ | refine wp_op2 ?_ | refine wp_fn ?_ | refine wp_cons ?_ | refine wp_nil ?_ | refine wp_call ?_ | refine wp_op1 ?_
  | (refine wp_var (d := ?d) ?h ?q; (case h => with_unfolding_all rfl))
  | (refine ws_aug (d := ?d) ?h ?q; (case h => with_unfolding_all rfl))
  | refine wp_tup ?_ | refine wp_lst ?_ | refine wp_lstM ?_ | refine wp_listM ?_
  | refine wp_sl0 ?_ | refine wp_sl1 ?_ | refine wp_sl2 ?_ | refine wp_sl3 ?_
  | refine wp_tval ?_ | refine wp_tnot ?_ | refine wp_tand ?_ | refine wp_tor ?_ | refine wp_tyes ?_ | refine wp_and ?_ | refine wp_or ?_ | refine wp_not ?_ | refine wp_ifx ?_ | refine wp_chain ?_ | refine wp_meth ?_ | refine wp_meth0 ?_
  | refine wp_isi ?_ | refine wp_isis ?_ | refine wp_repr ?_ | refine wp_maxD ?_ | refine wi_rng3 ?_
  | refine wi_seq ?_ | refine wi_rng1 ?_ | refine wi_rng2 ?_ | refine wi_zip2 ?_ | refine wi_zipS ?_
  | (refine wp_fnB (ρ := ?ρ) ?he ?_; (case he => (simp only [List.map_cons, List.map_nil, List.length_cons, List.length_nil, List.replicate, List.cons_append, List.nil_append, Nat.reduceAdd, Nat.reduceSub]; rfl))))
local macro_rules | `(tactic| walk_at "w2") => `(tactic| ((with_reducible refine wo_id ?_); with_reducible first
  | refine vo_sub ?_ | refine vo_add ?_ | refine vo_lt ?_ | refine vo_le ?_ | refine vo_gt ?_ | refine vo_ge ?_ | refine vo_eq ?_ | refine vo_ne ?_ | refine vo_eqS ?_ | refine vo_neS ?_ | refine vo_eqB ?_ | refine vo_neB ?_ | refine vo_neg ?_ | refine vo_slT ?_ | refine vo_slL ?_ | refine vo_slS ?_ | refine vo_lenT ?_ | refine vo_lenL ?_ | refine vo_lenS ?_ | refine vo_revT ?_ | refine vo_revL ?_ | refine vo_min ?_ | refine vo_max ?_ | refine vo_tupL ?_ | refine vo_tupT ?_ | refine vo_lisL ?_ | refine vo_lisT ?_
  | refine vo_igAdd ?_ | refine vo_igMulR (by omega) ?_ | refine vo_igMulL (by omega) ?_ | refine vo_mod (by omega) ?_ | refine vo_div (by omega) ?_ | refine vo_mulR (by omega) ?_ | refine vo_mulL (by omega) ?_
  | refine vo_ixL0 ?_ | refine vo_ixL1 ?_ | refine vo_ixL2 ?_ | refine vo_ixL3 ?_ | refine vo_ixL4 ?_ | refine vo_ixL5 ?_ | refine vo_ixL6 ?_ | refine vo_ixT0 ?_ | refine vo_ixT1 ?_ | refine vo_ixT2 ?_ | refine vo_ixT3 ?_ | refine vo_ixT4 ?_ | refine vo_ixT5 ?_ | refine vo_ixT6 ?_
  | refine wo_vw1 (by assumption) ?_ | refine wo_vw2 (by assumption) ?_ | refine vo_vwc (by assumption) ?_
  | (refine vo_isi (c := ?c) ?h ?q; (case h => with_unfolding_all rfl)) | (refine vo_isis (c := ?c) ?h ?q; (case h => with_unfolding_all rfl))))
local macro_rules | `(tactic| walk_at "w3") => `(tactic| first
  | with_reducible refine ite_f ?_ | with_reducible refine ite_nt ?_ | with_reducible refine ite_nf ?_ | with_reducible refine ite_t ?_
  | ((with_reducible refine ex_id ?_); refine ⟨_, rfl, ?_⟩) | ((with_reducible refine and_id ?_); refine ⟨Nat.le_of_ble_eq_true rfl, ?_⟩))
local macro_rules | `(tactic| walk_at "w") => `(tactic| repeat (first | walk_at "w1" | walk_at "w2" | walk_at "w3"))
end LH
set_option Elab.async false
set_option linter.all false
set_option maxRecDepth 100000
set_option maxHeartbeats 4000000
namespace DL
open PySem
structure QD (r : Nat → Option PyData) (d : D) (p : PyData) (w h : Nat) : Prop where
  e : toQr r d = some p
  s : smP p = true
  w : wtP p ≤ w
  h : p.depth ≤ h
structure QDs (r : Nat → Option PyData) (ds : List D) (ps : List PyData) (w h : Nat) : Prop where
  e : toQrs r ds = some ps
  s : smPs ps = true
  w : wtPs ps ≤ w
  h : PyData.depthAll ps ≤ h
structure QDk (r : Nat → Option PyData) (kvs : List (D × D)) (ps : List (PyData × PyData)) (w h : Nat) : Prop where
  e : toQrk r kvs = some ps
  s : smPk ps = true
  w : wtPk ps ≤ w
  h : PyData.depthKv ps ≤ h
section
variable {r : Nat → Option PyData}
theorem QD.mono {d : D} {p : PyData} {w h w' h' : Nat} (q : QD r d p w h) (hw : w ≤ w') (hh : h ≤ h') : QD r d p w' h' := ⟨q.e, q.s, Nat.le_trans q.w hw, Nat.le_trans q.h hh⟩
theorem QDs.mono {d : List D} {p : List PyData} {w h w' h' : Nat} (q : QDs r d p w h) (hw : w ≤ w') (hh : h ≤ h') : QDs r d p w' h' := ⟨q.e, q.s, Nat.le_trans q.w hw, Nat.le_trans q.h hh⟩
theorem QD.non : QD r .non .none 1 0 := ⟨by simp only [toQr], rfl, by simp [wtP], by simp [PyData.depth]⟩
theorem QD.bl (b : Bool) : QD r (.bl b) (.bool b) 1 0 := ⟨by simp only [toQr], rfl, by simp [wtP], by simp [PyData.depth]⟩
theorem QD.int {i : Int} (h : -1000000000000000000000000000000000000000000 ≤ i ∧ i ≤ 1000000000000000000000000000000000000000000) : QD r (.int i) (.int i) 1 0 := ⟨by simp only [toQr], by simp only [smP]; exact decide_eq_true (by omega), by simp [wtP], by simp [PyData.depth]⟩
theorem QD.str {x : Str} (h : (reprText x).length ≤ 14) : QD r (.str x) (.str x) 1 0 := ⟨by simp only [toQr], by simp only [smP], by simp only [wtP]; omega, by simp [PyData.depth]⟩
theorem QD.tup {ds : List D} {ps : List PyData} {w h : Nat} (q : QDs r ds ps w h) : QD r (.tup ds) (.tuple ps) (1 + w) (h + 1) := ⟨by simp only [toQr, q.e, Option.map_some], by simp only [smP]; exact q.s, by have := q.w; simp only [wtP]; omega, by have := q.h; simp only [PyData.depth]; omega⟩
theorem QD.lst {ds : List D} {ps : List PyData} {w h : Nat} (q : QDs r ds ps w h) : QD r (.lst ds) (.list ps) (1 + w) (h + 1) := ⟨by simp only [toQr, q.e, Option.map_some], by simp only [smP]; exact q.s, by have := q.w; simp only [wtP]; omega, by have := q.h; simp only [PyData.depth]; omega⟩
theorem QD.dic {ds : List (D × D)} {ps : List (PyData × PyData)} {w h : Nat} (q : QDk r ds ps w h) : QD r (.dic false ds) (.dict ps) (1 + w) (h + 1) := ⟨by simp only [toQr, q.e, Option.map_some], by simp only [smP]; exact q.s, by have := q.w; simp only [wtP]; omega, by have := q.h; simp only [PyData.depth]; omega⟩
theorem QDs.nil {h : Nat} : QDs r [] [] 0 h := ⟨by simp only [toQrs], rfl, by simp [wtPs], by simp [PyData.depthAll]⟩
theorem QDs.cons {d : D} {p : PyData} {ds : List D} {ps : List PyData} {w w' h : Nat} (q : QD r d p w h) (q' : QDs r ds ps w' h) : QDs r (d :: ds) (p :: ps) (w + w') h :=
  ⟨by simp only [toQrs, q.e, q'.e], by simp only [smPs, q.s, q'.s, Bool.and_self], by have := q.w; have := q'.w; simp only [wtPs]; omega, by have := q.h; have := q'.h; simp only [PyData.depthAll]; omega⟩
theorem QDk.nil {h : Nat} : QDk r [] [] 0 h := ⟨by simp only [toQrk], rfl, by simp [wtPk], by simp [PyData.depthKv]⟩
theorem QDk.cons {k d : D} {kp p : PyData} {ds : List (D × D)} {ps : List (PyData × PyData)} {w w' h : Nat} (hk : keyP k = some kp) (hks : smP kp = true) (hkw : wtP kp ≤ 1) (hkd : kp.depth ≤ h) (q : QD r d p w h) (q' : QDk r ds ps w' h) : QDk r ((k, d) :: ds) ((kp, p) :: ps) (1 + w + w') h :=
  ⟨by simp only [toQrk, hk, q.e, q'.e], by simp only [smPk, hks, q.s, q'.s, Bool.and_self], by have := q.w; have := q'.w; simp only [wtPk]; omega, by have := q.h; have := q'.h; simp only [PyData.depthKv]; omega⟩
/-- things alike -/
theorem QDs.map {α : Type} (f : α → D) (g : α → PyData) (w h : Nat) : ∀ l : List α, (∀ x ∈ l, QD r (f x) (g x) w h) → QDs r (l.map f) (l.map g) (w * l.length) h
  | [], _ => QDs.nil.mono (by simp) (Nat.le_refl _)
  | x :: l, q => (QDs.cons (q x (by simp)) (QDs.map f g w h l fun y hy => q y (by simp [hy]))).mono (by simp only [List.length_cons, Nat.mul_succ]; omega) (Nat.le_refl _)
theorem QDs.ints {xs : List Int} (h : ∀ x ∈ xs, -1000000000000000000000000000000000000000000 ≤ x ∧ x ≤ 1000000000000000000000000000000000000000000) : QDs r (xs.map .int) (xs.map .int) xs.length 0 := (QDs.map D.int PyData.int 1 0 xs fun x hx => QD.int (h x hx)).mono (by omega) (Nat.le_refl _)
theorem QDs.row {xs : List Int} (h : Row xs) : QDs r (xs.map .int) (xs.map .int) xs.length 0 := QDs.ints fun x hx => by have := h x hx; omega
theorem QD.row {xs : List Int} (h : Row xs) : QD r (rowD xs) (.tuple (xs.map .int)) (1 + xs.length) 1 := QD.tup (QDs.row h)
end
end DL
set_option Elab.async false
set_option linter.all false
set_option maxRecDepth 100000
set_option maxHeartbeats 4000000
namespace DL
open PySem PySem.Spec PyProof.Rows L2
def eFrz (f : Ex) : Ex := fun ρ S => (f ρ S).bind fun d S => match d with
  | .ref n => match S[n]? with
    | some (some (.lst xs)) => .ok (.lst xs) (S.set n none)
    | some (some (.dic false kvs)) => .ok (.dic false kvs) (S.set n none)
    | _ => .bad
  | _ => .bad
section
variable {X : Cx} {W : WX} {e : Expr} {fe : Ex}
theorem ev_frzE (h : EV X W e fe) : EV X W e (eFrz fe) := by
  refine ⟨fun pins s σ H Q I q => ?_⟩
  obtain ⟨B, m, ρ, S, r, re, f⟩ := q
  refine thn (h.run pins s σ H _ I ⟨B, m, ρ, S, r, re, fin.bind f⟩) fun u s1 ⟨v, H1, I1, rv, q1⟩ => ?_
  obtain ⟨m1, S1, d, p, rd, f1⟩ := q1
  have r1 := p.rl
  split at f1
  · rename_i n
    split at f1
    · rename_i xs ex
      cases rd with
      | ref ha =>
        rename_i a
        cases r1.obj _ _ _ ha ex with
        | lst h z q =>
          have kp : Kp H1 H1 (Fo B m1 S1) (Fo B m1 (S1.set n none)) m1 m1 := kp_anti fun a z => z.imp id liv_kill'
          have nf : ¬ Fo B m1 (S1.set n none) a := by
            rintro (b | l)
            · exact r1.nb a ⟨n, _, ha, ex⟩ b
            · rcases liv_kill l with ⟨_, z⟩ | ⟨_, k, hk, hk2⟩
              · exact z ha
              · obtain ⟨l1, g1⟩ := List.getElem?_eq_some_iff.mp hk2
                obtain ⟨l2, g2⟩ := List.getElem?_eq_some_iff.mp ha
                exact hk ((List.getElem_inj r1.nod).mp (g1.trans g2.symm))
          exact ⟨_, H1, I1, rv, f1 m1 H1 _ (Post.unkill (Post.refl r1.kill)) (.lst h nf z (q.kp kp))⟩
    · rename_i kvs ex
      cases rd with
      | ref ha =>
        rename_i a
        cases r1.obj _ _ _ ha ex with
        | @dK kv _ h z e q =>
          obtain ⟨od, I2⟩ := I1.lock h trivial
          obtain ⟨r', kp, un⟩ := r1.lockD (u := .frz od (.dK kv)) ha ex
          exact ⟨_, _, I2, rv, f1 m1 _ _ (un _ _ _ (Post.refl r')) (.dK ⟨od, upd_same⟩ z e (q.kp kp))⟩
    · exact f1.elim
  · exact f1.elim
end
section
variable {E : Px} {ρ : Ev} {S : Sto} {Q : D → Sto → Prop} {f : Ex}
theorem wp_frzD (h : Wp (f ρ S) (fun d S1 => ∃ n kvs, d = .ref n ∧ S1[n]? = some (some (.dic false kvs)) ∧ Q (.dic false kvs) (S1.set n none)) E) : Wp (eFrz f ρ S) Q E :=
  wp_bind (h.mono fun d S1 ⟨n, kvs, e, h, q⟩ => by
    subst e
    simp only [h]
    exact ⟨q⟩)
end
end DL
set_option Elab.async false
set_option linter.all false
set_option maxRecDepth 100000
set_option maxHeartbeats 4000000
namespace DL
open PySem PySem.Spec PyProof.Rows L2 PpSet
section
variable {X : Cx}
theorem addI_ok {pins : List (Addr × Obj)} {σ : L2.St} {H : Hp} {s : Shared} {E : Value → Shared → Prop} {D : Addr} {S : Int → Bool} {n : Nat} {y : Int} {tk : Tok} {Q : Value → Shared → Prop} (I : Inv X pins σ H s) (hD : H D = some (SetO X.w D S n)) (room : n + 1 < scanBound)
    (h : ∀ s', Inv X pins σ (upd H D (SetO X.w D (fun j => S j || decide (j = y)) (if S y = true then n else n + 1))) s' → Q .none s') : wpAny (model X.prog X.w) X.A (call (.builtin "set.add") [.ref D, .int y tk]) Q E s := by
  have R := setO_get I hD
  refine setR_add R room fun h' sb new => ?_
  have he : ∃ u, h'.get? D = some u := by
    have ⟨o, _, _, _, ho, _⟩ := new
    exact ⟨o, ho⟩
  exact h _ (I.write (e := D) (t' := s.toks + 1) (by rw [hD]; trivial) (.inl rfl) (fun b u hb hu => (sb.2 b hb).trans hu) he (setO_new new))
end
def compS (t : Tg) (tt : Tx) (e : Ex) (vs : List Nat) : List D → Ev → Sto → List Int → R (List Int)
  | [], _, S, acc => .ok acc S
  | d :: ds, ρ, S, acc => match t.put d (wipeD ρ vs) with
    | none => .bad
    | some ρ1 => (tt ρ1 S).nox.bind fun b S => if b = true then (e ρ1 S).nox.bind fun y S => match y with
      | .int i => if acc.length < 3000 then compS t tt e vs ds ρ S (acc ++ [i]) else .bad
      | _ => .bad
      else compS t tt e vs ds ρ S acc
theorem ded_snoc (ns : List Int) (i : Int) : (ded (ns ++ [i])).length = if decide (i ∈ ns) = true then (ded ns).length else (ded ns).length + 1 := by
  have key : (ded (ns ++ [i])).Perm (if i ∈ ns then ded ns else i :: ded ns) := by
    refine (List.perm_ext_iff_of_nodup (ded_nodup _) ?_).mpr fun k => ?_
    · split
      · exact ded_nodup ns
      · rename_i h
        exact List.nodup_cons.mpr ⟨fun z => h (ded_mem.mp z), ded_nodup ns⟩
    · rw [ded_mem, List.mem_append, List.mem_singleton]
      split
      · rename_i h
        rw [ded_mem]
        exact ⟨fun z => z.elim id fun e => e ▸ h, .inl⟩
      · rw [List.mem_cons, ded_mem]
        exact Or.comm
  rw [key.length_eq]
  by_cases h : i ∈ ns
  · simp [h]
  · simp [h]
section
variable {Q : D → Sto → Prop} {E : Px} {ρ : Ev} {S : Sto} {t : Tg} {tt : Tx} {e : Ex} {vs : List Nat} {it : Ix}
theorem wp_compS {α : Type} (f : α → D) (p : α → Bool) (g : α → Int) (S : Sto) : ∀ (l : List α) (acc : List Int) (Q : List Int → Sto → Prop), acc.length + l.length ≤ 3000 →
    (∀ x ∈ l, ∃ ρ1, t.put (f x) (wipeD ρ vs) = some ρ1 ∧ Wp (tt ρ1 S) (fun b S2 => b = p x ∧ S2 = S) noX ∧ (p x = true → Wp (e ρ1 S) (fun y S2 => y = .int (g x) ∧ S2 = S) noX)) →
    Q (acc ++ (l.filter p).map g) S → Wp (compS t tt e vs (l.map f) ρ S acc) Q E
  | [], acc, Q, _, _, q => by
    have q' : Q acc S := by simpa using q
    exact ⟨q'⟩
  | x :: l, acc, Q, hl, st, q => by
    obtain ⟨ρ1, e1, h1, h2⟩ := st x (by simp)
    rw [List.map_cons]
    unfold compS
    rw [e1]
    dsimp only
    simp only [List.length_cons] at hl
    refine wp_bind (wp_nox (h1.mono fun b S2 ⟨hb, hS⟩ => ?_))
    subst hb hS
    cases hp : p x with
    | false =>
      rw [if_neg (by decide)]
      exact wp_compS f p g _ l acc Q (by omega) (fun y hy => st y (by simp [hy])) (by simpa [hp] using q)
    | true =>
      rw [if_pos rfl]
      refine wp_bind (wp_nox ((h2 hp).mono fun y S3 ⟨hy, hS⟩ => ?_))
      subst hy hS
      dsimp only
      rw [if_pos (by omega)]
      exact wp_compS f p g _ l (acc ++ [g x]) Q (by simp; omega) (fun y hy => st y (by simp [hy])) (by simpa [hp] using q)
end
end DL
set_option Elab.async false
set_option linter.all false
set_option maxRecDepth 100000
set_option maxHeartbeats 4000000
namespace DL
open PySem PySem.Spec PyProof.Rows L2
end DL
set_option Elab.async false
set_option linter.all false
set_option maxRecDepth 100000
set_option maxHeartbeats 4000000
namespace DL
open PySem PySem.Spec PyProof.Rows L2
def pairsD : List D → Option (List (Key × D))
  | [] => some []
  | .tup [k, v] :: r => match unK k with
    | some kk => (pairsD r).map ((kk, v) :: ·)
    | none => none
  | _ :: _ => none
def mergeD (acc : List (D × D)) (ps : List (Key × D)) : List (D × D) := ps.foldl (fun a p => putD a p.1 p.2) acc
def eDictM (f : Ex) : Ex := fun ρ S => (f ρ S).bind fun d S => match d with
  | .dic false kvs => .ok (.ref S.length) (S ++ [some (.dic false kvs)])
  | .lst xs => match pairsD xs with
    | some ps => .ok (.ref S.length) (S ++ [some (.dic false (mergeD [] ps))])
    | none => .bad
  | _ => .bad
section
variable {K : PySem.W.Frag} {H : Hp} {Fb : Addr → Prop} {m : List Addr}
theorem kr_merge : ∀ {kv : List (Key × V)} {kd : List (Key × D)} {acc : List (Key × V)} {accD : List (D × D)}, kv.map (·.1) = kd.map (·.1) → RepA K H Fb m (kv.map (·.2)) (kd.map (·.2)) → KR K H Fb m acc accD → KR K H Fb m (mergeK acc kv) (mergeD accD kd)
  | [], [], acc, accD, _, _, q => q
  | p :: kv, r :: kd, acc, accD, hk, q, qa => by
    simp only [List.map_cons, List.cons.injEq] at hk
    rw [List.map_cons, List.map_cons] at q
    cases q with
    | cons r1 q1 =>
      have e := hk.1
      show KR K H Fb m (mergeK (putK acc p.1 p.2) kv) (mergeD (putD accD r.1 r.2) kd)
      rw [e]
      exact kr_merge hk.2 q1 (qa.put _ r1)
  | [], _ :: _, _, _, hk, _, _ => by simp at hk
  | _ :: _, [], _, _, hk, _, _ => by simp at hk
theorem pairs_rep : ∀ {vs : List V} {xs : List D} {kd : List (Key × D)}, RepA K H Fb m vs xs → pairsD xs = some kd → ∃ (ps : List Addr) (kv : List (Key × V)), vs = ps.map V.ref ∧ Paired (fun p kv => SqT K H p [kV kv.1, kv.2]) ps kv ∧ kv.map (·.1) = kd.map (·.1) ∧ RepA K H Fb m (kv.map (·.2)) (kd.map (·.2))
  | [], [], kd, _, e => by
    cases e
    exact ⟨[], [], rfl, .nil, rfl, .nil⟩
  | v :: vs, x :: xs, kd, q, e => by
    cases q with
    | cons r q =>
      unfold pairsD at e
      split at e
      · rename_i h; cases h
      · rename_i k y rest h
        cases h
        split at e
        · rename_i kk ek
          obtain ⟨kd', e1, rfl⟩ := Option.map_eq_some_iff.mp e
          obtain ⟨ps, kv, e2, hp, hk, q2⟩ := pairs_rep q e1
          cases r with
          | @tup a ws _ h z qq =>
            cases qq with
            | cons r1 qq =>
              cases qq with
              | cons r2 qq =>
                cases qq
                have ev := r1.key ek
                subst ev
                exact ⟨a :: ps, (kk, _) :: kv, by rw [e2]; rfl, .cons h hp, by simp [hk], .cons r2 q2⟩
        · cases e
      · cases e
end
def rDictB (X : Cx) : List V → Hp → VK → Prop := fun xs H Q => (∃ (a : Addr) (kvs : List (Key × V)), xs = [.ref a] ∧ Rd H a (.dK kvs) ∧ ∀ p, H p = none → Q (.ref p) (upd H p (.dK kvs))) ∨
  ∃ (a : Addr) (ps : List Addr) (kvs : List (Key × V)), xs = [.ref a] ∧ SqL X.K H a (ps.map V.ref) ∧ Paired (fun p kv => SqT X.K H p [kV kv.1, kv.2]) ps kvs ∧ ∀ p, H p = none → Q (.ref p) (upd H p (.dK (mergeK [] kvs)))
section
variable {X : Cx} {W : WX} {e : Expr} {fe : Ex} {p p0 pos pos0 apos cpos : Pos}
theorem cr_dictB (hc : X.calm = true) : CallR X (.type "dict") (rDictB X) := fun pins s σ H xs us Q I r h => h.elim (fun h => call_dictD pins s σ H xs us Q I r h) (fun h => call_dictP hc pins s σ H xs us Q I r h)
theorem ev_dictM (hc : X.calm = true) (hg : Gl X "dict") (hm : X.mg "dict" = none) (he : EV X W e fe) (hv : bootBuiltins "dict" = some (.type "dict") := by decide +kernel)
    (na : starEach [e] X.env = (false, eval e X.env) :: starEach [] X.env := by rfl) (h1 : (backTo pos (starEach [] X.env)).any (·.1) = false := by rfl) : EV X W (.Call (.Name "dict" p) [e] [] pos) (eDictM fe) := by
  refine pe_imp (pe_callTy (cr_dictB hc) hg hm hv (pa_cons he pa_nil na) (by decide) (by decide) na h1) fun σ H Q h => ?_
  obtain ⟨B, m, ρ, S, r, re, f⟩ := up_one (g := fun d ρ S => match d with
    | .dic false kvs => .ok (.ref S.length) (S ++ [some (.dic false kvs)])
    | .lst xs => match pairsD xs with
      | some ps => .ok (.ref S.length) (S ++ [some (.dic false (mergeD [] ps))])
      | none => .bad
    | _ => .bad) h
  refine ⟨B, m, ρ, S, r, re, f.mono fun x H1 => ?_⟩
  rintro ⟨B, m, ρ, S, d, r, re, rx, f⟩
  split at f
  · cases rx with
    | @dK a kv kvs h z ek q =>
      obtain ⟨od, hd⟩ := h
      exact .inl ⟨a, kv, rfl, .inr ⟨od, hd⟩, fun p hp => f (m ++ [p]) _ _ (Post.new r hp (.dK upd_same z ek (q.kp (kp_new r hp)))) (rep_new r)⟩
  · split at f
    · rename_i ps eps
      cases rx with
      | @lst a vs _ h nf z q =>
        obtain ⟨as, kv, rfl, hp, hk, q2⟩ := pairs_rep q eps
        refine .inr ⟨a, as, kv, rfl, SqL.of h, hp, fun p hp => ?_⟩
        have km := kr_merge hk q2 .nil
        have hz : (mergeK [] kv).length ≤ sizeLine := by
          have h1 := length_mergeK kv []
          have h2 : kv.length = ps.length := by have := congrArg List.length hk; simpa using this
          have h3 : ∀ {xs : List D} {ps : List (Key × D)}, pairsD xs = some ps → ps.length = xs.length := by
            intro xs
            induction xs with
            | nil => intro ps e; cases e; rfl
            | cons x xs ih =>
              intro ps e
              unfold pairsD at e
              split at e
              · rename_i h; cases h
              · rename_i h; cases h
                split at e
                · obtain ⟨kd', e1, rfl⟩ := Option.map_eq_some_iff.mp e
                  simp [ih e1]
                · cases e
              · cases e
          have h4 := q.length
          have h5 := h3 eps
          rw [List.length_nil] at h1
          omega
        exact f (m ++ [p]) _ _ (Post.new r hp (.dK upd_same hz km.keys (km.vals.kp (kp_new r hp)))) (rep_new r)
    · exact f.elim
  · exact f.elim
end
end DL
set_option Elab.async false
set_option linter.all false
set_option maxRecDepth 100000
set_option maxHeartbeats 4000000
namespace DL
open PySem PySem.Spec PyProof.Rows L2
theorem items_rep {K : PySem.W.Frag} {H H' : Hp} {Fb : Addr → Prop} {m : List Addr} : ∀ {ts : List Addr} {kv : List (Key × V)} {kvs : List (D × D)}, (∀ b o, H b = some o → H' b = some o) → Paired (fun (t : Addr) (q : Key × V) => H' t = some (.tup [kV q.1, q.2])) ts kv → KR K H Fb m kv kvs → RepA K H' Fb m (ts.map V.ref) (kvs.map fun p => .tup [p.1, p.2])
  | _, _, _, sm, .nil, .nil => .nil
  | _, _, _, sm, .cons h t, .cons r q => .cons (.tup (.of h) (by show 2 ≤ sizeLine; decide) (.cons (rep_key _) (.cons (r.kp (kp_same fun c o e => sm c o e)) .nil))) (items_rep sm t q)
end DL
set_option Elab.async false
set_option linter.all false
set_option maxRecDepth 100000
set_option maxHeartbeats 4000000
namespace DL
open PySem PySem.Spec PyProof.Rows L2
end DL
set_option Elab.async false
set_option linter.all false
set_option maxRecDepth 100000
set_option maxHeartbeats 4000000
namespace DL
open PySem PySem.Spec PyProof.Rows L2
end DL
set_option Elab.async false
set_option linter.all false
set_option maxRecDepth 100000
set_option maxHeartbeats 4000000
namespace DL
open PySem PySem.Spec PyProof.Rows L2
theorem repA_strs {K : PySem.W.Frag} {H : Hp} {Fb : Addr → Prop} {m : List Addr} : ∀ xs : List Str, RepA K H Fb m (xs.map V.str) (xs.map D.str)
  | [] => .nil
  | x :: xs => .cons (.str x) (repA_strs xs)
end DL
set_option Elab.async false
set_option linter.all false
set_option maxRecDepth 100000
set_option maxHeartbeats 4000000
namespace DL
open PySem PySem.Spec PyProof.Rows L2
def eStr1 (g : Str → D → Option D) (a b : Ex) : Ex := fun ρ S => (a ρ S).bind fun x S => match x with
  | .str s => (b ρ S).bind fun y S => ans S (g s (view S y))
  | _ => .bad
def rG3 (K : PySem.W.Frag) (g : Str → D → Option D) (r : V → List V → Hp → VK → Prop) : Prop :=
  ∀ (s : Str) (v : V) (dy d : D) (H : Hp) (Fb : Addr → Prop) (m : List Addr) (Q : VK), (∀ p, H p = none → ¬ Fb p) → Vw K H Fb m v dy → g s dy = some d → (∀ H' z, Same H H' → Rep K H' Fb m z d → Q z H') → r (.str s) [v] H Q
section
variable {X : Cx} {W : WX} {o e : Expr} {fo fe : Ex} {apos pos : Pos}
theorem ev_str1 {id : String} {name : Str} {g : Str → D → Option D} {r : V → List V → Hp → VK → Prop} (slot : Slot "str" name id) (ty : typeOf (.builtin id) = pure (.type "method_descriptor")) (rule : MtR X id r) (hg : rG3 X.K g r) (ho : EV X W o fo) (he : EV X W e fe)
    (hs : starEach [e] X.env = [(false, eval e X.env)] := by rfl) (hbase : attributeBase o name X.env (eval o X.env) = eval o X.env := by rfl) (hline : (apos.endLine == pos.line) = true := by rfl) :
    EV X W (.Call (.Attribute o name apos) [e] [] pos) (eStr1 g fo fe) := by
  refine pe_imp (pe_m1 slot ty rule ho he hs hbase hline) fun σ H Q h => ?_
  obtain ⟨B, m, ρ, S, r1, re, f⟩ := up_one (g := fun x ρ S => match x with
    | .str s => (fe ρ S).bind fun y S => ans S (g s (view S y))
    | _ => .bad) h
  refine ⟨B, m, ρ, S, r1, re, f.mono fun x H1 => ?_⟩
  rintro ⟨B, m, ρ, S, d, r1, re, rx, f⟩
  split at f
  · rename_i s
    cases rx
    refine ⟨⟨_, rfl⟩, B, m, ρ, S, r1, re, (fin.bind f).mono fun y H2 => ?_⟩
    rintro ⟨m1, S1, d1, po, q, f1⟩
    cases e : g s (view S1 d1) with
    | none => rw [e] at f1; exact f1.elim
    | some z =>
      rw [e] at f1
      exact hg s y _ z H2 _ m1 Q (fr_of po.rl) (vw po.rl q) e fun H' z s q => f1.ok po.rl s q
  · exact f.elim
def startsD (s : Str) (y : D) : Option D := match y with
  | .str t => some (.bl (Txt.startswith s t))
  | _ => none
theorem ev_starts (ho : EV X W o fo) (he : EV X W e fe) (hs : starEach [e] X.env = [(false, eval e X.env)] := by rfl) (hbase : attributeBase o "startswith" X.env (eval o X.env) = eval o X.env := by rfl) (hline : (apos.endLine == pos.line) = true := by rfl) :
    EV X W (.Call (.Attribute o "startswith" apos) [e] [] pos) (eStr1 startsD fo fe) := by
  refine ev_str1 F.slot_str_startswith F.type_str_startswith mt_startswith (fun s v dy d H Fb m Q fr vx eg k => ?_) ho he hs hbase hline
  cases dy <;> simp only [startsD] at eg <;> cases eg
  cases vx.asS
  exact ⟨_, _, rfl, rfl, k H _ (Same.refl H) (.bl _)⟩
def asSs : List D → Option (List Str)
  | [] => some []
  | .str b :: ds => (asSs ds).map (b :: ·)
  | _ :: _ => none
theorem asSs_map : ∀ xs : List Str, asSs (xs.map .str) = some xs
  | [] => rfl
  | x :: xs => by show (asSs (xs.map .str)).map (x :: ·) = _; rw [asSs_map xs]; rfl
theorem asSs_eq : ∀ {ds : List D} {bs : List Str}, asSs ds = some bs → ds = bs.map .str
  | [], _, e => by cases e; rfl
  | .str b :: ds, _, e => by
    obtain ⟨cs, e1, rfl⟩ := Option.map_eq_some_iff.mp (show (asSs ds).map (b :: ·) = _ from e)
    rw [asSs_eq e1]; rfl
  | .non :: _, _, e => by simp [asSs] at e
  | .bl _ :: _, _, e => by simp [asSs] at e
  | .int _ :: _, _, e => by simp [asSs] at e
  | .tup _ :: _, _, e => by simp [asSs] at e
  | .lst _ :: _, _, e => by simp [asSs] at e
  | .dic _ _ :: _, _, e => by simp [asSs] at e
  | .ref _ :: _, _, e => by simp [asSs] at e
  | .raw _ :: _, _, e => by simp [asSs] at e
  | .scr _ :: _, _, e => by simp [asSs] at e
  | .exn _ _ :: _, _, e => by simp [asSs] at e
theorem asSs_vals {K : PySem.W.Frag} {H : Hp} {Fb : Addr → Prop} {m : List Addr} : ∀ {bs : List Str} {vs : List V}, RepA K H Fb m vs (bs.map .str) → vs = bs.map V.str
  | [], _, r => by cases r; rfl
  | b :: bs, _, r => by
    cases r with
    | cons h t => cases h; rw [asSs_vals t]; rfl
def joinD (s : Str) (y : D) : Option D := match y with
  | .lst ys => (asSs ys).bind fun ts => if (ts.map (·.length)).sum + ts.length * s.length ≤ 16777216 then some (.str (Txt.join s ts)) else none
  | .tup ys => (asSs ys).bind fun ts => if (ts.map (·.length)).sum + ts.length * s.length ≤ 16777216 then some (.str (Txt.join s ts)) else none
  | _ => none
theorem ev_join (ho : EV X W o fo) (he : EV X W e fe) (hs : starEach [e] X.env = [(false, eval e X.env)] := by rfl) (hbase : attributeBase o "join" X.env (eval o X.env) = eval o X.env := by rfl) (hline : (apos.endLine == pos.line) = true := by rfl) :
    EV X W (.Call (.Attribute o "join" apos) [e] [] pos) (eStr1 joinD fo fe) := by
  refine ev_str1 F.slot_str_join F.type_str_join mt_join (fun s v dy d H Fb m Q fr vx eg k => ?_) ho he hs hbase hline
  cases dy <;> simp only [joinD] at eg <;> try (cases eg; done)
  · rename_i ys
    cases e1 : asSs ys with
    | none => rw [e1] at eg; cases eg
    | some ts =>
      rw [e1] at eg
      simp only [Option.bind_some] at eg
      split at eg
      · rename_i hz
        cases eg
        obtain ⟨a, vs, rfl, h1, z1, q1⟩ := vx.asT
        rw [asSs_eq e1] at q1
        rw [asSs_vals q1] at h1
        exact ⟨s, a, ts, rfl, rfl, .inr h1, hz, k H _ (Same.refl H) (.str _)⟩
      · cases eg
  · rename_i ys
    cases e1 : asSs ys with
    | none => rw [e1] at eg; cases eg
    | some ts =>
      rw [e1] at eg
      simp only [Option.bind_some] at eg
      split at eg
      · rename_i hz
        cases eg
        obtain ⟨a, vs, rfl, h1, z1, q1⟩ := vx.asL
        rw [asSs_eq e1] at q1
        rw [asSs_vals q1] at h1
        exact ⟨s, a, ts, rfl, rfl, .inl (SqL.of h1), hz, k H _ (Same.refl H) (.str _)⟩
      · cases eg
end
section
variable {Q : D → Sto → Prop} {E : Px} {ρ : Ev} {S : Sto} {a b : Ex}
theorem wp_str1 {g : Str → D → Option D} (h : Wp (a ρ S) (fun x S1 => ∃ s, x = .str s ∧ Wp (b ρ S1) (fun y S2 => Wo (g s (view S2 y)) fun z => Q z S2) E) E) : Wp (eStr1 g a b ρ S) Q E :=
  wp_bind (h.mono fun x S1 ⟨s, e, h⟩ => by
    subst e
    exact (wp_bind (h.mono fun _ _ h => wp_ans h) : Wp ((b ρ S1).bind fun y S => ans S (g s (view S y))) Q E))
theorem vo_starts {s t : Str} {Q : D → Prop} (q : Q (.bl (Txt.startswith s t))) : Wo (startsD s (view S (.str t))) Q := ⟨q⟩
theorem vo_joinL {s : Str} {ts : List Str} {Q : D → Prop} (h : (ts.map (·.length)).sum + ts.length * s.length ≤ 16777216) (q : Q (.str (Txt.join s ts))) : Wo (joinD s (view S (.lst (ts.map .str)))) Q := by
  refine Wo.of ?_ q
  show ((asSs (ts.map .str)).bind fun ts => if (ts.map (·.length)).sum + ts.length * s.length ≤ 16777216 then some (D.str (Txt.join s ts)) else none) = _
  rw [asSs_map]
  show (if _ then _ else _) = _
  rw [if_pos h]
end
open TL
theorem starts_pre (x y : Str) : Txt.startswith x y = pre (tl y) (tl x) := by
  unfold Txt.startswith pre
  rw [StrLaws.subAt_eq]
  have h1 : y.length = (tl y).length := len_tl y
  have h2 : x.length = (tl x).length := len_tl x
  show (decide (0 + y.length ≤ x.length) && ((tl x).drop 0).take y.length == tl y) = _
  rw [List.drop_zero, Nat.zero_add, h1, h2]
  by_cases h : ((tl x).take (tl y).length == tl y) = true
  · rw [h, Bool.and_true]
    have := congrArg List.length (eq_of_beq h)
    rw [List.length_take] at this
    exact decide_eq_true (by omega)
  · rw [Bool.not_eq_true] at h
    rw [h, Bool.and_false]
theorem pre_iff {S l : List Nat} : pre S l = true ↔ S <+: l := by
  unfold pre
  rw [beq_iff_eq, List.prefix_iff_eq_take]
  exact eq_comm
theorem starts_iff {x y : Str} : Txt.startswith x y = true ↔ tl y <+: tl x := by rw [starts_pre, pre_iff]
end DL
namespace DL
open PySem PySem.Spec PyProof.Rows L2
section
variable {S : Sto} {Q : D → Prop} {x y : Str}
theorem vo_addS (h : x.length + y.length ≤ 16777216) (q : Q (.str (x ++ y))) : Wo (addD (view S (.str x)) (view S (.str y))) Q := .of (if_pos (by rw [sizeLine_eq]; exact h)) q
theorem vo_slX {l h : Option Int} (hz : x.length ≤ 16777216) (q : Q (.str (cutS x l h))) : Wo (slD (view S (.str x)) l h) Q := .of (if_pos (by rw [sizeLine_eq]; exact hz)) q
theorem vo_lenX (hz : x.length ≤ 16777216) (q : Q (.int x.length)) : Wo (lenD (List.map (view S) [.str x])) Q := .of (if_pos (by rw [sizeLine_eq]; exact hz)) q
theorem vo_ixS {i : Int} {c : Nat} (hz : x.length ≤ 16777216) (h : atI x.cps.toList i = some c) (q : Q (.str ⟨#[c]⟩)) : Wo (ixD (view S (.str x)) (view S (.int i))) Q := by
  refine .of ?_ q
  show (if _ then _ else _) = _
  rw [if_pos (by rw [sizeLine_eq]; exact hz), h]
  rfl
end
theorem slash_len : ("/" : Str).length = 1 := by decide
theorem tl_slash : TL.tl ("/" : Str) = [47] := by decide
end DL
set_option Elab.async false
set_option linter.all false
set_option maxRecDepth 100000
set_option maxHeartbeats 4000000
namespace DL
open PySem PySem.Spec PyProof.Rows L2
def ltKb : Key → Key → Bool
  | .inl i, .inl j => decide (i < j)
  | .inr x, .inr y => decide (x.cps.toList < y.cps.toList)
  | .inl _, .inr _ => true
  | .inr _, .inl _ => false
theorem swo_key : SrtO.Swo ltKb := by
  refine ⟨fun x y h => ?_, fun x y z h1 h2 => ?_⟩
  · match x, y, h with
    | .inl i, .inl j, h =>
      have h := of_decide_eq_true (show decide (i < j) = true from h)
      exact decide_eq_false (by omega)
    | .inl i, .inr j, h => rfl
    | .inr i, .inr j, h =>
      have h := of_decide_eq_true (show decide (i.cps.toList < j.cps.toList) = true from h)
      exact decide_eq_false (List.lt_asymm h)
  · match x, y, z, h1, h2 with
    | .inl i, .inl j, .inl k, h1, h2 =>
      have h1 := of_decide_eq_false (show decide (j < i) = false from h1)
      have h2 := of_decide_eq_false (show decide (k < j) = false from h2)
      exact decide_eq_false (by omega)
    | .inl i, _, .inr k, h1, h2 => rfl
    | .inr i, .inr j, .inr k, h1, h2 =>
      have h1 := List.not_lt.mp (of_decide_eq_false (show decide (j.cps.toList < i.cps.toList) = false from h1))
      have h2 := List.not_lt.mp (of_decide_eq_false (show decide (k.cps.toList < j.cps.toList) = false from h2))
      exact decide_eq_false (List.not_lt.mpr (List.le_trans h1 h2))
def kindT : Key → String
  | .inl _ => "int"
  | .inr _ => "str"
/-- v is a tuple whose first item is the key k -/
def FstIn (h : Heap) (v : Value) (k : Key) : Prop := ∃ (a : Addr) (u : Value) (r : List Value), v = .ref a ∧ IsTup h a (u :: r).toArray ∧ RelV (kV k) u
theorem FstIn.keeps {h h' : Heap} {v : Value} {k : Key} (x : FstIn h v k) (kk : ∀ b o, h.get? b = some o → o.cls = .type "tuple" → h'.get? b = some o) : FstIn h' v k := by
  obtain ⟨a, u, r, e, ⟨o, ho, hc, rr⟩, q⟩ := x
  exact ⟨a, u, r, e, ⟨o, kk _ _ ho hc, hc, rr⟩, q⟩
theorem fst_firsts {h : Heap} {kf : Value → Key} : ∀ vs : List Value, (∀ v ∈ vs, FstIn h v (kf v)) → ∃ fs : List Value, PySem.W.KatTups h vs fs ∧ fs.length = vs.length ∧ ∀ f ∈ fs, ∃ v ∈ vs, RelV (kV (kf v)) f
  | [], _ => ⟨[], PySem.W.KatTups.nil, rfl, fun f hf => by simp at hf⟩
  | v :: vs, x => by
    obtain ⟨fs, k, hl, hi⟩ := fst_firsts vs fun u hu => x u (List.mem_cons_of_mem _ hu)
    obtain ⟨a, u, r, e, ⟨o, ho, hc, n, hd⟩, q⟩ := x v (List.mem_cons_self ..)
    rw [e] at q ⊢
    refine ⟨u :: fs, PySem.W.KatTups.cons ho hc hd rfl k, by rw [List.length_cons, List.length_cons, hl], fun f hf => ?_⟩
    rcases List.mem_cons.mp hf with rfl | hf
    · exact ⟨_, List.mem_cons_self .., q⟩
    · obtain ⟨v', hv', q'⟩ := hi f hf
      exact ⟨v', List.mem_cons_of_mem _ hv', q'⟩
section
variable {prog : Program} {w : World} {A : Around} {E : Value → Shared → Prop} {s : Shared}
theorem kat_same {b fin : Bool} {Q : Bool → Shared → Prop} : ∀ (r : List Value) (i : Nat), Q fin s → PySem.W.KatLex prog w A b fin Q (r.zip r) i s
  | [], i, h => PySem.W.kat_nil h
  | x :: r, i, h => by
    show PySem.W.KatLex prog w A b fin Q ((x, x) :: r.zip r) i s
    exact PySem.W.kat_cons (SeqAt.EqAt.same x prog w _ _ (PySem.W.kat_yes (kat_same r (i + 1) h)))
theorem fst_cmp {vs : List Value} {kf : Value → Key} (hp : ∀ v ∈ vs, FstIn s.heap v (kf v)) (hk : ∀ v ∈ vs, ∀ u ∈ vs, kindT (kf v) = kindT (kf u)) (hu : ∀ v ∈ vs, ∀ u ∈ vs, kf v = kf u → v = u) :
    SrtO.Cmp prog w A s (tuples' true) (fun p => p.1 ∈ vs) (SrtO.lt2 fun v u => ltKb (kf v) (kf u)) := by
  intro p q hm hm'
  show wpAny (model prog w) A (keyLt' (tuples' true) p.1 q.1) (fun r s' => s' = s ∧ r = ltKb (kf p.1) (kf q.1)) (fun _ _ => False) s
  generalize p.1 = x at hm ⊢
  generalize q.1 = y at hm' ⊢
  have h1 := hp x hm
  have h2 := hp y hm'
  have h3 := hk x hm y hm'
  by_cases e : kf x = kf y
  · have exy := hu x hm y hm' e
    subst exy
    obtain ⟨a, u, r, ea, ⟨o, ho, hc, n, hd⟩, q⟩ := h1
    rw [ea]
    rw [ea] at q
    refine PySem.W.kat_lt ho hd ho hd ?_
    refine kat_same _ 0 ⟨rfl, ?_⟩
    rw [(swo_key).refl]
    simp
  · obtain ⟨a, u, r, rfl, ⟨o, ho, hc, n, hd⟩, q⟩ := h1
    obtain ⟨a', u', r', rfl, ⟨o', ho', hc', n', hd'⟩, q'⟩ := h2
    refine PySem.W.kat_lt ho hd ho' hd' ?_
    show PySem.W.KatLex prog w A true (decide (_ < _)) _ ((u, u') :: r.zip r') 0 s
    generalize kf (.ref a) = kx at e h3 q ⊢
    generalize kf (.ref a') = ky at e h3 q' ⊢
    cases kx with
    | inl i => cases ky with
      | inl j =>
        obtain ⟨t, rfl⟩ := q
        obtain ⟨t', rfl⟩ := q'
        refine PySem.W.kat_cons (SeqAt.EqAt.int_int i t j t' prog w _ _ ?_)
        refine PySem.W.kat_go (fun e1 => ?_) (fun e1 => PySem.W.kat_no (oneLt_int ⟨rfl, rfl⟩))
        exact absurd (congrArg Sum.inl (show i = j by simpa using e1)) e
      | inr z => exact absurd h3 (by simp [kindT])
    | inr x => cases ky with
      | inl j => exact absurd h3 (by simp [kindT])
      | inr z =>
        obtain ⟨t, rfl⟩ := q
        obtain ⟨t', rfl⟩ := q'
        refine PySem.W.kat_cons (SeqAt.EqAt.str_str x t z t' prog w _ _ ?_)
        refine PySem.W.kat_go (fun e1 => ?_) (fun e1 => PySem.W.kat_no (oneLt_str ⟨rfl, rfl⟩))
        exact absurd (congrArg Sum.inr (show x = z by simpa using e1)) e
theorem fst_sortable {a : Addr} {vs : List Value} {kf : Value → Key} (h2 : 2 ≤ vs.length) (hp : ∀ v ∈ vs, FstIn s.heap v (kf v)) (hk : ∀ v ∈ vs, ∀ u ∈ vs, kindT (kf v) = kindT (kf u)) (hu : ∀ v ∈ vs, ∀ u ∈ vs, kf v = kf u → v = u)
    (ha : ∀ o, s.heap.get? a = some o → o.cls ≠ .type "tuple") : SrtO.SortableO prog w A s a vs fun v u => ltKb (kf v) (kf u) := by
  intro h' keep
  have hp' : ∀ v ∈ vs, FstIn h' v (kf v) := fun v hm => (hp v hm).keeps fun b o e c => keep b o (fun z => by subst z; exact ha o e c) e
  obtain ⟨fs, h1, h3, h4⟩ := fst_firsts vs hp'
  refine ⟨tuples' true, fun Q E hq => ?_, fst_cmp (s := { s with heap := h' }) hp' hk hu⟩
  match vs, h2 with
  | v0 :: vs, h2 =>
    have k0 := hk v0 (List.mem_cons_self ..)
    cases e0 : kf v0 with
    | inl i =>
      refine PySem.W.kat_kind (T := .type "int") h1 (by omega) (fun f hm => ?_) (by rfl) ?_
      · obtain ⟨v, hv, q⟩ := h4 f hm
        have := k0 v hv
        rw [e0] at this
        cases e1 : kf v with
        | inl j =>
          rw [e1] at q
          obtain ⟨t, rfl⟩ := q
          exact PySem.W.Looks.now
        | inr z => rw [e1] at this; exact absurd this (by simp [kindT])
      · have e : (Value.type "int" != Value.type "tuple") = true := by first | decide +kernel | rfl | decide
        rw [e]
        exact hq
    | inr z =>
      refine PySem.W.kat_kind (T := .type "str") h1 (by omega) (fun f hm => ?_) (by rfl) ?_
      · obtain ⟨v, hv, q⟩ := h4 f hm
        have := k0 v hv
        rw [e0] at this
        cases e1 : kf v with
        | inr j =>
          rw [e1] at q
          obtain ⟨t, rfl⟩ := q
          exact PySem.W.Looks.now
        | inl z => rw [e1] at this; exact absurd this (by simp [kindT])
      · have e : (Value.type "str" != Value.type "tuple") = true := by first | decide +kernel | rfl | decide
        rw [e]
        exact hq
end
abbrev ltF (kf : V → Key) : V → V → Bool := fun x y => ltKb (kf x) (kf y)
def rSortF (K : PySem.W.Frag) : List V → Hp → VK → Prop := fun vs H Q => ∃ (a : Addr) (xs : List V) (kf : V → Key), vs = [V.ref a] ∧ SqL K H a xs ∧ (∀ x ∈ xs, ∃ (t : Addr) (r : List V), x = .ref t ∧ SqT K H t (kV (kf x) :: r)) ∧ (∀ x ∈ xs, ∀ y ∈ xs, kindT (kf x) = kindT (kf y)) ∧ (∀ x ∈ xs, ∀ y ∈ xs, kf x = kf y → x = y) ∧
  ∀ (zs : List V) (p : Addr), zs.Perm xs → SrtO.Srtd (ltF kf) zs → H p = none → Q (.ref p) (upd H p (.lst zs))
theorem swo_by {α : Type} (kf : α → Key) : SrtO.Swo fun x y => ltKb (kf x) (kf y) := ⟨fun x y h => swo_key.asym _ _ h, fun x y z h1 h2 => swo_key.tr _ _ _ h1 h2⟩
section
variable {X : Cx}
theorem fst_of {pins : List (Addr × Obj)} {σ : L2.St} {H : Hp} {s : Shared} {t : Addr} {r : List V} {k : Key} (I : Inv X pins σ H s) (h : SqT X.K H t (kV k :: r)) : FstIn s.heap (.ref t) k := by
  obtain ⟨its, rv, ht, _⟩ := I.tuple h
  cases rv with
  | cons r1 rv => exact ⟨t, _, _, rfl, ht, r1⟩
theorem cr_sortF : CallR X (.builtin "sorted") (rSortF X.K) := by
  intro pins s σ H vs us Q I r h
  obtain ⟨a, xs, kf, rfl, hs, hx, hk, hu, q⟩ := h
  obtain ⟨its, rv, hl, hz⟩ := I.list hs
  rw [Vals.ref1 r]
  obtain ⟨e1, e2⟩ := refs_back rv fun x m => by
    obtain ⟨t, r, e, _⟩ := hx x m
    exact ⟨t, e⟩
  have mem : ∀ v ∈ its, backV v ∈ xs := fun v hv => by rw [e1]; exact List.mem_map.mpr ⟨v, hv, rfl⟩
  have hp : ∀ v ∈ its, FstIn s.heap v (kf (backV v)) := fun v hv => by
    have hm := mem v hv
    obtain ⟨t, rfl⟩ := e2 v hv
    obtain ⟨t', r, e, ht⟩ := hx _ hm
    cases e
    exact fst_of I ht
  have hb : ∀ v ∈ its, ∀ u ∈ its, backV v = backV u → v = u := fun v hv u hu' e => by
    obtain ⟨t, rfl⟩ := e2 v hv
    obtain ⟨t', rfl⟩ := e2 u hu'
    cases e
    rfl
  refine SrtO.sorted_ord (swo_by fun u => kf (backV u)) hl.isList (by rw [← rv.length]; exact hz) (fun h2 h₁ a' ha' kk => ?_) fun out h1 h2 => ?_
  · refine fst_sortable (s := { s with heap := h₁ }) h2 (fun v hm => (hp v hm).keeps fun b o e _ => (kk b o e).2) (fun v hv u hu' => hk _ (mem v hv) _ (mem u hu')) (fun v hv u hu' e => hb v hv u hu' (hu _ (mem v hv) _ (mem u hu') e)) fun o e => ?_
    have e' : some o = some (seqObj "list" its.toArray 0) := e.symm.trans ha'
    cases e'
    intro c
    exact absurd (Value.type.inj c) (by decide)
  · have h3 : ∀ u ∈ out, ∃ a, u = Value.ref a := fun u hu => e2 u (h2.perm.mem_iff.mp hu)
    obtain ⟨ep, he'⟩ := PyProof.Rows.sortedAll_at s.heap its out.toArray
    have hp' : (out.map backV).Perm xs := by rw [e1]; exact h2.perm.map _
    have hlen : (out.map backV).length ≤ sizeLine := by rw [hp'.length_eq]; exact hz
    exact ⟨.ref _, upd H (s.heap.objs.size + 1) (.lst (out.map backV)), I.laid (t' := s.toks) (fun _ _ => PyProof.Rows.sortedAll_old) (Nat.le_succ _) ⟨hlen, out, ep, vals_back h3, he'⟩, rfl, q _ _ hp' (List.pairwise_map.mpr h1) (I.hok.fresh (Nat.le_succ _))⟩
end
def rSortIt : V → Hp → VK → Prop := fun x H Q => ∃ (d : Addr) (kvs : List (Key × V)), x = .ref d ∧ Rd H d (.dK kvs) ∧ (∀ x ∈ kvs, ∀ y ∈ kvs, kindT x.1 = kindT y.1) ∧ (kvs.map (·.1)).Nodup ∧
  ∀ (H' : Hp) (p : Addr) (ts : List Addr) (zs : List (Key × V)), (∀ b o, H b = some o → H' b = some o) → H p = none → H' p = some (.lst (ts.map V.ref)) → zs.Perm kvs → SrtO.Srtd (fun x y => ltKb x.1 y.1) zs → Paired (fun (t : Addr) (q : Key × V) => H' t = some (.tup [kV q.1, q.2])) ts zs → Q (.ref p) H'
def tSortIt (te : TE) : TE := fun σ H Q => te σ H fun x H1 => rSortIt x H1 Q
section
variable {X : Cx} {e : Expr} {te : TE} {p0 apos cpos pos0 : Pos}
theorem perm_lift {α β : Type} : ∀ {zs as : List α} {ys : List β}, zs.Perm as → as.length = ys.length → ∃ ws : List (α × β), ws.Perm (as.zip ys) ∧ ws.map (·.1) = zs
  | _, as, ys, h, hl => by
    have : ∀ {zs as : List α}, zs.Perm as → ∀ {ps : List (α × β)}, ps.map (·.1) = as → ∃ ws : List (α × β), ws.Perm ps ∧ ws.map (·.1) = zs := by
      intro zs as h
      induction h with
      | nil => intro ps e; exact ⟨ps, .refl _, e⟩
      | cons x _ ih =>
        intro ps e
        cases ps with
        | nil => simp at e
        | cons p ps =>
          simp only [List.map_cons, List.cons.injEq] at e
          obtain ⟨ws, h1, h2⟩ := ih e.2
          exact ⟨p :: ws, h1.cons p, by simp [h2, e.1]⟩
      | swap x y l =>
        intro ps e
        match ps, e with
        | p :: q :: ps, e =>
          simp only [List.map_cons, List.cons.injEq] at e
          exact ⟨q :: p :: ps, .swap _ _ _, by simp [e.1, e.2.1, e.2.2]⟩
      | trans _ _ ih1 ih2 =>
        intro ps e
        obtain ⟨ws, h1, h2⟩ := ih2 e
        obtain ⟨us, h3, h4⟩ := ih1 h2
        exact ⟨us, h3.trans h1, h4⟩
    exact this h (by rw [List.map_fst_zip (by omega)])
theorem zip_paired {α β : Type} {F : α → β → Prop} : ∀ (ws : List (α × β)), (∀ p ∈ ws, F p.1 p.2) → Paired F (ws.map (·.1)) (ws.map (·.2))
  | [], _ => .nil
  | w :: ws, h => .cons (h w (List.mem_cons_self ..)) (zip_paired ws fun p hp => h p (List.mem_cons_of_mem _ hp))
def kfH (h : Heap) : Value → Key
  | .ref a => match h.get? a with
    | some o => match o.data with
      | .seq xs _ => match xs.toList with
        | .int i _ :: _ => .inl i
        | .str x _ :: _ => .inr x
        | _ => .inl 0
      | _ => .inl 0
    | none => .inl 0
  | _ => .inl 0
theorem FstIn.kf {h : Heap} {v : Value} {k : Key} (x : FstIn h v k) : kfH h v = k := by
  obtain ⟨a, u, r, rfl, ⟨o, ho, hc, n, hd⟩, q⟩ := x
  cases k with
  | inl i => obtain ⟨t, rfl⟩ := q; simp only [kfH, ho, hd]
  | inr z => obtain ⟨t, rfl⟩ := q; simp only [kfH, ho, hd]
theorem tups_laid {pins : List (Addr × Obj)} {σ : L2.St} {H : Hp} {s : Shared} {h' : Heap} {tk : Nat} {kvs : List (Key × V)} {vs : List (Key × Value)} {as : List Addr} {lo : Addr} (I : Inv X pins σ H s) (kv : KV kvs vs) (hlo : s.heap.objs.size ≤ lo)
    (hk : ∀ b o, s.heap.get? b = some o → h'.get? b = some o) (hl : as.length = vs.length) (hG : PySem.W.KdxG (mixKind X.prog X.w) vs lo h' as) :
    ∃ H' : Hp, (∀ b o, H b = some o → H' b = some o) ∧ Paired (fun (t : Addr) (q : Key × V) => H' t = some (.tup [kV q.1, q.2])) as kvs ∧ Inv X pins σ H' { s with heap := h', toks := tk } := by
  have lk : kvs.length = vs.length := Paired.length kv
  have nd : as.Nodup := List.Pairwise.imp (fun {a b} (h : a < b) => Nat.ne_of_lt h) hG.rise
  have new : ∀ t ∈ as, H t = none := fun t ht => I.hok.fresh (Nat.le_trans hlo (Nat.le_of_lt (hG.above t ht)))
  have atP := LiI.putT_at as kvs H (by omega) nd
  have off : ∀ b, b ∉ as → LiI.putT H as kvs b = H b := fun b h1 => LiI.putT_off as kvs _ h1
  have low : ∀ b o, s.heap.get? b = some o → b ∉ as := fun b o e z => absurd (Heap.lt_size e) (Nat.not_lt.mpr (Nat.le_trans hlo (Nat.le_of_lt (hG.above b z))))
  have kp : ∀ b u, H b = some u → LiI.putT H as kvs b = some u := fun b u e => by
    rw [off b (fun z => by rw [new b z] at e; cases e)]
    exact e
  refine ⟨LiI.putT H as kvs, kp, atP, ?_⟩
  refine I.call' (ch := []) rfl ⟨fun b o q _ _ _ => hk b o q, fun b o q _ _ _ => ⟨o.slots, hk b o q⟩, fun b o q n _ => ?_, fun b o q _ => ⟨o, hk b o q⟩, fun b xs q => kp b _ q, fun b o u q => kp b _ q, fun b ps q => ⟨#[], by rw [kp b _ q]; simp⟩⟩ (fun b u q => ?_) I.bare fun b z => by simp at z
  · rw [off b (low b o q)]
    exact n
  · by_cases hb : b ∈ as
    · obtain ⟨j, pk, e1, e2, e3⟩ := LiI.paired_ix atP hb
      rw [e3] at q
      cases q
      obtain ⟨key, k, x, f1, f2, f3⟩ := hG.pairs j b e1
      obtain ⟨qv, g1, g2, g3⟩ := LiI.paired_get kv e2
      rw [f1] at g1
      cases g1
      have rk : RelV (kV pk.1) key := by
        rw [g2]
        exact relV_key (show keyIs k key = true from f2)
      exact ⟨by show 2 ≤ sizeLine; decide, [key, x], .cons rk (.cons g3 .nil), ⟨_, f3, rfl, _, rfl⟩⟩
    · rw [off b hb] at q
      exact (I.hok b u q).stay (fun d v _ y => hk d v y) (fun d y => kp d _ y) fun d xs y => kp d _ y
theorem pe_sortIt (hc : X.calm = true) (hgl : Gl X "sorted") (hml : X.mg "sorted" = none) (he : PE X e te) (hbase : attributeBase e "items" X.env (eval e X.env) = eval e X.env := by rfl) (hline : (apos.endLine == cpos.line) = true := by rfl)
    (hb : bootBuiltins "sorted" = some (.builtin "sorted") := by decide +kernel)
    (na : starEach [.Call (.Attribute e "items" apos) [] [] cpos] X.env = (false, eval (.Call (.Attribute e "items" apos) [] [] cpos) X.env) :: starEach [] X.env := by rfl) (hpl : (backTo pos0 (starEach [] X.env)).any (·.1) = false := by rfl) :
    PE X (.Call (.Name "sorted" p0) [.Call (.Attribute e "items" apos) [] [] cpos] [] pos0) (tSortIt te) := by
  refine ⟨fun pins s σ H Q I hq => ?_⟩
  refine wpAny_Call_Name_kw (ld_blt I hgl hml hb ?_ (by decide) (by decide))
  refine PyProof.Rows.callWith_builtin1 (args_cons ?_ na) na hpl
  refine wpAny_Call_method (T := "dict") (id := "dict.items") hbase rfl hline F.plainAttrs_dict F.slot_dict_items F.type_dict_items (thn (he.run pins s σ H _ I hq) fun u s1 ⟨x, H1, I1, rx, d, kvs, ex, hd, hk, hn, q⟩ => ?_)
  subst ex
  obtain rfl : u = Value.ref d := rx
  obtain ⟨hz, hs0, vs, kv, hdo⟩ := dk_rd I1.hok hd
  obtain ⟨ep, hat⟩ := hdo.dictAt
  have lk : kvs.length = vs.length := Paired.length kv
  have I2 : Inv X pins σ H1 { s1 with heap := s1.heap.push { cls := .type "dict_items", data := .fields #[.ref d] } } := I1.kept (t' := s1.toks) fun b ob q => Heap.get?_push_of_some _ q
  refine ⟨hdo.typeIs, hdo.mapOf.noDict, ?_⟩
  show wpAny _ _ (callWith cpos (.builtin "dict.items") [.ref d] [] []) _ X.xe s1
  refine method_meetsIn F.slot_dict_items F.entry_dict_items rfl (PySem.evalArgs_none ⟨rfl, hdo.typeIs, F.args_dict_items_1 _, _, meets_dict_items (mixKind X.prog X.w) d hs0, ⟨vs, hdo⟩, ?_⟩)
  refine args_nil ?_
  refine Calls.call_function_entry kind_sorted plain_sorted entry_sorted (args_sorted1 _) ?_
  unfold Builtin.«sorted»
  refine wpAny_bind (m := checkCount "sorted" 1 1 _) (wpAny_pure ?_)
  refine wpAny_bind (PySem.W.kdx_collect (A := X.A.in1) (knd := mixKind X.prog X.w) (kvs := vs) (ep := ep) (I1.ok.hd hc) ⟨_, Heap.get?_push_size _ rfl, rfl, rfl⟩ (hat.push _) (by omega) fun h' tk as hkk hl hG => ?_)
  refine wpAny_bind (wpAny_newList ?_ (by rw [List.length_map]; omega))
  -- the list that is sorted
  have hoL : (h'.push (seqObj "list" (as.map Value.ref).toArray 0)).get? h'.objs.size = some (seqObj "list" (as.map Value.ref).toArray 0) := Heap.get?_push_size _ rfl
  have hdep : ∀ a ∈ as, a < h'.objs.size := fun a ha => hG.there ha
  have nd : as.Nodup := List.Pairwise.imp (fun {a b} (h : a < b) => Nat.ne_of_lt h) hG.rise
  have fst : ∀ (j : Nat) (a : Addr), as[j]? = some a → ∃ (k : Key) (x : V), kvs[j]? = some (k, x) ∧ FstIn h' (.ref a) k := fun j a e => by
    obtain ⟨key, k, x, f1, f2, f3⟩ := hG.pairs j a e
    have hj : j < kvs.length := by rw [lk]; exact (List.getElem?_eq_some_iff.mp f1).1
    have g : kvs[j]? = some kvs[j] := List.getElem?_eq_getElem hj
    obtain ⟨y, g1, g2, g3⟩ := LiI.paired_get kv g
    rw [f1] at g1
    cases g1
    refine ⟨kvs[j].1, kvs[j].2, g, a, key, [x], rfl, ⟨_, f3, rfl, _, rfl⟩, ?_⟩
    rw [g2]
    exact relV_key (show keyIs k key = true from f2)
  have fst' : ∀ v ∈ as.map Value.ref, FstIn h' v (kfH h' v) := fun v hv => by
    obtain ⟨a, ha, rfl⟩ := List.mem_map.mp hv
    obtain ⟨j, hj⟩ := List.mem_iff_getElem?.mp ha
    obtain ⟨k, x, _, f⟩ := fst j a hj
    rw [f.kf]
    exact f
  have ix : ∀ v ∈ as.map Value.ref, ∃ (j : Nat) (a : Addr) (q : Key × V), v = .ref a ∧ as[j]? = some a ∧ kvs[j]? = some q ∧ kfH h' v = q.1 := fun v hv => by
    obtain ⟨a, ha, rfl⟩ := List.mem_map.mp hv
    obtain ⟨j, hj⟩ := List.mem_iff_getElem?.mp ha
    obtain ⟨k, x, g, f⟩ := fst j a hj
    exact ⟨j, a, _, rfl, hj, g, f.kf⟩
  have hkind : ∀ v ∈ as.map Value.ref, ∀ u ∈ as.map Value.ref, kindT (kfH h' v) = kindT (kfH h' u) := fun v hv u hu => by
    obtain ⟨_, _, q1, _, _, g1, e1⟩ := ix v hv
    obtain ⟨_, _, q2, _, _, g2, e2⟩ := ix u hu
    rw [e1, e2]
    exact hk _ (List.mem_of_getElem? g1) _ (List.mem_of_getElem? g2)
  have huniq : ∀ v ∈ as.map Value.ref, ∀ u ∈ as.map Value.ref, kfH h' v = kfH h' u → v = u := fun v hv u hu e => by
    obtain ⟨j, a, q1, rfl, h1, g1, e1⟩ := ix v hv
    obtain ⟨i, b, q2, rfl, h2, g2, e2⟩ := ix u hu
    rw [e1, e2] at e
    have : j = i := by
      have a1 : (kvs.map (·.1))[j]? = some q1.1 := by rw [List.getElem?_map, g1]; rfl
      have a2 : (kvs.map (·.1))[i]? = some q1.1 := by rw [List.getElem?_map, g2, e]; rfl
      have b1 := (List.getElem?_eq_some_iff.mp a1)
      have b2 := (List.getElem?_eq_some_iff.mp a2)
      obtain ⟨c1, d1⟩ := b1
      obtain ⟨c2, d2⟩ := b2
      exact (List.getElem_inj hn).mp (d1.trans d2.symm)
    subst this
    rw [h1] at h2
    cases h2
    rfl
  obtain ⟨H3, k3, atP, I3⟩ := tups_laid (tk := tk) (lo := (s1.heap.push { cls := .type "dict_items", data := .fields #[.ref d] }).objs.size) I2 kv (Nat.le_refl _) hkk hl hG
  refine wpAny_bind (wpAny_holding (wpAny_call_entry slot_list_sort ⟨_, hoL, rfl⟩ entry_list_sort (SrtO.list_sort_ord (swo_by fun u => kfH h' u) hoL (by rw [List.length_map]; omega) (fun h2 => ?_) fun out hs hb => ⟨_, rfl, ?_⟩) (args_list_sort _)))
  · refine fst_sortable h2 (fun v hv => (fst' v hv).keeps fun b o e _ => Heap.get?_push_of_some _ e) hkind huniq fun o e => ?_
    have e' : some o = some (seqObj "list" (as.map Value.ref).toArray 0) := e.symm.trans hoL
    cases e'
    intro c
    exact absurd (Value.type.inj c) (by decide)
  · obtain ⟨ep, he'⟩ := PyProof.Rows.sortedHeap_at (vs := as.map Value.ref) (out := out.toArray) hoL
    have h3 : ∀ u ∈ out, ∃ a, u = Value.ref a := fun u hu => by
      obtain ⟨a, _, rfl⟩ := List.mem_map.mp (hb.perm.mem_iff.mp hu)
      exact ⟨a, rfl⟩
    obtain ⟨ws, w1, w2⟩ := perm_lift (ys := kvs) (hb.perm) (by rw [List.length_map]; omega)
    have wm : ∀ p ∈ ws, ∃ (a : Addr) (j : Nat), p.1 = Value.ref a ∧ as[j]? = some a ∧ kvs[j]? = some p.2 := fun p hp => by
      obtain ⟨j, hj⟩ := List.mem_iff_getElem?.mp (w1.mem_iff.mp hp)
      rw [List.getElem?_zip_eq_some] at hj
      rw [List.getElem?_map] at hj
      obtain ⟨g1, g2⟩ := hj
      obtain ⟨a, ha, e⟩ := Option.map_eq_some_iff.mp g1
      exact ⟨a, j, e.symm, ha, g2⟩
    have adr : ∀ v : Value, (∃ a, v = Value.ref a) → Value.ref (DT.refOf (some v)) = v := by rintro v ⟨a, rfl⟩; rfl
    have eout : out = (ws.map fun p => DT.refOf (some p.1)).map Value.ref := by
      rw [List.map_map, ← w2]
      refine List.map_congr_left fun p hp => ?_
      obtain ⟨a, _, e, _⟩ := wm p hp
      exact (adr _ ⟨a, e⟩).symm
    have eV : out.map backV = (ws.map fun p => DT.refOf (some p.1)).map V.ref := by
      conv => lhs; rw [eout]
      rw [List.map_map, List.map_map, List.map_map]
      rfl
    have hlen : (out.map backV).length ≤ sizeLine := by rw [List.length_map, hb.perm.length_eq, List.length_map]; omega
    have hfr : H3 h'.objs.size = none := I3.hok.fresh (Nat.le_refl _)
    refine wpAny_pure ⟨_, rfl, .ref h'.objs.size, upd H3 h'.objs.size (.lst (out.map backV)), I3.laid (t' := tk) (fun b u e => ?_) (Nat.le_refl _) ⟨hlen, out, ep, vals_back h3, he'⟩, rfl, q _ _ (ws.map fun p => DT.refOf (some p.1)) (ws.map (·.2)) (fun b o e => ?_) ?_ ?_ ?_ ?_ ?_⟩
    · have hb : b < h'.objs.size := Heap.lt_size e
      rw [PyProof.Rows.sortedHeap_old (Nat.ne_of_lt hb) (by rw [Heap.size_push]; exact Nat.lt_succ_of_lt hb)]
      exact Heap.get?_push_of_some _ e
    · exact same_upd hfr b o (k3 b o e)
    · cases e9 : H1 h'.objs.size with
      | none => rfl
      | some o => rw [k3 _ _ e9] at hfr; cases hfr
    · rw [upd_same, eV]
    · have := w1.map (·.2)
      rwa [List.map_snd_zip (by rw [List.length_map]; omega)] at this
    · rw [← w2] at hs
      refine List.pairwise_map.mpr ((List.pairwise_map.mp hs).imp_of_mem fun {x y} hx hy h => ?_)
      obtain ⟨a, j, e1, e2, e3⟩ := wm x hx
      obtain ⟨b, i, f1, f2, f3⟩ := wm y hy
      obtain ⟨_, _, g1, g2⟩ := fst j a e2
      obtain ⟨_, _, g3, g4⟩ := fst i b f2
      rw [e3] at g1
      rw [f3] at g3
      have h : ltKb (kfH h' y.1) (kfH h' x.1) = false := h
      rw [e1, f1, g2.kf, g4.kf] at h
      simp only [Option.some.injEq] at g1 g3
      rw [g1, g3]
      exact h
    · have : ws.map (fun p => DT.refOf (some p.1)) = (ws.map fun p => (DT.refOf (some p.1), p.2)).map (·.1) := by rw [List.map_map]; rfl
      rw [this]
      have : ws.map (·.2) = (ws.map fun p => (DT.refOf (some p.1), p.2)).map (·.2) := by rw [List.map_map]; rfl
      rw [this]
      refine zip_paired _ fun p hp => ?_
      obtain ⟨p', hp', rfl⟩ := List.mem_map.mp hp
      obtain ⟨a, j, e1, e2, e3⟩ := wm p' hp'
      obtain ⟨y, g1, g2⟩ := LiI.paired_get atP e2
      rw [e3] at g1
      cases g1
      show (upd H3 h'.objs.size _) (DT.refOf (some p'.1)) = _
      rw [e1]
      exact same_upd hfr _ _ g2
end
end DL
set_option Elab.async false
set_option linter.all false
set_option maxRecDepth 100000
set_option maxHeartbeats 4000000
namespace DL
open PySem PySem.Spec PyProof.Rows L2
def leK (a b : Key) : Bool := !ltKb b a
theorem leK_trans (a b c : Key) : leK a b = true → leK b c = true → leK a c = true := by
  unfold leK
  simp only [Bool.not_eq_true']
  exact fun h1 h2 => swo_key.tr a b c h1 h2
theorem leK_total (a b : Key) : (leK a b || leK b a) = true := by
  unfold leK
  cases h : ltKb b a with
  | false => simp
  | true => rw [swo_key.asym _ _ h]; simp
theorem ltKb_anti {a b : Key} (h1 : ltKb a b = false) (h2 : ltKb b a = false) : a = b := by
  match a, b, h1, h2 with
  | .inl i, .inl j, h1, h2 =>
    have h1 := of_decide_eq_false (show decide (i < j) = false from h1)
    have h2 := of_decide_eq_false (show decide (j < i) = false from h2)
    rw [show i = j by omega]
  | .inr i, .inr j, h1, h2 =>
    have h1 := of_decide_eq_false (show decide (i.cps.toList < j.cps.toList) = false from h1)
    have h2 := of_decide_eq_false (show decide (j.cps.toList < i.cps.toList) = false from h2)
    have := List.le_antisymm (List.not_lt.mp h2) (List.not_lt.mp h1)
    rw [TL.ext_tl (x := i) (y := j) this]
/-- l sorted by kf -/
def sortBy {α : Type} (kf : α → Key) (l : List α) : List α := l.mergeSort fun a b => leK (kf a) (kf b)
section
variable {α : Type} {kf : α → Key}
theorem sortBy_perm (l : List α) : (sortBy kf l).Perm l := List.mergeSort_perm _ _
theorem sortBy_len (l : List α) : (sortBy kf l).length = l.length := (sortBy_perm l).length_eq
theorem sortBy_mem {l : List α} {x : α} : x ∈ sortBy kf l ↔ x ∈ l := (sortBy_perm l).mem_iff
theorem sortBy_pw (l : List α) : (sortBy kf l).Pairwise fun a b => ltKb (kf b) (kf a) = false :=
  (List.pairwise_mergeSort (le := fun a b => leK (kf a) (kf b)) (fun a b c => leK_trans _ _ _) (fun a b => leK_total _ _) l).imp fun {a b} h => by simpa [leK] using h
theorem sortBy_uniq {l m : List α} (hp : m.Perm l) (hs : m.Pairwise fun a b => ltKb (kf b) (kf a) = false) (hu : ∀ x ∈ l, ∀ y ∈ l, kf x = kf y → x = y) : m = sortBy kf l :=
  List.Perm.eq_of_pairwise (fun a b ha hb h1 h2 => hu a (hp.mem_iff.mp ha) b (sortBy_mem.mp hb) (ltKb_anti h2 h1)) hs (sortBy_pw l) (hp.trans (sortBy_perm l).symm)
theorem sortBy_map {β : Type} (f : α → β) (g : β → Key) (l : List α) (hu : ∀ x ∈ l, ∀ y ∈ l, g (f x) = g (f y) → f x = f y) : sortBy g (l.map f) = (sortBy (fun x => g (f x)) l).map f := by
  refine (sortBy_uniq ((sortBy_perm l).map f) (List.pairwise_map.mpr (sortBy_pw l)) ?_).symm
  intro x hx y hy e
  obtain ⟨x', hx', rfl⟩ := List.mem_map.mp hx
  obtain ⟨y', hy', rfl⟩ := List.mem_map.mp hy
  exact hu _ hx' _ hy' e
end
/-- texts sorted -/
def sS (ts : List Str) : List Str := sortBy (fun t => Sum.inr t) ts
theorem sS_uniq {ts ys : List Str} (hp : ys.Perm ts) (hs : ys.Pairwise fun a b => ltKb (.inr b) (.inr a) = false) : ys = sS ts := sortBy_uniq hp hs fun x _ y _ e => by cases e; rfl
theorem ltCps_lt : ∀ a b : List Nat, ltCps a b = decide (a < b)
  | [], [] => by simp [ltCps]
  | [], _ :: _ => by simp [ltCps]
  | _ :: _, [] => by simp [ltCps]
  | a :: r, b :: t => by
    rw [ltCps, ltCps_lt r t]
    by_cases h : a < b
    · simp [h, List.cons_lt_cons_iff]
    · by_cases e : a = b
      · subst e; simp [List.cons_lt_cons_iff]
      · simp [h, e, List.cons_lt_cons_iff]
theorem rising_pw : ∀ (l : List Str) (p : Str), risingS p l = true → (p :: l).Pairwise fun a b => ltKb (.inr b) (.inr a) = false
  | [], p, _ => List.pairwise_singleton _ _
  | x :: r, p, h => by
    rw [risingS, Bool.and_eq_true, Bool.not_eq_true'] at h
    have ih := rising_pw r x h.2
    have h1 : ltKb (.inr x) (.inr p) = false := by
      show decide _ = false
      rw [← ltCps_lt]
      exact h.1
    refine List.Pairwise.cons (fun y hy => ?_) ih
    rcases List.mem_cons.mp hy with rfl | hy
    · exact h1
    · exact swo_key.tr _ _ _ h1 ((List.pairwise_cons.mp ih).1 y hy)
theorem sortedS_pw {ys : List Str} (h : sortedS ys = true) : ys.Pairwise fun a b => ltKb (.inr b) (.inr a) = false := by
  cases ys with
  | nil => exact List.Pairwise.nil
  | cons x r => exact rising_pw r x h
def fstK : D → Option Key
  | .tup (x :: _) => unK x
  | _ => none
def fstKs : List D → Option (List Key)
  | [] => some []
  | d :: ds => (fstK d).bind fun k => (fstKs ds).map (k :: ·)
def fstK0 (d : D) : Key := (fstK d).getD (.inl 0)
def kindsOk (ks : List Key) : Bool := ks.all (fun k => k.isLeft) || ks.all (fun k => k.isRight)
theorem kinds_ok {ks : List Key} (h : kindsOk ks = true) : ∀ x ∈ ks, ∀ y ∈ ks, kindT x = kindT y := by
  intro x hx y hy
  unfold kindsOk at h
  rw [Bool.or_eq_true, List.all_eq_true, List.all_eq_true] at h
  rcases h with h | h
  · have a := h x hx
    have b := h y hy
    clear hx hy
    cases x <;> cases y <;> first | rfl | (simp at a; done) | (simp at b; done)
  · have a := h x hx
    have b := h y hy
    clear hx hy
    cases x <;> cases y <;> first | rfl | (simp at a; done) | (simp at b; done)
def keysD : List (D × D) → Option (List Key)
  | [] => some []
  | p :: ps => (unK p.1).bind fun k => (keysD ps).map (k :: ·)
def sortFD (xs : List D) : Option D := (fstKs xs).bind fun ks => if kindsOk ks = true ∧ ks.Nodup then some (.lst (sortBy fstK0 xs)) else none
def sortSD (xs : List D) : Option D := (asSs xs).bind fun ts => if ts.length < 64 then some (.lst ((sS ts).map .str)) else none
def sortXD : List D → Option D
  | [.lst []] => some (.lst [])
  | [.lst (.int i :: xs)] => sortD [.lst (.int i :: xs)]
  | [.lst (.str i :: xs)] => sortSD (.str i :: xs)
  | [.lst (.tup i :: xs)] => sortFD (.tup i :: xs)
  | [.dic false ((.str i, z) :: kvs)] => (keysD ((.str i, z) :: kvs)).bind fun ks => if ks.length < 64 ∧ ks.all (fun k => k.isRight) = true then some (.lst ((sortBy (fun k : Key => k) ks).map keyD)) else none
  | [.dic false kvs] => sortD [.dic false kvs]
  | _ => none
section
variable {X : Cx}
theorem fstKs_rel {K : PySem.W.Frag} {H : Hp} {Fb : Addr → Prop} {m : List Addr} : ∀ {ds : List D} {vs : List V} {ks : List Key}, fstKs ds = some ks → RepA K H Fb m vs ds → ds.map fstK0 = ks ∧ vs.length = ds.length ∧ ∀ (j : Nat) v d, vs[j]? = some v → ds[j]? = some d → ∃ (t : Addr) (r : List V), v = .ref t ∧ SqT K H t (kV (fstK0 d) :: r)
  | [], vs, ks, e, r => by
    cases e; cases r
    exact ⟨rfl, rfl, fun j v d h => by simp at h⟩
  | d :: ds, vs, ks, e, r => by
    unfold fstKs at e
    cases e1 : fstK d with
    | none => rw [e1] at e; cases e
    | some k =>
      rw [e1] at e
      obtain ⟨ks', e2, rfl⟩ := Option.map_eq_some_iff.mp e
      cases r with
      | @cons v vs _ _ h t =>
        obtain ⟨h1, h2, h3⟩ := fstKs_rel e2 t
        have e0 : fstK0 d = k := by unfold fstK0; rw [e1]; rfl
        refine ⟨by rw [List.map_cons, h1, e0], by rw [List.length_cons, List.length_cons, h2], fun j v' d' g1 g2 => ?_⟩
        cases j with
        | succ j => exact h3 j v' d' (by simpa using g1) (by simpa using g2)
        | zero =>
          simp only [List.getElem?_cons_zero, Option.some.injEq] at g1 g2
          subst g1 g2
          unfold fstK at e1
          split at e1
          · rename_i x xs
            cases h with
            | tup q z qr =>
              cases qr with
              | cons q1 q2 =>
                have ev := q1.key e1
                subst ev
                exact ⟨_, _, rfl, by rw [e0]; exact q.sq⟩
          · cases e1
theorem all_left {ks : List Key} (h : ks.all (fun k => k.isRight) = true) : ∃ ts : List Str, ks = ts.map Sum.inr := by
  induction ks with
  | nil => exact ⟨[], rfl⟩
  | cons k ks ih =>
    rw [List.all_cons, Bool.and_eq_true] at h
    obtain ⟨ts, rfl⟩ := ih h.2
    cases k with
    | inl i => simp at h
    | inr x => exact ⟨x :: ts, rfl⟩
theorem keysD_rel {K : PySem.W.Frag} {H : Hp} {Fb : Addr → Prop} {m : List Addr} : ∀ {kv : List (Key × V)} {kvs : List (D × D)} {ks : List Key}, keysD kvs = some ks → KR K H Fb m kv kvs → kv.map (·.1) = ks
  | [], _, ks, e, q => by cases q; cases e; rfl
  | (k, v) :: kv, _, ks, e, q => by
    cases q with
    | cons r q =>
      unfold keysD at e
      rw [show unK (keyD k, _).1 = some k from unK_keyD k] at e
      obtain ⟨ks', e2, rfl⟩ := Option.map_eq_some_iff.mp e
      rw [List.map_cons, keysD_rel e2 q]
theorem cg_sortX (hc : X.calm = true) : CallR X (.builtin "sorted") (rGn X.K sortXD) := by
  intro pins s σ H xs us Q I r ⟨Fb, m, ds, d, fr, vx, e, k⟩
  unfold sortXD at e
  split at e
  · cases e
    exact cg_sorted hc pins s σ H xs us Q I r ⟨Fb, m, _, _, fr, vx, rfl, fun H' z s q => k H' z s (by have e : isI [] = [] := by simp [isI]
                                                                                                      simpa [e] using q)⟩
  · exact cg_sorted hc pins s σ H xs us Q I r ⟨Fb, m, _, d, fr, vx, e, k⟩
  · rename_i i ys
    obtain ⟨ts, e1, e2⟩ := Option.bind_eq_some_iff.mp e
    split at e2
    · rename_i h64
      cases e2
      obtain ⟨v, rfl, h⟩ := vx.one
      obtain ⟨a, vs, rfl, h1, z1, q1⟩ := h.asL
      rw [asSs_eq e1] at q1
      rw [asSs_vals q1] at h1
      refine cr_sortedS pins s σ H _ us Q I r ⟨a, ts, rfl, SqL.of h1, h64, fun ys p hp hs hn => ?_⟩
      have := sS_uniq hp (sortedS_pw hs)
      subst this
      refine k _ _ (same_upd hn) (.lst upd_same (fr p hn) ?_ (repA_strs _))
      have := hp.length_eq
      rw [sizeLine_eq, List.length_map]
      omega
    · cases e2
  · rename_i i ys
    obtain ⟨ks, e1, e2⟩ := Option.bind_eq_some_iff.mp e
    split at e2
    · rename_i hk
      cases e2
      obtain ⟨v, rfl, h⟩ := vx.one
      obtain ⟨a, vs, rfl, h1, z1, q1⟩ := h.asL
      obtain ⟨g1, g2, g3⟩ := fstKs_rel e1 q1
      have gz : ∀ x ∈ vs, ∃ (j : Nat) (d : D), vs[j]? = some x ∧ (D.tup i :: ys)[j]? = some d := fun x hx => by
        obtain ⟨j, hj⟩ := List.mem_iff_getElem?.mp hx
        obtain ⟨d, hd, _⟩ := q1.getV hj
        exact ⟨j, d, hj, hd⟩
      have nd : ((D.tup i :: ys).map fstK0).Nodup := by rw [g1]; exact hk.2
      -- the key of a value
      have pair : ∀ (j1 j2 : Nat) (x : V) (d1 d2 : D), vs[j1]? = some x → vs[j2]? = some x → (D.tup i :: ys)[j1]? = some d1 → (D.tup i :: ys)[j2]? = some d2 → fstK0 d1 = fstK0 d2 := fun j1 j2 x d1 d2 a1 a2 b1 b2 => by
        obtain ⟨t, r1, e1, s1⟩ := g3 j1 x d1 a1 b1
        obtain ⟨t2, r2, e2, s2⟩ := g3 j2 x d2 a2 b2
        rw [e1] at e2
        cases e2
        have := I.tuple_inj s1 s2
        injection this with this _
        generalize fstK0 d1 = k1 at this
        generalize fstK0 d2 = k2 at this
        cases k1 <;> cases k2 <;> simp [kV] at this <;> rw [this]
      obtain ⟨kf, hkf⟩ : ∃ kf : V → Key, ∀ (j : Nat) x d, vs[j]? = some x → (D.tup i :: ys)[j]? = some d → kf x = fstK0 d := by
        classical
        refine ⟨fun x => if h : ∃ (j : Nat) (d : D), vs[j]? = some x ∧ (D.tup i :: ys)[j]? = some d then fstK0 (Classical.choose (Classical.choose_spec h)) else .inl 0, fun j x d a b => ?_⟩
        have h : ∃ (j : Nat) (d : D), vs[j]? = some x ∧ (D.tup i :: ys)[j]? = some d := ⟨j, d, a, b⟩
        refine (dif_pos h).trans ?_
        have sp := Classical.choose_spec (Classical.choose_spec h)
        exact pair _ _ x _ _ sp.1 a sp.2 b
      refine cr_sortF pins s σ H _ us Q I r ⟨a, vs, kf, rfl, SqL.of h1, fun x hx => ?_, fun x hx y hy => ?_, fun x hx y hy e => ?_, fun zs p hp hs hn => ?_⟩
      · obtain ⟨j, d, a1, a2⟩ := gz x hx
        obtain ⟨t, r, e, s⟩ := g3 j x d a1 a2
        exact ⟨t, r, e, by rw [hkf j x d a1 a2]; exact s⟩
      · obtain ⟨j, d, a1, a2⟩ := gz x hx
        obtain ⟨j', d', b1, b2⟩ := gz y hy
        rw [hkf _ _ _ a1 a2, hkf _ _ _ b1 b2]
        exact kinds_ok hk.1 _ (by rw [← g1]; exact List.mem_map.mpr ⟨d, List.mem_of_getElem? a2, rfl⟩) _ (by rw [← g1]; exact List.mem_map.mpr ⟨d', List.mem_of_getElem? b2, rfl⟩)
      · obtain ⟨j, d, a1, a2⟩ := gz x hx
        obtain ⟨j', d', b1, b2⟩ := gz y hy
        rw [hkf _ _ _ a1 a2, hkf _ _ _ b1 b2] at e
        have z1 : ((D.tup i :: ys).map fstK0)[j]? = some (fstK0 d) := by rw [List.getElem?_map, a2]; rfl
        have z2 : ((D.tup i :: ys).map fstK0)[j']? = some (fstK0 d) := by rw [List.getElem?_map, b2, e]; rfl
        obtain ⟨c1, d1⟩ := List.getElem?_eq_some_iff.mp z1
        obtain ⟨c2, d2⟩ := List.getElem?_eq_some_iff.mp z2
        have : j = j' := (List.getElem_inj nd).mp (d1.trans d2.symm)
        subst this
        rw [a1] at b1
        cases b1
        rfl
      · obtain ⟨ws, w1, w2⟩ := perm_lift (ys := D.tup i :: ys) hp g2
        have wm : ∀ p ∈ ws, ∃ j : Nat, vs[j]? = some p.1 ∧ (D.tup i :: ys)[j]? = some p.2 := fun p hp => by
          obtain ⟨j, hj⟩ := List.mem_iff_getElem?.mp (w1.mem_iff.mp hp)
          rw [List.getElem?_zip_eq_some] at hj
          exact ⟨j, hj⟩
        have pz : (ws.map (·.2)).Perm (D.tup i :: ys) := by
          have := w1.map (·.2)
          rwa [List.map_snd_zip (by omega)] at this
        have us : ws.map (·.2) = sortBy fstK0 (D.tup i :: ys) := by
          refine sortBy_uniq pz ?_ ?_
          · rw [← w2] at hs
            refine List.pairwise_map.mpr ((List.pairwise_map.mp hs).imp_of_mem fun {x y} hx hy h => ?_)
            obtain ⟨j, a1, a2⟩ := wm x hx
            obtain ⟨j', b1, b2⟩ := wm y hy
            have h : ltKb (kf y.1) (kf x.1) = false := h
            rw [hkf _ _ _ a1 a2, hkf _ _ _ b1 b2] at h
            exact h
          · intro x hx y hy e
            obtain ⟨j, a2⟩ := List.mem_iff_getElem?.mp hx
            obtain ⟨j', b2⟩ := List.mem_iff_getElem?.mp hy
            have z1 : ((D.tup i :: ys).map fstK0)[j]? = some (fstK0 x) := by rw [List.getElem?_map, a2]; rfl
            have z2 : ((D.tup i :: ys).map fstK0)[j']? = some (fstK0 x) := by rw [List.getElem?_map, b2, e]; rfl
            obtain ⟨c1, d1⟩ := List.getElem?_eq_some_iff.mp z1
            obtain ⟨c2, d2⟩ := List.getElem?_eq_some_iff.mp z2
            have : j = j' := (List.getElem_inj nd).mp (d1.trans d2.symm)
            subst this
            rw [a2] at b2
            cases b2
            rfl
        have rr : ∀ ws : List (V × D), (∀ p ∈ ws, Rep X.K H Fb m p.1 p.2) → RepA X.K H Fb m (ws.map (·.1)) (ws.map (·.2)) := fun ws => by
          induction ws with
          | nil => exact fun _ => .nil
          | cons w ws ih => exact fun h => .cons (h w (List.mem_cons_self ..)) (ih fun p hp => h p (List.mem_cons_of_mem _ hp))
        have q2 : RepA X.K H Fb m zs (sortBy fstK0 (D.tup i :: ys)) := by
          rw [← us, ← w2]
          refine rr ws fun p hp => ?_
          obtain ⟨j, a1, a2⟩ := wm p hp
          obtain ⟨d', a3, a4⟩ := q1.getV a1
          rw [a2] at a3
          cases a3
          exact a4
        refine k _ _ (same_upd hn) (.lst upd_same (fr p hn) ?_ (q2.kp (kp_same (same_upd hn))))
        rw [hp.length_eq]
        exact z1
    · cases e2
  · rename_i i z kvs
    obtain ⟨ks, e1, e2⟩ := Option.bind_eq_some_iff.mp e
    split at e2
    · rename_i hk
      cases e2
      obtain ⟨v, rfl, h⟩ := vx.one
      obtain ⟨a, kv, rfl, h1, z1, q1⟩ := h.asD
      obtain ⟨ts, rfl⟩ := all_left hk.2
      have hk2 := keysD_rel e1 q1
      have h64 : ts.length < 64 := by have := hk.1; rwa [List.length_map] at this
      refine call_sortedD hc pins s σ H _ us Q I r ⟨a, kv, ts, rfl, h1, hk2, h64, fun ys p hp hs hn => ?_⟩
      have := sS_uniq hp (sortedS_pw hs)
      subst this
      have e3 : (sortBy (fun k : Key => k) (ts.map Sum.inr)).map keyD = (sS ts).map D.str := by
        rw [sortBy_map (f := (Sum.inr : Str → Key)) (g := fun k => k) ts (fun x _ y _ e => e), List.map_map]
        rfl
      rw [e3] at k
      refine k _ _ (same_upd hn) (.lst upd_same (fr p hn) ?_ (repA_strs _))
      have := hp.length_eq
      rw [sizeLine_eq, List.length_map]
      omega
    · cases e2
  · exact cg_sorted hc pins s σ H xs us Q I r ⟨Fb, m, _, d, fr, vx, e, k⟩
  · cases e
end
def keyP0 (p : D × D) : Key := (unK p.1).getD (.inl 0)
def sortItD (d : D) : Option D := match d with
  | .dic false kvs => (keysD kvs).bind fun ks => if kindsOk ks = true ∧ ks.Nodup then some (.lst ((sortBy keyP0 kvs).map fun p => .tup [p.1, p.2])) else none
  | _ => none
theorem kr_zip {K : PySem.W.Frag} {H : Hp} {Fb : Addr → Prop} {m : List Addr} : ∀ {kv : List (Key × V)} {kvs : List (D × D)}, KR K H Fb m kv kvs → ∀ p ∈ kv.zip kvs, p.2.1 = keyD p.1.1 ∧ Rep K H Fb m p.1.2 p.2.2
  | _, _, .nil, p, h => by simp at h
  | _, _, .cons r q, p, h => by
    rcases List.mem_cons.mp (show p ∈ _ :: _ from h) with rfl | h
    · exact ⟨rfl, r⟩
    · exact kr_zip q p h
theorem zip_kr {K : PySem.W.Frag} {H : Hp} {Fb : Addr → Prop} {m : List Addr} : ∀ ws : List ((Key × V) × (D × D)), (∀ p ∈ ws, p.2.1 = keyD p.1.1 ∧ Rep K H Fb m p.1.2 p.2.2) → KR K H Fb m (ws.map (·.1)) (ws.map (·.2))
  | [], _ => .nil
  | ((k, v), (a, d)) :: ws, h => by
    obtain ⟨h1, h2⟩ := h _ (List.mem_cons_self ..)
    have h1 : a = keyD k := h1
    subst h1
    exact .cons h2 (zip_kr ws fun p hp => h p (List.mem_cons_of_mem _ hp))
section
variable {X : Cx} {W : WX} {e : Expr} {fe : Ex} {p0 apos cpos pos0 : Pos}
theorem ev_sortIt (hc : X.calm = true) (hgl : Gl X "sorted") (hml : X.mg "sorted" = none) (he : EV X W e fe) (hbase : attributeBase e "items" X.env (eval e X.env) = eval e X.env := by rfl) (hline : (apos.endLine == cpos.line) = true := by rfl)
    (hb : bootBuiltins "sorted" = some (.builtin "sorted") := by decide +kernel)
    (na : starEach [.Call (.Attribute e "items" apos) [] [] cpos] X.env = (false, eval (.Call (.Attribute e "items" apos) [] [] cpos) X.env) :: starEach [] X.env := by rfl) (hpl : (backTo pos0 (starEach [] X.env)).any (·.1) = false := by rfl) :
    EV X W (.Call (.Name "sorted" p0) [.Call (.Attribute e "items" apos) [] [] cpos] [] pos0) (eOp1 sortItD fe) := by
  refine pe_imp (pe_sortIt hc hgl hml he hbase hline hb na hpl) fun σ H Q h => ?_
  obtain ⟨B, m, ρ, S, r, re, f⟩ := up_one (g := fun x ρ S => ans S (sortItD (view S x))) h
  refine ⟨B, m, ρ, S, r, re, f.mono fun x H1 => ?_⟩
  rintro ⟨B, m, ρ, S, d, r, re, rx, f⟩
  cases e0 : sortItD (view S d) with
  | none => rw [e0] at f; exact f.elim
  | some z =>
    rw [e0] at f
    have vx := vw r rx
    generalize view S d = dv at e0 vx
    unfold sortItD at e0
    split at e0
    · rename_i kvs
      obtain ⟨ks, e1, e2⟩ := Option.bind_eq_some_iff.mp e0
      split at e2
      · rename_i hk
        cases e2
        obtain ⟨a, kv, rfl, h1, z1, q1⟩ := vx.asD
        have hks := keysD_rel e1 q1
        refine ⟨a, kv, rfl, h1, fun x hx y hy => kinds_ok hk.1 _ (by rw [← hks]; exact List.mem_map.mpr ⟨x, hx, rfl⟩) _ (by rw [← hks]; exact List.mem_map.mpr ⟨y, hy, rfl⟩), by rw [hks]; exact hk.2, fun H' p ts zs k1 k2 k3 k4 k5 k6 => ?_⟩
        obtain ⟨ws, w1, w2⟩ := perm_lift (ys := kvs) k4 q1.length
        have wm : ∀ p ∈ ws, p.2.1 = keyD p.1.1 ∧ Rep X.K H1 (Fo B m S) m p.1.2 p.2.2 := fun p hp => kr_zip q1 p (w1.mem_iff.mp hp)
        have pz : (ws.map (·.2)).Perm kvs := by
          have := w1.map (·.2)
          rwa [List.map_snd_zip (by rw [q1.length]; exact Nat.le_refl _)] at this
        have kk : ∀ p ∈ ws, keyP0 p.2 = p.1.1 := fun p hp => by unfold keyP0; rw [(wm p hp).1, unK_keyD]; rfl
        have us : ws.map (·.2) = sortBy keyP0 kvs := by
          refine sortBy_uniq pz ?_ ?_
          · rw [← w2] at k5
            refine List.pairwise_map.mpr ((List.pairwise_map.mp k5).imp_of_mem fun {x y} hx hy h => ?_)
            rw [kk x hx, kk y hy]
            exact h
          · intro x hx y hy e
            obtain ⟨j, a2⟩ := List.mem_iff_getElem?.mp hx
            obtain ⟨j', b2⟩ := List.mem_iff_getElem?.mp hy
            have hkk : kvs.map keyP0 = ks := by
              rw [← hks]
              have : ∀ {kv : List (Key × V)} {kvs : List (D × D)}, KR X.K H1 (Fo B m S) m kv kvs → kvs.map keyP0 = kv.map (·.1) := by
                intro kv kvs q
                induction q with
                | nil => rfl
                | cons r q ih =>
                  rename_i k _ _ _ _
                  rw [List.map_cons, List.map_cons, ih]
                  show (unK (keyD k)).getD _ :: _ = _
                  rw [unK_keyD]
                  rfl
              exact this q1
            have nd : (kvs.map keyP0).Nodup := by rw [hkk]; exact hk.2
            have z1 : (kvs.map keyP0)[j]? = some (keyP0 x) := by rw [List.getElem?_map, a2]; rfl
            have z2 : (kvs.map keyP0)[j']? = some (keyP0 x) := by rw [List.getElem?_map, b2, e]; rfl
            obtain ⟨c1, d1⟩ := List.getElem?_eq_some_iff.mp z1
            obtain ⟨c2, d2⟩ := List.getElem?_eq_some_iff.mp z2
            have : j = j' := (List.getElem_inj nd).mp (d1.trans d2.symm)
            subst this
            rw [a2] at b2
            cases b2
            rfl
        have q2 : KR X.K H1 (Fo B m S) m zs (sortBy keyP0 kvs) := by
          rw [← us, ← w2]
          exact zip_kr ws wm
        refine f m H' _ (Post.grow r fun c o e => k1 c o e) (.lst k3 (fr_of r p k2) ?_ (items_rep k1 k6 q2))
        have := Paired.length k6
        have := k4.length_eq
        rw [List.length_map]
        omega
      · cases e2
    · cases e0
end
end DL
set_option Elab.async false
set_option linter.all false
set_option maxRecDepth 100000
set_option maxHeartbeats 4000000
namespace DL
open PySem PySem.Spec PyProof.Rows L2
mutual
def sd : D → Bool
  | .non => true
  | .bl _ => true
  | .int _ => true
  | .str x => PyData.strOk x
  | .tup xs => sds xs
  | .lst xs => sds xs
  | _ => false
def sds : List D → Bool
  | [] => true
  | d :: ds => sd d && sds ds
end
mutual
theorem sd_ok : ∀ d : D, sd d = true → ∃ p, toP d = some p ∧ p.canLay0 = true ∧ p.depth ≤ dpD d
  | .non, _ => ⟨_, rfl, by simp [PyData.canLay0], by simp [PyData.depth]⟩
  | .bl _, _ => ⟨_, rfl, by simp [PyData.canLay0], by simp [PyData.depth]⟩
  | .int _, _ => ⟨_, rfl, by simp [PyData.canLay0], by simp [PyData.depth]⟩
  | .str x, h => ⟨_, rfl, by simpa [PyData.canLay0, sd] using h, by simp [PyData.depth]⟩
  | .tup xs, h => by
    obtain ⟨ps, h1, h2, h3⟩ := sds_ok xs (by simpa [sd] using h)
    exact ⟨.tuple ps, by simp [toP, h1], by simpa [PyData.canLay0] using h2, by simp only [PyData.depth, dpD]; omega⟩
  | .lst xs, h => by
    obtain ⟨ps, h1, h2, h3⟩ := sds_ok xs (by simpa [sd] using h)
    exact ⟨.list ps, by simp [toP, h1], by simpa [PyData.canLay0] using h2, by simp only [PyData.depth, dpD]; omega⟩
  | .dic _ _, h => by simp [sd] at h
  | .ref _, h => by simp [sd] at h
  | .raw _, h => by simp [sd] at h
  | .scr _, h => by simp [sd] at h
  | .exn _ _, h => by simp [sd] at h
theorem sds_ok : ∀ ds : List D, sds ds = true → ∃ ps, toPs ds = some ps ∧ PyData.canLayAll0 ps = true ∧ PyData.depthAll ps ≤ dpDs ds
  | [], _ => ⟨[], rfl, by simp [PyData.canLayAll0], by simp [PyData.depthAll]⟩
  | d :: ds, h => by
    simp only [sds, Bool.and_eq_true] at h
    obtain ⟨p, a1, a2, a3⟩ := sd_ok d h.1
    obtain ⟨ps, b1, b2, b3⟩ := sds_ok ds h.2
    exact ⟨p :: ps, by simp [toPs, a1, b1], by simp [PyData.canLayAll0, a2, b2], by simp only [PyData.depthAll, dpDs]; omega⟩
end
theorem sds_map {α : Type} (f : α → D) : ∀ xs : List α, (∀ x ∈ xs, sd (f x) = true) → sds (xs.map f) = true
  | [], _ => by simp [sds]
  | x :: xs, h => by simp only [List.map_cons, sds, h x (by simp), sds_map f xs fun y hy => h y (by simp [hy]), Bool.and_self]
theorem eqB_sd {d : D} (h : sd d = true) (hd : dpD d ≤ 64) : eqB d d = some true := by
  obtain ⟨p, h1, h2, h3⟩ := sd_ok d h
  exact eqB_refl h1 h2 (by omega)
theorem eqB_nil {xs : List D} (h : sds xs = true) (hd : dpDs xs ≤ 60) : eqB (.lst xs) (.lst []) = some xs.isEmpty := by
  obtain ⟨ps, h1, h2, h3⟩ := sds_ok xs h
  have s1 : SeqAt.shaped (.list ps) = true := by simp [SeqAt.shaped, PyData.canLay0, h2, PyData.depth]; omega
  have s2 : SeqAt.shaped (.list []) = true := by simp [SeqAt.shaped, PyData.canLay0, PyData.canLayAll0, PyData.depth, PyData.depthAll]
  have e1 : eqS (.lst xs) (.lst []) = none := rfl
  unfold eqB
  rw [e1]
  simp only [toP, h1, Option.map_some, toPs, s1, s2, Bool.and_self, if_true]
  cases ps with
  | nil =>
    cases xs with
    | nil => simp [PyData.eqv, PyData.eqvAll]
    | cons x xs => simp [toPs] at h1; split at h1 <;> simp at h1
  | cons p ps =>
    cases xs with
    | nil => simp [toPs] at h1
    | cons x xs => simp [PyData.eqv, PyData.eqvAll]
section
variable {S : Sto} {Q : D → Prop} {d : D} {xs : List D}
theorem vo_neSd (h : sd d = true) (hd : dpD d ≤ 64) (q : Q (.bl false)) : Wo (neD (view S d) (view S d)) Q := by
  have e : view S d = d := by cases d <;> first | rfl | (simp [sd] at h)
  rw [e]
  exact .of (by unfold neD; rw [eqB_sd h hd]; rfl) q
theorem vo_neNil (h : sds xs = true) (hd : dpDs xs ≤ 60) (q : Q (.bl (!xs.isEmpty))) : Wo (neD (view S (.lst xs)) (view S (.lst []))) Q := .of (by show (eqB (.lst xs) (.lst [])).map _ = _; rw [eqB_nil h hd]; rfl) q
end
end DL
namespace DL
open PySem PySem.Spec PyProof.Rows L2
theorem nb_ff {A B : Prop} (h : B) : ((!(false == false)) = true → A) ∧ ((!(false == false)) = false → B) := ⟨fun z => by simp at z, fun _ => h⟩
theorem nb_tt {A B : Prop} (h : B) : ((!(true == true)) = true → A) ∧ ((!(true == true)) = false → B) := ⟨fun z => by simp at z, fun _ => h⟩
theorem nb_ft {A B : Prop} (h : A) : ((!(false == true)) = true → A) ∧ ((!(false == true)) = false → B) := ⟨fun _ => h, fun z => by simp at z⟩
theorem nb_tf {A B : Prop} (h : A) : ((!(true == false)) = true → A) ∧ ((!(true == false)) = false → B) := ⟨fun _ => h, fun z => by simp at z⟩
section
variable {S : Sto} {Q : D → Prop}
theorem vo_isBN {b : Bool} (q : Q (.bl false)) : Wo (isD (view S (.bl b)) (view S .non)) Q := ⟨q⟩
theorem vo_isSN {x : Str} (q : Q (.bl false)) : Wo (isD (view S (.str x)) (view S .non)) Q := ⟨q⟩
theorem vo_isLN {xs : List D} (q : Q (.bl false)) : Wo (isD (view S (.lst xs)) (view S .non)) Q := ⟨q⟩
theorem vo_isDN {kvs : List (D × D)} (q : Q (.bl false)) : Wo (isD (view S (.dic false kvs)) (view S .non)) Q := ⟨q⟩
end
end DL
set_option Elab.async false
set_option linter.all false
set_option maxRecDepth 100000
set_option maxHeartbeats 4000000
namespace LB
open PySem PySem.Spec PyProof.Rows L2 DL
/-- _law_bprime: 0:_law_at 1:_law_some -/
def b_bprime : Sx :=
  (sSeq (sAsg 1 (eLst [(eC (.int 2147483629)), (eC (.int 2147483563)), (eC (.int 2147483647)), (eC (.int 2147483543)), (eC (.int 2147483587)), (eC (.int 2147483489)), (eC (.int 2147483579))]))
    (sRet (eOp2 ixD (eOp2 addD (eVar 1) (eLst [(eC (.int 2147483497)), (eC (.int 2147483549)), (eC (.int 2147483477)), (eC (.int 2147483423))])) (eOp2 modD (eVar 0) (eC (.int 11))))))
def d_bprime : Fn := fnP (fnB 2 b_bprime)
def i_bfresh_1 : Sx := sIf (tVal (eOp2 gtD (eCall lenD [(eOp2 ixD (eVar 0) (eC (.int 0)))]) (eC (.int 0)))) (sAsg 2 (eOp2 addD (eOp2 mulD (eOp2 modD (eOp2 ixD (eOp2 ixD (eVar 0) (eC (.int 0))) (eOp2 modD (eOp2 mulD (eVar 1) (eC (.int 3))) (eCall lenD [(eOp2 ixD (eVar 0) (eC (.int 0)))]))) (eC (.int 1000033))) (eOp2 addD (eVar 1) (eC (.int 2)))) (eVar 1))) sSkip
def i_bfresh_2 : Sx := sIf (tVal (eOp2 ltD (eVar 1) (eCall lenD [(eOp2 ixD (eVar 0) (eC (.int 0)))]))) (sAsg 2 (eOp2 ixD (eOp2 ixD (eVar 0) (eC (.int 0))) (eVar 1))) i_bfresh_1
def i_bfresh_3 : Sx := sIf (tAndX (tVal (eOp2 ltD (eVar 1) (eCall lenD [(eOp2 ixD (eVar 0) (eC (.int 0)))]))) (tVal (eOp2 geD (eVar 2) (eOp2 powD (eC (.int 10)) (eC (.int 18)))))) (sRet (eVar 2)) sSkip
/-- _law_bfresh: 0:_law_tape 1:_law_at 2:_law_cell 3:_law_one 4:_law_two 5:_law_three -/
def b_bfresh : Sx :=
  (sSeq (sAsg 1 (eOp2 ixD (eVar 0) (eC (.int 1))))
    (sSeq (sSetIx (eVar 0) (eC (.int 1)) (eOp2 addD (eVar 1) (eC (.int 1))))
    (sSeq (sAsg 2 (eOp2 addD (eOp2 mulD (eC (.int 13)) (eVar 1)) (eC (.int 5))))
    (sSeq i_bfresh_2
    (sSeq i_bfresh_3
    (sSeq (sAsg 3 (eOp2 modD (eOp2 powD (eOp2 addD (eOp2 addD (eOp2 mulD (eOp2 modD (eVar 2) (eC (.int 2147483399))) (eOp2 addD (eVar 1) (eC (.int 3)))) (eOp2 mulD (eC (.int 130043)) (eVar 1))) (eC (.int 29))) (eC (.int 3))) (eFn d_bprime [(eVar 1)])))
    (sSeq (sAsg 4 (eOp2 modD (eOp2 powD (eOp2 addD (eOp2 addD (eOp2 mulD (eVar 3) (eOp2 addD (eVar 1) (eC (.int 7)))) (eOp2 modD (eVar 2) (eC (.int 65521)))) (eC (.int 3))) (eC (.int 5))) (eFn d_bprime [(eOp2 addD (eVar 1) (eC (.int 5)))])))
    (sSeq (sAsg 5 (eOp2 modD (eOp2 addD (eOp2 addD (eOp2 mulD (eVar 4) (eVar 3)) (eVar 4)) (eVar 1)) (eFn d_bprime [(eOp2 addD (eVar 1) (eC (.int 8)))])))
    (sRet (eOp2 addD (eOp2 mulD (eOp2 addD (eOp2 mulD (eVar 4) (eC (.int 2147483647))) (eVar 5)) (eC (.int 2147483629))) (eVar 3)))))))))))
def d_bfresh : Fn := fnB 6 b_bfresh
def i_bdraw_1 : Sx := sIf (tVal (eOp2 ltD (eOp2 ixD (eVar 0) (eC (.int 2))) (eVar 1))) (sSetIx (eVar 0) (eC (.int 2)) (eFn d_bfresh [(eVar 0)])) sSkip
/-- _law_bdraw: 0:_law_tape 1:_law_often 2:_law_drawn -/
def b_bdraw : Sx :=
  (sSeq i_bdraw_1
    (sSeq (sAsg 2 (eOp2 modD (eOp2 ixD (eVar 0) (eC (.int 2))) (eVar 1)))
    (sSeq (sSetIx (eVar 0) (eC (.int 2)) (eOp2 divD (eOp2 ixD (eVar 0) (eC (.int 2))) (eVar 1)))
    (sRet (eVar 2)))))
def d_bdraw : Fn := fnB 3 b_bdraw
def i_bname_1 : Sx := sIf (tVal (eOp2 eqD (eFn d_bdraw [(eVar 0), (eC (.int 2))]) (eC (.int 0)))) (sRet (eOp2 ixD (eLst [(eC (.str "a")), (eC (.str "b")), (eC (.str "ab")), (eC (.str "aa")), (eC (.str "abc")), (eC (.str "z")), (eC (.str "zzzzzzzz")), (eC (.str "abcdefgh"))]) (eFn d_bdraw [(eVar 0), (eC (.int 8))]))) sSkip
def ce_bname_1 : Ex := (eOp2 ixD (eVar 1) (eOp2 modD (eOp2 addD (eVar 2) (eOp2 mulD (eVar 3) (eVar 4))) (eC (.int 26))))
def c_bname_1 : Ex := eComp (iRng1X (eOp2 addD (eC (.int 1)) (eFn d_bdraw [(eVar 0), (eC (.int 8))]))) (.nm 4) tYesX ce_bname_1 [4]
/-- _law_bname: 0:_law_tape 1:_law_letters 2:_law_first 3:_law_step 4:_law_k -/
def b_bname : Sx :=
  (sSeq (sAsg 1 (eC (.str "abcdefghijklmnopqrstuvwxyz")))
    (sSeq i_bname_1
    (sSeq (sAsgT (.tp [(.nm 2), (.nm 3)]) (eTup [(eFn d_bdraw [(eVar 0), (eC (.int 26))]), (eFn d_bdraw [(eVar 0), (eC (.int 26))])]))
    (sRet (eStr1 joinD (eC (.str "")) c_bname_1)))))
def d_bname : Fn := fnB 5 b_bname
def ce_bpath_1 : Ex := (eFn d_bname [(eVar 0)])
def c_bpath_1 : Ex := eComp (iRng1X (eOp2 addD (eC (.int 1)) (eFn d_bdraw [(eVar 0), (eC (.int 3))]))) (.nm 1) tYesX ce_bpath_1 [1]
/-- _law_bpath: 0:_law_tape 1:_law_k -/
def b_bpath : Sx :=
  (sRet (eStr1 joinD (eC (.str "/")) c_bpath_1))
def d_bpath : Fn := fnB 2 b_bpath
def i_bis_apart_1 : Sx := sIf (tOrX (tVal (eStr1 startsD (eOp2 addD (eVar 2) (eC (.str "/"))) (eOp2 addD (eVar 0) (eC (.str "/"))))) (tVal (eStr1 startsD (eOp2 addD (eVar 0) (eC (.str "/"))) (eOp2 addD (eVar 2) (eC (.str "/")))))) (sRet (eC (.bl false))) sSkip
def lb_bis_apart_1 : Sx := i_bis_apart_1
def l_bis_apart_1 : Sx := sFor (iSeq (eVar 1)) (.nm 2) lb_bis_apart_1
/-- _law_bis_apart: 0:_law_path 1:_law_others 2:_law_one -/
def b_bis_apart : Sx :=
  (sSeq l_bis_apart_1
    (sRet (eC (.bl true))))
def d_bis_apart : Fn := fnV (fnB 3 b_bis_apart)
end LB
set_option Elab.async false
set_option linter.all false
set_option maxRecDepth 100000
set_option maxHeartbeats 0
namespace C23
open PySem PySem.Spec PyProof.Rows L2 DL
def top (i : Nat) : Stmt := PySem.Challenge.pw_saltvault_k23_whole_ways_and_closed_list.main.body.getD i (.Pass ⟨0, 0, 0, 0⟩)
abbrev s_bprime : Stmt := top 11
abbrev N_bprime : List Str := ["_law_at", "_law_some"]
theorem sc_bprime : FnScope N_bprime ["_law_at"] (defScope s_bprime) := ⟨rfl, rfl, rfl, by decide +kernel, rfl, by decide +kernel, by decide +kernel⟩
def a_bprime : He.DefD := ⟨("_law_bprime", none), "_law_bprime", "_law_bprime", defArgs s_bprime, defBody s_bprime, defScope s_bprime, [], []⟩
abbrev s_bfresh : Stmt := top 12
abbrev N_bfresh : List Str := ["_law_tape", "_law_at", "_law_cell", "_law_one", "_law_two", "_law_three"]
theorem sc_bfresh : FnScope N_bfresh ["_law_tape"] (defScope s_bfresh) := ⟨rfl, rfl, rfl, by decide +kernel, rfl, by decide +kernel, by decide +kernel⟩
def a_bfresh : He.DefD := ⟨("_law_bfresh", none), "_law_bfresh", "_law_bfresh", defArgs s_bfresh, defBody s_bfresh, defScope s_bfresh, [], []⟩
abbrev s_bdraw : Stmt := top 13
abbrev N_bdraw : List Str := ["_law_tape", "_law_often", "_law_drawn"]
theorem sc_bdraw : FnScope N_bdraw ["_law_tape", "_law_often"] (defScope s_bdraw) := ⟨rfl, rfl, rfl, by decide +kernel, rfl, by decide +kernel, by decide +kernel⟩
def a_bdraw : He.DefD := ⟨("_law_bdraw", none), "_law_bdraw", "_law_bdraw", defArgs s_bdraw, defBody s_bdraw, defScope s_bdraw, [], []⟩
abbrev s_bname : Stmt := top 14
abbrev N_bname : List Str := ["_law_tape", "_law_letters", "_law_first", "_law_step", "_law_k"]
theorem sc_bname : FnScope N_bname ["_law_tape"] (defScope s_bname) := ⟨rfl, rfl, rfl, by decide +kernel, rfl, by decide +kernel, by decide +kernel⟩
def a_bname : He.DefD := ⟨("_law_bname", none), "_law_bname", "_law_bname", defArgs s_bname, defBody s_bname, defScope s_bname, [], []⟩
abbrev s_bpath : Stmt := top 15
abbrev N_bpath : List Str := ["_law_tape", "_law_k"]
theorem sc_bpath : FnScope N_bpath ["_law_tape"] (defScope s_bpath) := ⟨rfl, rfl, rfl, by decide +kernel, rfl, by decide +kernel, by decide +kernel⟩
def a_bpath : He.DefD := ⟨("_law_bpath", none), "_law_bpath", "_law_bpath", defArgs s_bpath, defBody s_bpath, defScope s_bpath, [], []⟩
abbrev s_bis_apart : Stmt := top 16
abbrev N_bis_apart : List Str := ["_law_path", "_law_others", "_law_one"]
theorem sc_bis_apart : FnScope N_bis_apart ["_law_path", "_law_others"] (defScope s_bis_apart) := ⟨rfl, rfl, rfl, by decide +kernel, rfl, by decide +kernel, by decide +kernel⟩
def a_bis_apart : He.DefD := ⟨("_law_bis_apart", none), "_law_bis_apart", "_law_bis_apart", defArgs s_bis_apart, defBody s_bis_apart, defScope s_bis_apart, [], []⟩
abbrev s_bnumbers : Stmt := top 17
abbrev N_bnumbers : List Str := ["_law_tape", "_law_some", "_law_found", "_law_k", "_law_way", "_law_number"]
theorem sc_bnumbers : FnScope N_bnumbers ["_law_tape"] (defScope s_bnumbers) := ⟨rfl, rfl, rfl, by decide +kernel, rfl, by decide +kernel, by decide +kernel⟩
def a_bnumbers : He.DefD := ⟨("_law_bnumbers", none), "_law_bnumbers", "_law_bnumbers", defArgs s_bnumbers, defBody s_bnumbers, defScope s_bnumbers, [], []⟩
abbrev s_bfiles : Stmt := top 18
abbrev N_bfiles : List Str := ["_law_tape", "_law_elder", "_law_found", "_law_k", "_law_paths", "_law_path"]
theorem sc_bfiles : FnScope N_bfiles ["_law_tape", "_law_elder"] (defScope s_bfiles) := ⟨rfl, rfl, rfl, by decide +kernel, rfl, by decide +kernel, by decide +kernel⟩
def a_bfiles : He.DefD := ⟨("_law_bfiles", none), "_law_bfiles", "_law_bfiles", defArgs s_bfiles, defBody s_bfiles, defScope s_bfiles, [], []⟩
abbrev s_brows : Stmt := top 19
abbrev N_brows : List Str := ["_law_tape", "_law_elder", "_law_found", "_law_rows", "_law_path", "_law_stranger"]
theorem sc_brows : FnScope N_brows ["_law_tape", "_law_elder", "_law_found"] (defScope s_brows) := ⟨rfl, rfl, rfl, by decide +kernel, rfl, by decide +kernel, by decide +kernel⟩
def a_brows : He.DefD := ⟨("_law_brows", none), "_law_brows", "_law_brows", defArgs s_brows, defBody s_brows, defScope s_brows, [], []⟩
abbrev s_bbooks : Stmt := top 20
abbrev N_bbooks : List Str := ["_law_tape", "_law_often", "_law_books", "_law_files", "_law_number", "_law_k", "_law_elder"]
theorem sc_bbooks : FnScope N_bbooks ["_law_tape", "_law_often"] (defScope s_bbooks) := ⟨rfl, rfl, rfl, by decide +kernel, rfl, by decide +kernel, by decide +kernel⟩
def a_bbooks : He.DefD := ⟨("_law_bbooks", none), "_law_bbooks", "_law_bbooks", defArgs s_bbooks, defBody s_bbooks, defScope s_bbooks, [], []⟩
abbrev s_chain_of : Stmt := top 4
abbrev N_chain_of : List Str := ["books", "moment", "found", "parent"]
theorem sc_chain_of : FnScope N_chain_of ["books", "moment"] (defScope s_chain_of) := ⟨rfl, rfl, rfl, by decide +kernel, rfl, by decide +kernel, by decide +kernel⟩
def a_chain_of : He.DefD := ⟨("chain_of", none), "chain_of", "chain_of", defArgs s_chain_of, defBody s_chain_of, defScope s_chain_of, [], []⟩
abbrev s_files_by : Stmt := top 5
abbrev N_files_by : List Str := ["books", "moment", "found", "one", "path", "numbers"]
theorem sc_files_by : FnScope N_files_by ["books", "moment"] (defScope s_files_by) := ⟨rfl, rfl, rfl, by decide +kernel, rfl, by decide +kernel, by decide +kernel⟩
def a_files_by : He.DefD := ⟨("files_by", none), "files_by", "files_by", defArgs s_files_by, defBody s_files_by, defScope s_files_by, [], []⟩
abbrev s_needed : Stmt := top 7
abbrev N_needed : List Str := ["books", "moments", "rows", "held", "moment", "some", "one", "number"]
theorem sc_needed : FnScope N_needed ["books", "moments"] (defScope s_needed) := ⟨rfl, rfl, rfl, by decide +kernel, rfl, by decide +kernel, by decide +kernel⟩
def a_needed : He.DefD := ⟨("needed", none), "needed", "needed", defArgs s_needed, defBody s_needed, defScope s_needed, [], []⟩
abbrev s_bpieces : Stmt := top 21
abbrev N_bpieces : List Str := ["_law_books", "_law_moment", "_law_found", "_law_counted"]
theorem sc_bpieces : FnScope N_bpieces ["_law_books", "_law_moment"] (defScope s_bpieces) := ⟨rfl, rfl, rfl, by decide +kernel, rfl, by decide +kernel, by decide +kernel⟩
def a_bpieces : He.DefD := ⟨("_law_bpieces", none), "_law_bpieces", "_law_bpieces", defArgs s_bpieces, defBody s_bpieces, defScope s_bpieces, [], []⟩
abbrev s_book_way : Stmt := top 8
abbrev N_book_way : List Str := ["books", "moments", "moment", "one", "chain"]
theorem sc_book_way : FnScope N_book_way ["books", "moments", "moment"] (defScope s_book_way) := ⟨rfl, rfl, rfl, by decide +kernel, rfl, by decide +kernel, by decide +kernel⟩
def a_book_way : He.DefD := ⟨("book_way", none), "book_way", "book_way", defArgs s_book_way, defBody s_book_way, defScope s_book_way, [], []⟩
abbrev s_piece_way : Stmt := top 9
abbrev N_piece_way : List Str := ["books", "moments", "piece", "one", "paths", "path", "numbers"]
theorem sc_piece_way : FnScope N_piece_way ["books", "moments", "piece"] (defScope s_piece_way) := ⟨rfl, rfl, rfl, by decide +kernel, rfl, by decide +kernel, by decide +kernel⟩
def a_piece_way : He.DefD := ⟨("piece_way", none), "piece_way", "piece_way", defArgs s_piece_way, defBody s_piece_way, defScope s_piece_way, [], []⟩
abbrev s_bclosed : Stmt := top 22
abbrev N_bclosed : List Str := ["_law_books", "_law_some", "_law_told", "_law_held", "_law_bits", "_law_moment", "_law_way", "_law_piece", "_law_use", "_law_one"]
theorem sc_bclosed : FnScope N_bclosed ["_law_books", "_law_some", "_law_told"] (defScope s_bclosed) := ⟨rfl, rfl, rfl, by decide +kernel, rfl, by decide +kernel, by decide +kernel⟩
def a_bclosed : He.DefD := ⟨("_law_bclosed", none), "_law_bclosed", "_law_bclosed", defArgs s_bclosed, defBody s_bclosed, defScope s_bclosed, [], []⟩
abbrev s_law : Stmt := top 23
abbrev N_law : List Str := ["_law_script", "_law_tape", "_law_books", "_law_left", "_law_some", "_law_told", "_law_k", "_law_one", "_law_behind", "_law_alone", "_law_at"]
theorem sc_law : FnScope N_law ["_law_script"] (defScope s_law) := ⟨rfl, rfl, rfl, by decide +kernel, rfl, by decide +kernel, by decide +kernel⟩
def a_law : He.DefD := ⟨("law", none), "law", "law", defArgs s_law, defBody s_law, defScope s_law, [], []⟩
def fn : List He.DefD := [a_bprime, a_bfresh, a_bdraw, a_bname, a_bpath, a_bis_apart, a_bnumbers, a_bfiles, a_brows, a_bbooks, a_chain_of, a_files_by, a_needed, a_bpieces, a_book_way, a_piece_way, a_bclosed, a_law]
def fa : List He.Fa := [.glo "_law_bprime", .glo "_law_bfresh", .glo "_law_bdraw", .glo "_law_bname", .glo "_law_bpath", .glo "_law_bis_apart", .glo "_law_bnumbers", .glo "_law_bfiles", .glo "_law_brows", .glo "_law_bbooks", .glo "chain_of", .glo "files_by", .glo "needed", .glo "_law_bpieces", .glo "book_way", .glo "piece_way", .glo "_law_bclosed", .glo "law", .free "dict", .free "len", .free "list", .free "min", .free "range", .free "set", .free "sorted", .free "tuple"]
abbrev R : PySem.W.OpenRow := PySem.W.OpenLaw.row PySem.Challenge.rw_saltvault_k23_whole_ways_and_closed_list
abbrev hk : PySem.W.Hook := He.hookD 4 fa fn
def ob (s : PySem.W.SharedT) : He.AlD := He.obsDG 4 fa fn (HandSHeadRun.getT s)
theorem ob_eq (s : PySem.W.SharedT) : ob s = hk.obs s.abs := He.obsDG_eq (HandSHeadRun.getT_eq s)
abbrev vw : Program := PySem.W.view R.prog [23]
abbrev lo : List PySem.Str := [("VaultError" : PySem.Str), ("NoChain" : PySem.Str), ("chain_of" : PySem.Str), ("files_by" : PySem.Str), ("needed" : PySem.Str), ("book_way" : PySem.Str), ("piece_way" : PySem.Str), ("_law_bprime" : PySem.Str), ("_law_bfresh" : PySem.Str), ("_law_bdraw" : PySem.Str), ("_law_bname" : PySem.Str), ("_law_bpath" : PySem.Str), ("_law_bis_apart" : PySem.Str), ("_law_bnumbers" : PySem.Str), ("_law_bfiles" : PySem.Str), ("_law_brows" : PySem.Str), ("_law_bbooks" : PySem.Str), ("_law_bpieces" : PySem.Str), ("_law_bclosed" : PySem.Str)]
theorem run (w : World) : HandSHeadRun.RunEq R vw hk ob 6000 lo w := by
  intro os
  kernel_rfl
end C23
set_option Elab.async false
set_option linter.all false
set_option maxRecDepth 100000
set_option maxHeartbeats 4000000
namespace DL
open PySem PySem.Spec PyProof.Rows L2
theorem sd_shaped {d : D} (h : sd d = true) (hd : dpD d ≤ 64) : ∃ p, toP d = some p ∧ SeqAt.shaped p = true := by
  obtain ⟨p, h1, h2, h3⟩ := sd_ok d h
  exact ⟨p, h1, by simp [SeqAt.shaped, h2]; omega⟩
end DL
set_option Elab.async false
set_option linter.all false
set_option maxRecDepth 100000
set_option maxHeartbeats 4000000
namespace DL
open PySem PySem.Spec PyProof.Rows L2 PpSet
theorem compTurn2S_out (elt t0 i0 t1 i1 : Expr) (ifs0 ifs1 : List Expr) (scope : Scope) (pos : Pos) (it acc : Value) (env : Env) :
    compTurn (.SetComp elt [⟨t0, i0, ifs0, 0⟩, ⟨t1, i1, ifs1, 0⟩] scope pos) 0 it acc env = (do
      standAt i0.pos
      match ← pyNext it with
      | none => pure (.done .next)
      | some v =>
        letOwnedTupleGo t0 it v
        assign t0 env v
        let mut ok := true
        for c in ifs0 do
          if ok then ok ← isTrue c env (eval c env)
        if ok then
          let x ← eval i1 env
          standAt i1.pos
          let x ← foldedSetIterable i1 env x
          let _ ← runOwn (.compStart (.SetComp elt [⟨t0, i0, ifs0, 0⟩, ⟨t1, i1, ifs1, 0⟩] scope pos) 1 (← holding [x] (pyIter x)) acc env) env
        again (.compLoop (.SetComp elt [⟨t0, i0, ifs0, 0⟩, ⟨t1, i1, ifs1, 0⟩] scope pos) 0 it acc env)) := by rfl
theorem compTurn2S_in (elt t0 i0 t1 i1 : Expr) (ifs0 ifs1 : List Expr) (scope : Scope) (pos : Pos) (it acc : Value) (env : Env) :
    compTurn (.SetComp elt [⟨t0, i0, ifs0, 0⟩, ⟨t1, i1, ifs1, 0⟩] scope pos) 1 it acc env = (do
      standAt i1.pos
      match ← pyNext it with
      | none => pure (.done .next)
      | some v =>
        letOwnedTupleGo t1 it v
        assign t1 env v
        let mut ok := true
        for c in ifs1 do
          if ok then ok ← isTrue c env (eval c env)
        if ok then
          (do let v ← eval elt env; standAt elt.pos; let _ ← call (.builtin "set.add") [acc, v])
        again (.compLoop (.SetComp elt [⟨t0, i0, ifs0, 0⟩, ⟨t1, i1, ifs1, 0⟩] scope pos) 1 it acc env)) := by rfl
section
variable {prog : Program} {w : World} {A : Around} {R : Result → Shared → Prop} {s : Shared} {elt t0 i0 t1 i1 : Expr} {ifs0 ifs1 : List Expr} {scope : Scope} {pos : Pos} {it acc : Value} {env : Env}
/-- the loop of the first clause -/
theorem compLoop2S_out (hs : ∀ x, foldedSetIterable i1 env x = pure x) (I : Nat → Shared → Prop)
    (turn : ∀ n s, I n s → wpAny (model prog w) A (pyNext it) (fun r s₁ => match r with
      | none => R (.ok .next) s₁
      | some v => wpAny (model prog w) A (letOwnedTupleGo t0 it v) (fun _ s₁' => wpAny (model prog w) A (assign t0 env v) (fun _ s₂ =>
          wpAny (model prog w) A (forIn ifs0 true fun c r => if r = true then do let ok ← isTrue c env (eval c env); pure (ForInStep.yield ok) else pure (ForInStep.yield r)) (fun ok s₃ =>
            if ok = true then wpAny (model prog w) A (eval i1 env) (fun x s₄ => wpAny (model prog w) A (pyIter x) (fun it1 s₅ =>
              codeAny (model prog w) A (.compStart (.SetComp elt [⟨t0, i0, ifs0, 0⟩, ⟨t1, i1, ifs1, 0⟩] scope pos) 1 it1 acc env) (fun r s' => match r with
                | .ok _ => ∃ m, m < n ∧ I m s'
                | .error _ => False) s₅) (notedBy (model prog w) A env fun e s' => R (.error e) s') s₄) (notedBy (model prog w) A env fun e s' => R (.error e) s') s₃
            else ∃ m, m < n ∧ I m s₃) (notedBy (model prog w) A env fun e s' => R (.error e) s') s₂) (notedBy (model prog w) A env fun e s' => R (.error e) s') s₁') (notedBy (model prog w) A env fun e s' => R (.error e) s') s₁) (notedBy (model prog w) A env fun e s' => R (.error e) s') s)
    (n : Nat) (h : I n s) :
    codeAny (model prog w) A (.compLoop (.SetComp elt [⟨t0, i0, ifs0, 0⟩, ⟨t1, i1, ifs1, 0⟩] scope pos) 0 it acc env) R s := by
  refine codeAny_loop rfl I (fun n s hI => ?_) n h
  show wpAny _ A ((compTurn (.SetComp elt [⟨t0, i0, ifs0, 0⟩, ⟨t1, i1, ifs1, 0⟩] scope pos) 0 it acc env).onRaise (fun x => do noteFrame x env; theTreesLotGoes x)) _ _ s
  refine wpAny_noted ?_
  rw [compTurn2S_out]
  refine wpAny_bind (wpAny_standAt (wpAny_bind (wpAny_mono (turn n s hI) (fun r s₁ h₁ => ?_) fun _ _ h' => h')))
  cases r with
  | none => exact wpAny_pure h₁
  | some v =>
    refine wpAny_bind (wpAny_mono h₁ (fun _ s₁' h₁' => ?_) fun _ _ h' => h')
    refine wpAny_bind (wpAny_mono h₁' (fun _ s₂ h₂ => wpAny_bind (wpAny_mono h₂ (fun ok s₃ h₃ => ?_) fun _ _ h' => h')) fun _ _ h' => h')
    cases ok with
    | false => exact wpAny_pure ⟨rfl, h₃⟩
    | true =>
      refine wpAny_bind (wpAny_mono h₃ (fun x s₄ h₄ => ?_) fun _ _ h' => h')
      refine wpAny_bind (wpAny_standAt (wpAny_bind (wpAny_of_eq (hs x) (wpAny_bind (wpAny_holding (wpAny_mono h₄ (fun it1 s₅ h₅ => ?_) fun _ _ h' => h'))))))
      refine wpAny_bind (wpAny_runOwn ?_)
      rw [Around.mark_none]
      refine codeAny_mono h₅ fun r s' hr => ?_
      cases r with
      | ok f =>
        first
          | exact wpAny_pure ⟨rfl, hr⟩
          | exact wpAny_bind (wpAny_pure (wpAny_pure ⟨rfl, hr⟩))
      | error e => exact hr.elim
/-- the loop of the second -/
theorem compLoop2S_in (I : Nat → Shared → Prop)
    (turn : ∀ n s, I n s → wpAny (model prog w) A (pyNext it) (fun r s₁ => match r with
      | none => R (.ok .next) s₁
      | some v => wpAny (model prog w) A (letOwnedTupleGo t1 it v) (fun _ s₁' => wpAny (model prog w) A (assign t1 env v) (fun _ s₂ =>
          wpAny (model prog w) A (forIn ifs1 true fun c r => if r = true then do let ok ← isTrue c env (eval c env); pure (ForInStep.yield ok) else pure (ForInStep.yield r)) (fun ok s₃ =>
            if ok = true then wpAny (model prog w) A (eval elt env) (fun x s₄ =>
              wpAny (model prog w) A (call (.builtin "set.add") [acc, x]) (fun _ s₅ => ∃ m, m < n ∧ I m s₅) (notedBy (model prog w) A env fun e s' => R (.error e) s') s₄) (notedBy (model prog w) A env fun e s' => R (.error e) s') s₃
            else ∃ m, m < n ∧ I m s₃) (notedBy (model prog w) A env fun e s' => R (.error e) s') s₂) (notedBy (model prog w) A env fun e s' => R (.error e) s') s₁') (notedBy (model prog w) A env fun e s' => R (.error e) s') s₁) (notedBy (model prog w) A env fun e s' => R (.error e) s') s)
    (n : Nat) (h : I n s) :
    codeAny (model prog w) A (.compLoop (.SetComp elt [⟨t0, i0, ifs0, 0⟩, ⟨t1, i1, ifs1, 0⟩] scope pos) 1 it acc env) R s := by
  refine codeAny_loop rfl I (fun n s hI => ?_) n h
  show wpAny _ A ((compTurn (.SetComp elt [⟨t0, i0, ifs0, 0⟩, ⟨t1, i1, ifs1, 0⟩] scope pos) 1 it acc env).onRaise (fun x => do noteFrame x env; theTreesLotGoes x)) _ _ s
  refine wpAny_noted ?_
  rw [compTurn2S_in]
  refine wpAny_bind (wpAny_standAt (wpAny_bind (wpAny_mono (turn n s hI) (fun r s₁ h₁ => ?_) fun _ _ h' => h')))
  cases r with
  | none => exact wpAny_pure h₁
  | some v =>
    refine wpAny_bind (wpAny_mono h₁ (fun _ s₁' h₁' => ?_) fun _ _ h' => h')
    refine wpAny_bind (wpAny_mono h₁' (fun _ s₂ h₂ => wpAny_bind (wpAny_mono h₂ (fun ok s₃ h₃ => ?_) fun _ _ h' => h')) fun _ _ h' => h')
    cases ok with
    | false => exact wpAny_pure ⟨rfl, h₃⟩
    | true =>
      exact wpAny_bind (wpAny_bind (wpAny_mono h₃ (fun x s₄ h₄ => wpAny_bind (wpAny_standAt (wpAny_bind (wpAny_mono h₄ (fun _ s₅ h₅ => wpAny_pure (wpAny_pure ⟨rfl, h₅⟩)) fun _ _ h' => h')))) fun _ _ h' => h'))
/-- the second clause's start -/
theorem compStart1S_ok (h0 : codeAny (model prog w) A (.compLoop (.SetComp elt [⟨t0, i0, ifs0, 0⟩, ⟨t1, i1, ifs1, 0⟩] scope pos) 1 it acc env) R s)
    (h : wpAny (model prog w) A (pyIter it) (fun it' s' => codeAny (model prog w) A (.compLoop (.SetComp elt [⟨t0, i0, ifs0, 0⟩, ⟨t1, i1, ifs1, 0⟩] scope pos) 1 it' acc env) R s')
      (notedBy (model prog w) A env fun x s' => R (.error x) s') s) :
    codeAny (model prog w) A (.compStart (.SetComp elt [⟨t0, i0, ifs0, 0⟩, ⟨t1, i1, ifs1, 0⟩] scope pos) 1 it acc env) R s := by
  refine codeAny_of_tree ?_
  show wpAny _ _ ((compStart (.SetComp elt [⟨t0, i0, ifs0, 0⟩, ⟨t1, i1, ifs1, 0⟩] scope pos) 1 it acc env).onRaise (fun x => do noteFrame x env; standAt theWindowsPlace)) _ _ s
  refine wpAny_notedAt ?_
  unfold compStart
  show wpAny _ _ (ask >>= _) _ _ s
  refine wpAny_bind (wpAny_askSetting (wpAny_ite ?_))
  split
  · first
      | exact wpAny_bind (wpAny_pure (wpAny_pure (And.intro rfl h0)))
      | exact wpAny_pure (And.intro rfl h0)
  · first
      | exact wpAny_bind (wpAny_rule (wpAny_bind (wpAny_standAt (wpAny_bind (wpAny_mono h (fun it' s' h' => wpAny_pure (And.intro rfl h')) fun _ _ x => x)))))
      | (refine wpAny_bind (wpAny_rule ?_); show wpAny _ _ (standAt i1.pos >>= _) _ _ s; exact wpAny_bind (wpAny_standAt (wpAny_bind (wpAny_mono h (fun it' s' h' => wpAny_pure (And.intro rfl h')) fun _ _ x => x))))
end
section
variable {X : Cx}
/-- [elt for tg in iter if .. for tg1 in iter1 if ..]: behind the first clause's store and tests the second source's own loop, from which Nx is reached. vs: the block's names; vs1: those of the second target -/
def tSc2I (w : World) (wi : TI) (g : TG) (tt : TT) (wi1 : TI) (g1 : TG) (tt1 : TT) (te : TE) (vs vs1 : List Nat) : TE := fun σ H Q => wi σ H fun J H1 => ∀ D, H1 D = none → ∃ W : Nat → Nat → Hp → Prop, (∃ m, W 0 m (upd H1 D (SetO w D (fun _ => false) 0))) ∧ ∀ i m H, W i m H →
  (J.stop i H ∧ Q (.ref D) H) ∨ (J.go i H ∧ ∃ Nx : Hp → Prop, (∀ H', Nx H' → ∃ m', m' < m ∧ W (i + 1) m' H') ∧ ∀ x H', J.yld i H x H' → g x (wipe σ vs) H' fun σ2 H2 => wipe σ2 vs = wipe σ vs ∧ tt σ2 H2 fun b H3 =>
    if b = true then wi1 σ2 H3 fun J1 H4 => ∃ W1 : Nat → Nat → Hp → Prop, (∃ m, W1 0 m H4) ∧ ∀ j k H, W1 j k H →
      (J1.stop j H ∧ Nx H) ∨ (J1.go j H ∧ ∃ Nx1 : Hp → Prop, (∀ H', Nx1 H' → ∃ k', k' < k ∧ W1 (j + 1) k' H') ∧ ∀ x H', J1.yld j H x H' → g1 x (wipe σ2 vs1) H' fun σ3 H5 => wipe σ3 vs1 = wipe σ2 vs1 ∧ tt1 σ3 H5 fun b H6 =>
        if b = true then te σ3 H6 fun y H7 => ∃ (c : Int) (S : Int → Bool) (n : Nat), y = V.int c ∧ H7 D = some (SetO w D S n) ∧ n + 1 < scanBound ∧ Nx1 (upd H7 D (SetO w D (fun j => S j || decide (j = c)) (if S c = true then n else n + 1))) else Nx1 H6)
    else Nx H3)
theorem sc2_coreI {pins : List (Addr × Obj)} {s : Shared} {σ : L2.St} {H : Hp} {Q : VK} {elt tg iter tg1 iter1 : Expr} {ifs ifs1 : List Expr} {scope : Scope} {own : List (PySem.Str × Nat)} {vs1 : List Nat} {pos pos' : Pos} {wi wi1 : TI} {g g1 : TG} {tt tt1 : TT} {te : TE} {use : Option (Value → Sem Unit)} {Qf : Value → Shared → Prop}
    (hc : X.calm = true) (hN : X.N.Nodup) (I : Inv X pins σ H s) (hi : PI X tg iter wi) (ok : BlkOk X.N X.env.scope scope own) (hv : ∀ i ∈ vs1, i ∈ own.map (·.2))
    (hg : ∀ (s : Shared) (H : Hp) (C : Addr) (cl : List (PySem.Str × Addr)) (fp : List Addr), PG (X.blk s H scope (compEnvC scope cl C X.env) fp) tg g) (ht : ∀ (s : Shared) (H : Hp) (C : Addr) (cl : List (PySem.Str × Addr)) (fp : List Addr), PTs (X.blk s H scope (compEnvC scope cl C X.env) fp) ifs tt)
    (he : ∀ (s : Shared) (H : Hp) (C : Addr) (cl : List (PySem.Str × Addr)) (fp : List Addr), PE (X.blk s H scope (compEnvC scope cl C X.env) fp) elt te) (hs : ∀ x, foldedSetIterable iter X.env x = pure x)
    (hi1 : ∀ (s : Shared) (H : Hp) (C : Addr) (cl : List (PySem.Str × Addr)) (fp : List Addr), PI (X.blk s H scope (compEnvC scope cl C X.env) fp) tg1 iter1 wi1)
    (hg1 : ∀ (s : Shared) (H : Hp) (C : Addr) (cl : List (PySem.Str × Addr)) (fp : List Addr), PG (X.blk s H scope (compEnvC scope cl C X.env) fp) tg1 g1)
    (ht1 : ∀ (s : Shared) (H : Hp) (C : Addr) (cl : List (PySem.Str × Addr)) (fp : List Addr), PTs (X.blk s H scope (compEnvC scope cl C X.env) fp) ifs1 tt1)
    (hs1 : ∀ env x, foldedSetIterable iter1 env x = pure x)
    (h : tSc2I X.w wi g tt wi1 g1 tt1 te (own.map (·.2)) vs1 σ H Q)
    (hRR : ∀ D C s' m H', Inv X pins σ H' s' → Q (.ref D) H' → s'.heap.Ns C m → FpOk X pins H' C → compPost (model X.prog X.w) X.A X.xe use Qf (.ref D) C (.ok .next) s') :
    wpAny (model X.prog X.w) X.A (comprehension (.SetComp elt [⟨tg, iter, ifs, 0⟩, ⟨tg1, iter1, ifs1, 0⟩] scope pos) scope X.env pos' (newSet (.type "set")) false (eval iter X.env) use) Qf X.xe s := by
  have hfree : ∀ y ∈ scope.names, y.2 = .free → ∃ c, X.env.cells.lookup y.1 = some c := fun y hy e => by
    rcases ok.free y hy e with k | k
    · exact I.ok.has _ (.inl k)
    · exact I.ok.has _ (.inr k)
  refine wpAny_comprehension_free (use := use) rfl hs (closure_ok hfree) ok.kind (fun y hy e => by rw [ok.uniq y hy, e])
    (thn (hi.run pins s σ H _ I h) fun xv s1 hx => thn hx fun itv s2 h2 => ?_)
  obtain ⟨it, fp, tn, J, H2, e, I2, T, st2, f2, q⟩ := h2
  subst e
  refine newSet_ok (newEnv_comp ?_)
  generalize hD : s2.heap.objs.size = D
  have hDn : H2 D = none := I2.hok.fresh (Nat.le_of_eq hD)
  obtain ⟨W, ⟨m0, w0⟩, turn⟩ := q D hDn
  -- the new list
  generalize hs3 : ({ s2 with heap := s2.heap.push { cls := .type "set", dict := none, data := .set #[] 0 (.fresh 0 0 (!X.w.params.followText "set-order")) } } : Shared) = s3
  have I3 : Inv X pins σ (upd H2 D (SetO X.w D (fun _ => false) 0)) s3 := by
    rw [← hs3]
    refine I2.laid (t' := s2.toks) (fun b o e => Heap.get?_push_of_some _ e) (Nat.le_of_eq hD) ?_
    rw [← hD]
    exact setO_new (setR_fresh X.w)
  have h3 : s3.heap = s2.heap.push { cls := .type "set", dict := none, data := .set #[] 0 (.fresh 0 0 (!X.w.params.followText "set-order")) } := by rw [← hs3]
  have sz : ∀ b ∈ fp, b < s2.heap.objs.size := fun b hb => by
    obtain ⟨o, e, _⟩ := T.obj _ _ st2 b hb
    exact Heap.lt_size e
  have f3 : ∀ b ∈ fp, FpOk X pins (upd H2 D (SetO X.w D (fun _ => false) 0)) b ∧ b < s3.heap.objs.size := fun b hb => by
    have hlt := sz b hb
    refine ⟨⟨?_, (f2 b hb).2⟩, by rw [h3, Heap.size_push]; exact Nat.lt_succ_of_lt hlt⟩
    rw [upd_ne (by rw [← hD]; exact Nat.ne_of_lt hlt)]
    exact (f2 b hb).1
  have st3 : tn 0 s3.heap := T.keep _ _ _ st2 fun b _ o e => by rw [h3]; exact Heap.get?_push_of_some _ e
  have I4 := block_start I3 ok hN f3
  have pg := hg s3 (upd H2 D (SetO X.w D (fun _ => false) 0)) s3.heap.objs.size (cellsFrom (s3.heap.objs.size + 1) scope.names (cloFrom X.env.cells scope.names [])) fp
  have pt := ht s3 (upd H2 D (SetO X.w D (fun _ => false) 0)) s3.heap.objs.size (cellsFrom (s3.heap.objs.size + 1) scope.names (cloFrom X.env.cells scope.names [])) fp
  have pe := he s3 (upd H2 D (SetO X.w D (fun _ => false) 0)) s3.heap.objs.size (cellsFrom (s3.heap.objs.size + 1) scope.names (cloFrom X.env.cells scope.names [])) fp
  have pi1 := hi1 s3 (upd H2 D (SetO X.w D (fun _ => false) 0)) s3.heap.objs.size (cellsFrom (s3.heap.objs.size + 1) scope.names (cloFrom X.env.cells scope.names [])) fp
  have pg1 := hg1 s3 (upd H2 D (SetO X.w D (fun _ => false) 0)) s3.heap.objs.size (cellsFrom (s3.heap.objs.size + 1) scope.names (cloFrom X.env.cells scope.names [])) fp
  have pt1 := ht1 s3 (upd H2 D (SetO X.w D (fun _ => false) 0)) s3.heap.objs.size (cellsFrom (s3.heap.objs.size + 1) scope.names (cloFrom X.env.cells scope.names [])) fp
  show codeAny _ _ (.compStart (.SetComp elt [⟨tg, iter, ifs, 0⟩, ⟨tg1, iter1, ifs1, 0⟩] scope pos) 0 (.ref it) (.ref D) (compEnvC scope (cellsFrom (s3.heap.objs.size + 1) scope.names (cloFrom X.env.cells scope.names [])) s3.heap.objs.size X.env)) (compPost (model X.prog X.w) X.A X.xe use Qf (.ref D) s3.heap.objs.size) { s3 with heap := pushCells (s3.heap.push { cls := .type "dict", data := .dict #[] }) scope.names }
  have nfp : ∀ b ∈ fp, (upd H2 D (SetO X.w D (fun _ => false) 0)) b = none := fun b hb => (f3 b hb).1.1
  generalize hce : compEnvC scope (cellsFrom (s3.heap.objs.size + 1) scope.names (cloFrom X.env.cells scope.names [])) s3.heap.objs.size X.env = ce at I4 pg pt pe pi1 pg1 pt1 ⊢
  have cL : ce.locals = s3.heap.objs.size := by subst hce; rfl
  generalize hH3 : upd H2 D (SetO X.w D (fun _ => false) 0) = H3 at I3 I4 pg pt pe pi1 pg1 pt1 w0 nfp f3
  generalize hs4 : ({ s3 with heap := pushCells (s3.heap.push { cls := .type "dict", data := .dict #[] }) scope.names } : Shared) = s4 at I4 ⊢
  have st4 : tn 0 s4.heap := T.keep _ _ _ st3 fun b _ o e => by rw [← hs4]; exact pushCells_keeps _ _ _ _ (Heap.get?_push_of_some _ e)
  have stat : ∀ {σ' : L2.St} {H' : Hp} {s' : Shared}, Inv (X.blk s3 H3 scope ce fp) [] σ' H' s' → (∀ b ∈ fp, H' b = none) → ∀ b ∈ fp, FpOk (X.blk s3 H3 scope ce fp) [] H' b := fun {σ' H' s'} I' hn b hb =>
    ⟨hn b hb, (I'.ok.exf b hb).1, I'.ok.exfs b hb, .inl hb, fun x c e => (I'.ok.exf b hb).2 x c e, fun p hp => absurd (show p ∈ ([] : List (Addr × Obj)) ++ [] from hp) (by simp)⟩
  have loop : codeAny (model X.prog X.w) X.A (.compLoop (.SetComp elt [⟨tg, iter, ifs, 0⟩, ⟨tg1, iter1, ifs1, 0⟩] scope pos) 0 (.ref it) (.ref D) ce) (compPost (model X.prog X.w) X.A X.xe use Qf (.ref D) s3.heap.objs.size) s4 := by
    refine compLoop2S_out (hs1 ce) (fun n s' => ∃ i H', Inv (X.blk s3 H3 scope ce fp) [] (wipe σ (own.map (·.2))) H' s' ∧ tn i s'.heap ∧ (∀ b ∈ fp, H' b = none) ∧ W i n H') ?_ m0 ⟨0, H3, I4, st4, nfp, w0⟩
    rintro n s5 ⟨i, H5, I5, st5, n5, w5⟩
    rcases turn i n H5 w5 with ⟨stop, qq⟩ | ⟨go, Nx, hNx, step⟩
    · have td := T.done (X.blk s3 H3 scope ce fp) rfl rfl rfl hc i [] s5 _ H5 (fun _ _ => False) I5 (stat I5 n5) st5 stop
      refine thnF td fun r s6 ⟨hr, I6⟩ => ?_
      subst hr
      -- back in the def's context
      have I7 : Inv X pins σ H5 s6 := I3.call' (ch := fp) I6.os I6.base I6.hok I6.bare fun b hb => ⟨(f3 b hb).1.2.2.2.1, (f3 b hb).1.2.1, (f3 b hb).1.2.2.2.2.1, (f3 b hb).1.2.2.2.2.2⟩
      have nC : H5 s3.heap.objs.size = none := by
        have z : H5 ce.locals = none := I6.free
        rw [cL] at z
        exact z
      obtain ⟨m, hn, _⟩ := I6.loc
      have hn : s6.heap.Ns ce.locals m := hn
      rw [cL] at hn
      exact hRR D s3.heap.objs.size s6 m H5 I7 qq hn (I3.fpOk (Nat.le_refl _) nC)
    · have ti := T.item (X.blk s3 H3 scope ce fp) rfl rfl rfl hc i [] s5 _ H5 (fun _ _ => False) I5 (stat I5 n5) st5 go
      refine thnF ti fun r s6 ⟨u, hr, h6⟩ => ?_
      subst hr
      refine thnF h6 fun _ s7 ⟨x, H7, I7, r7, y7, st7, n7⟩ => ?_
      have I7' := I7.pinned (stat I7 n7) (T.obj _ _ st7)
      refine thnF (pg.run _ s7 _ H7 x u _ I7' r7 (step x H7 y7)) fun _ s8 ⟨σ8, H8, I8, hw8, q8⟩ => ?_
      refine thnF (pt.run _ s8 σ8 H8 _ I8 q8) fun b s9 ⟨H9, I9, q9⟩ => ?_
      -- the turn's end, from any slots that know what the block knew at its start
      have fin : ∀ {σ9 : L2.St} {s' : Shared} {H' : Hp}, Inv (X.blk s3 H3 scope ce fp) ([] ++ pinsAt fp s7.heap) σ9 H' s' → (wipe σ (own.map (·.2))).length = σ9.length → (∀ (j : Nat) v, (wipe σ (own.map (·.2)))[j]? = some (some v) → σ9[j]? = some (some v)) → Nx H' →
          ∃ m, m < n ∧ ∃ i H', Inv (X.blk s3 H3 scope ce fp) [] (wipe σ (own.map (·.2))) H' s' ∧ tn i s'.heap ∧ (∀ b ∈ fp, H' b = none) ∧ W i m H' := fun {σ9 s' H'} I' hl hk nx => by
        obtain ⟨m', hm, w'⟩ := hNx H' nx
        have pin' : ∀ b ∈ fp, ∀ o, s7.heap.get? b = some o → s'.heap.get? b = some o ∧ H' b = none := fun b hb o e =>
          let z := I'.pin (b, o) (List.mem_append_right _ (List.mem_append_right _ (mem_pinsAt hb e)))
          ⟨z.1, z.2.1⟩
        refine ⟨m', hm, i + 1, H', (I'.unpinned (pins := [])).weak hl hk, T.keep _ _ _ st7 fun b hb o e => (pin' b hb o e).1, fun b hb => ?_, w'⟩
        obtain ⟨o, e, _⟩ := T.obj _ _ st7 b hb
        exact (pin' b hb o e).2
      have hl8 : (wipe σ (own.map (·.2))).length = σ8.length := by rw [← hw8, wipe_length]
      have hk8 : ∀ (j : Nat) v, (wipe σ (own.map (·.2)))[j]? = some (some v) → σ8[j]? = some (some v) := fun j v e => by
        rw [← hw8] at e
        exact (wipe_some e).1
      have hk9 : ∀ (j : Nat) v, (wipe σ (own.map (·.2)))[j]? = some (some v) → (wipe σ8 vs1)[j]? = some (some v) := fun j v e => by
        rw [← hw8] at e
        obtain ⟨e1, e2⟩ := wipe_some e
        rw [wipe_out fun z => e2 (hv j z)]
        exact e1
      cases b with
      | false =>
        simp only [Bool.false_eq_true, if_false] at q9 ⊢
        exact fin I9 hl8 hk8 q9
      | true =>
        simp only [if_true] at q9 ⊢
        refine thnF (pi1.run _ s9 σ8 H9 _ I9 q9) fun xv s10 hx => thnF hx fun itv s11 h11 => ?_
        obtain ⟨it1, fp1, tn1, J1, H11, e1, I11, T1, st11, f11, W1, ⟨m1, w1⟩, turn1⟩ := h11
        subst e1
        -- the inner loop
        have stat1 : ∀ {H' : Hp}, (∀ b ∈ fp1, H' b = none) → ∀ b ∈ fp1, FpOk (X.blk s3 H3 scope ce fp) ([] ++ pinsAt fp s7.heap) H' b := fun hn b hb => ⟨hn b hb, (f11 b hb).2⟩
        have loop1 : codeAny (model X.prog X.w) X.A (.compLoop (.SetComp elt [⟨tg, iter, ifs, 0⟩, ⟨tg1, iter1, ifs1, 0⟩] scope pos) 1 (.ref it1) (.ref D) ce)
            (fun r s' => match r with
              | .ok _ => ∃ m, m < n ∧ ∃ i H', Inv (X.blk s3 H3 scope ce fp) [] (wipe σ (own.map (·.2))) H' s' ∧ tn i s'.heap ∧ (∀ b ∈ fp, H' b = none) ∧ W i m H'
              | .error _ => False) s11 := by
          refine compLoop2S_in (fun k s' => ∃ j H', Inv (X.blk s3 H3 scope ce fp) ([] ++ pinsAt fp s7.heap) (wipe σ8 vs1) H' s' ∧ tn1 j s'.heap ∧ (∀ b ∈ fp1, H' b = none) ∧ W1 j k H') ?_ m1 ⟨0, H11, I11.weak (wipe_length _ _) (fun j v e => (wipe_some e).1), st11, fun b hb => (f11 b hb).1, w1⟩
          rintro k s12 ⟨j, H12, I12, st12, n12, w12⟩
          rcases turn1 j k H12 w12 with ⟨stop1, nx1⟩ | ⟨go1, Nx1, hNx1, step1⟩
          · refine thnF (T1.done (X.blk s3 H3 scope ce fp) rfl rfl rfl hc j _ s12 (wipe σ8 vs1) H12 (fun _ _ => False) I12 (stat1 n12) st12 stop1) fun r s13 ⟨hr, I13⟩ => ?_
            subst hr
            exact fin I13 (hl8.trans (wipe_length σ8 vs1).symm) hk9 nx1
          · refine thnF (T1.item (X.blk s3 H3 scope ce fp) rfl rfl rfl hc j _ s12 (wipe σ8 vs1) H12 (fun _ _ => False) I12 (stat1 n12) st12 go1) fun r s13 ⟨u1, hr, h13⟩ => ?_
            subst hr
            refine thnF h13 fun _ s14 ⟨x1, H14, I14, r14, y14, st14, n14⟩ => ?_
            have I14' := I14.pinned (stat1 n14) (T1.obj _ _ st14)
            refine thnF (pg1.run _ s14 (wipe σ8 vs1) H14 x1 u1 _ I14' r14 (step1 x1 H14 y14)) fun _ s15 ⟨σ15, H15, I15, hw15, q15⟩ => ?_
            refine thnF (pt1.run _ s15 σ15 H15 _ I15 q15) fun b1 s16 ⟨H16, I16, q16⟩ => ?_
            have fin1 : ∀ {s' : Shared} {H' : Hp}, Inv (X.blk s3 H3 scope ce fp) (([] ++ pinsAt fp s7.heap) ++ pinsAt fp1 s14.heap) σ15 H' s' → Nx1 H' → ∃ m, m < k ∧ ∃ j H', Inv (X.blk s3 H3 scope ce fp) ([] ++ pinsAt fp s7.heap) (wipe σ8 vs1) H' s' ∧ tn1 j s'.heap ∧ (∀ b ∈ fp1, H' b = none) ∧ W1 j m H' := fun {s' H'} I' nx => by
              obtain ⟨m', hm, w'⟩ := hNx1 H' nx
              have pin' : ∀ b ∈ fp1, ∀ o, s14.heap.get? b = some o → s'.heap.get? b = some o ∧ H' b = none := fun b hb o e =>
                let z := I'.pin (b, o) (List.mem_append_right _ (List.mem_append_right _ (mem_pinsAt hb e)))
                ⟨z.1, z.2.1⟩
              refine ⟨m', hm, j + 1, H', I'.unpinned.weak (by rw [← hw15, wipe_length]) (fun j v e => by rw [← hw15] at e; exact (wipe_some e).1), T1.keep _ _ _ st14 fun b hb o e => (pin' b hb o e).1, fun b hb => ?_, w'⟩
              obtain ⟨o, e, _⟩ := T1.obj _ _ st14 b hb
              exact (pin' b hb o e).2
            cases b1 with
            | false =>
              simp only [Bool.false_eq_true, if_false] at q16 ⊢
              exact fin1 I16 q16
            | true =>
              simp only [if_true] at q16 ⊢
              refine thnF (pe.run _ s16 σ15 H16 _ I16 q16) fun z s17 ⟨yv, H17, I17, r17, cb, S0, n0, ey, hD17, hz17, nx⟩ => ?_
              subst ey
              obtain ⟨tk17, rfl⟩ := (show ∃ t, z = Value.int cb t from r17)
              exact addI_ok (X := X.blk s3 H3 scope ce fp) I17 hD17 hz17 fun s18 I18 => fin1 I18 nx
        exact compStart1S_ok loop1 (T1.self X.A 0 _ _ _ st11 loop1)
  exact codeAny_compStart_set loop (T.self X.A 0 _ _ _ st4 loop)
theorem pe_sc2I {elt tg iter tg1 iter1 : Expr} {ifs ifs1 : List Expr} {scope : Scope} {own : List (PySem.Str × Nat)} {vs1 : List Nat} {pos : Pos} {wi wi1 : TI} {g g1 : TG} {tt tt1 : TT} {te : TE} (hc : X.calm = true) (hN : X.N.Nodup) (hi : PI X tg iter wi) (ok : BlkOk X.N X.env.scope scope own) (hv : ∀ i ∈ vs1, i ∈ own.map (·.2))
    (hg : ∀ (s : Shared) (H : Hp) (C : Addr) (cl : List (PySem.Str × Addr)) (fp : List Addr), PG (X.blk s H scope (compEnvC scope cl C X.env) fp) tg g) (ht : ∀ (s : Shared) (H : Hp) (C : Addr) (cl : List (PySem.Str × Addr)) (fp : List Addr), PTs (X.blk s H scope (compEnvC scope cl C X.env) fp) ifs tt)
    (hi1 : ∀ (s : Shared) (H : Hp) (C : Addr) (cl : List (PySem.Str × Addr)) (fp : List Addr), PI (X.blk s H scope (compEnvC scope cl C X.env) fp) tg1 iter1 wi1)
    (hg1 : ∀ (s : Shared) (H : Hp) (C : Addr) (cl : List (PySem.Str × Addr)) (fp : List Addr), PG (X.blk s H scope (compEnvC scope cl C X.env) fp) tg1 g1) (ht1 : ∀ (s : Shared) (H : Hp) (C : Addr) (cl : List (PySem.Str × Addr)) (fp : List Addr), PTs (X.blk s H scope (compEnvC scope cl C X.env) fp) ifs1 tt1)
    (he : ∀ (s : Shared) (H : Hp) (C : Addr) (cl : List (PySem.Str × Addr)) (fp : List Addr), PE (X.blk s H scope (compEnvC scope cl C X.env) fp) elt te) (hs : ∀ x, foldedSetIterable iter X.env x = pure x := by intro _; rfl) (hs1 : ∀ env x, foldedSetIterable iter1 env x = pure x := by intro _ _; rfl) :
    PE X (.SetComp elt [⟨tg, iter, ifs, 0⟩, ⟨tg1, iter1, ifs1, 0⟩] scope pos) (tSc2I X.w wi g tt wi1 g1 tt1 te (own.map (·.2)) vs1) := by
  refine ⟨fun pins s σ H Q I h => ?_⟩
  rw [eval_SetComp]
  refine sc2_coreI hc hN I hi ok hv hg ht he hs hi1 hg1 ht1 hs1 h fun D C s' m H' I' q hn f => ⟨m, hn, fun h'' sb => ?_⟩
  obtain ⟨f0, f1, f2, f3, f4, f5⟩ := f
  exact ⟨.ref D, H', I'.turned (t' := s'.toks) (fun b o hb e => (sb.2 b hb).trans e) f0 f1 f3 f4 f5, rfl, q⟩
end
end DL
set_option Elab.async false
set_option linter.all false
set_option maxRecDepth 100000
set_option maxHeartbeats 4000000
namespace DL
open PySem PySem.Spec PyProof.Rows L2
def compS2 (t : Tg) (tt : Tx) (fi1 : Ix) (t1 : Tg) (tt1 : Tx) (e : Ex) (vs vs1 : List Nat) : List D → Ev → Sto → List Int → R (List Int)
  | [], _, S, acc => .ok acc S
  | d :: ds, ρ, S, acc => match t.put d (wipeD ρ vs) with
    | none => .bad
    | some ρ1 => (tt ρ1 S).nox.bind fun b S => if b = true then (fi1 ρ1 S).nox.bind fun ys S => (compS t1 tt1 e vs1 ys ρ1 S acc).bind fun acc S => compS2 t tt fi1 t1 tt1 e vs vs1 ds ρ S acc else compS2 t tt fi1 t1 tt1 e vs vs1 ds ρ S acc
section
variable {W : WX} {fi fi1 : Ix} {t t1 : Tg} {tt tt1 : Tx} {fe : Ex}
/-- what stands while the new list at D grows; cont what is left to do -/
def PkS (w : World) (K : PySem.W.Frag) (mg : Str → Option Value) (W : WX) (B : Addr → Prop) (m1 : List Addr) (S1 : Sto) (σ : L2.St) (H1 : Hp) (Q : VK) (D : Addr) (Fin : List Int → Sto → R DL.D) (m0 : List Addr) (S0 : Sto) (H0 : Hp) (cont : Sto → List Int → R (List Int)) (H : Hp) : Prop :=
  ∃ m2 S2 ds, Pc m1 S1 H1 m2 S2 H ∧ Kp H1 H (Fo B m1 S1) (Fo (BD B D) m2 S2) m1 m2 ∧ Kp H0 H (Fo (BD B D) m0 S0) (Fo (BD B D) m2 S2) m0 m2 ∧ Rl K mg (BD B D) m2 H S2 ∧ H D = some (SetO w D (fun j => decide (j ∈ ds)) (ded ds).length) ∧ D ∉ m2 ∧ fin K mg W B m1 S1 σ H1 ((cont S2 ds).bind Fin) Q
theorem sc2_of {w : World} {K : PySem.W.Frag} {mg : Str → Option Value} {σ : L2.St} {H : Hp} {Q Q0 : VK} {vs vs1 : List Nat} {Fin : List Int → Sto → R D} (hv : ∀ i ∈ t.sl, i ∈ vs) (hv1 : ∀ i ∈ t1.sl, i ∈ vs1) (h : up K mg W (fun ρ S => (fi ρ S).bind fun xs S => (compS2 t tt fi1 t1 tt1 fe vs vs1 xs ρ S []).bind Fin) σ H Q0)
    (hf : ∀ B m1 S1 H1 m2 S2 H2 D ds, Rl K mg B m1 H1 S1 → H1 D = none → Pc m1 S1 H1 m2 S2 H2 → Rl K mg (BD B D) m2 H2 S2 → H2 D = some (SetO w D (fun j => decide (j ∈ ds)) (ded ds).length) → D ∉ m2 → fin K mg W B m1 S1 σ H1 (Fin ds S2) Q0 → Q (.ref D) H2) :
    tSc2I w (upI K mg W fi) (Tg.rd K t) (upT K mg W0 tt) (upI K mg W0 fi1) (Tg.rd K t1) (upT K mg W0 tt1) (up K mg W0 fe) vs vs1 σ H Q := by
  obtain ⟨B, m, ρ, S, r, re, f⟩ := h
  refine ⟨B, m, ρ, S, r, re, finI.mono (finI.bind f) fun J H1 => ?_⟩
  rintro ⟨m1, S1, xs, p1, itr, f1⟩ D hD
  have re1 := re.kp (p1.kp r)
  have k0 := kp_aside (B := B) (m := m1) (S := S1) (o := SetO w D (fun _ => false) 0) hD
  refine ⟨fun i n H => n = xs.length - i ∧ i ≤ xs.length ∧ ∃ m2 S2 ds, Pc m1 S1 H1 m2 S2 H ∧ Kp H1 H (Fo B m1 S1) (Fo (BD B D) m2 S2) m1 m2 ∧ Rl K mg (BD B D) m2 H S2 ∧ H D = some (SetO w D (fun j => decide (j ∈ ds)) (ded ds).length) ∧ D ∉ m2 ∧
      fin K mg W B m1 S1 σ H1 ((compS2 t tt fi1 t1 tt1 fe vs vs1 (xs.drop i) ρ S2 ds).bind Fin) Q0,
    ⟨xs.length, by simp, Nat.zero_le _, m1, S1, [], (Post.refl p1.rl).pc.over hD, k0, p1.rl.aside hD, ?_, fun z => p1.rl.mt D z hD, by simpa using f1⟩, ?_⟩
  · rw [upd_same]
    have : (fun j : Int => decide (j ∈ ([] : List Int))) = fun _ => false := by funext j; simp
    rw [this]
    rfl
  rintro i n H2 ⟨rfl, hi, m2, S2, ds, pc, kp, rl, hacc, nD, f2⟩
  obtain ⟨go, stop⟩ := itr H2 _ m2 kp
  by_cases hlt : i < xs.length
  · right
    refine ⟨(go i hlt).1, fun H' => ∃ m3 S3 ds, Pc m1 S1 H1 m3 S3 H' ∧ Kp H1 H' (Fo B m1 S1) (Fo (BD B D) m3 S3) m1 m3 ∧ Rl K mg (BD B D) m3 H' S3 ∧ H' D = some (SetO w D (fun j => decide (j ∈ ds)) (ded ds).length) ∧ D ∉ m3 ∧
      fin K mg W B m1 S1 σ H1 ((compS2 t tt fi1 t1 tt1 fe vs vs1 (xs.drop (i + 1)) ρ S3 ds).bind Fin) Q0, ?_, ?_⟩
    · rintro H' ⟨m3, S3, ds3, h3⟩
      exact ⟨_, by omega, rfl, hlt, m3, S3, ds3, h3⟩
    · intro x H3 y
      obtain ⟨d, ed, sm, rx⟩ := (go i hlt).2 x H3 y
      have p3 : Post K mg (BD B D) m2 S2 H2 m2 S2 H3 := Post.grow rl sm
      have kp3 := kp.trans (p3.kp rl)
      have ed' : xs[i] = d := by
        have := List.getElem?_eq_getElem hlt
        rw [this] at ed
        exact Option.some.inj ed
      rw [List.drop_eq_getElem_cons hlt, ed'] at f2
      unfold compS2 at f2
      cases e1 : t.put d (wipeD ρ vs) with
      | none => rw [e1] at f2; exact f2.elim
      | some ρ4 =>
        rw [e1] at f2
        dsimp only at f2
        refine Tg.rd_okP (A := fun σ' => L2.wipe σ' vs = L2.wipe σ vs) t (fun σ i v h1 h2 => by rw [wipe_set (hv i h1)]; exact h2) e1 rx ((re1.kp kp3).wipe vs) ?_ fun σ4 re4 a4 => ⟨a4, BD B D, m2, ρ4, S2, p3.rl, re4, ?_⟩
        · apply List.ext_getElem?
          intro j
          rw [wipe_get, wipe_get, wipe_length]
          by_cases h1 : j ∈ vs ∧ j < σ.length
          · simp [h1]
          · simp [h1]
        · rcases R.nox_ok (r := tt ρ4 S2) (g := fun b S => if b = true then (fi1 ρ4 S).nox.bind fun ys S => (compS t1 tt1 fe vs1 ys ρ4 S ds).bind fun acc S => compS2 t tt fi1 t1 tt1 fe vs vs1 (xs.drop (i + 1)) ρ S acc else compS2 t tt fi1 t1 tt1 fe vs vs1 (xs.drop (i + 1)) ρ S ds) with ⟨b, S5, e5, e6⟩ | e6
          · rw [e6] at f2
            rw [e5]
            intro m5 H5 p5
            have kp5 := kp3.trans (p5.kp p3.rl)
            have pc5 : Pc m1 S1 H1 m5 S5 H5 := (pc.trans p3.pc).trans p5.pc
            have hacc3 := p3.keep _ _ hacc fun z => rl.nb _ z (.inr rfl)
            have hacc5 := p5.keep _ _ hacc3 fun z => p3.rl.nb _ z (.inr rfl)
            have nD5 : D ∉ m5 := notin_ext nD p5.ext hacc3
            have re5 := re4.kp (p5.kp p3.rl)
            cases b with
            | false =>
              rw [if_neg Bool.false_ne_true] at f2 ⊢
              exact ⟨m5, S5, ds, pc5, kp5, p5.rl, hacc5, nD5, f2⟩
            | true =>
              rw [if_pos rfl] at f2 ⊢
              rcases R.nox_ok (r := fi1 ρ4 S5) (g := fun ys S => (compS t1 tt1 fe vs1 ys ρ4 S ds).bind fun acc S => compS2 t tt fi1 t1 tt1 fe vs vs1 (xs.drop (i + 1)) ρ S acc) with ⟨ys, S6, e7, e8⟩ | e8
              · rw [e8] at f2
                refine ⟨BD B D, m5, ρ4, S5, p5.rl, re5, ?_⟩
                rw [e7]
                intro m6 H6 J1 p6 itr1
                have kp6 := kp5.trans (p6.kp p5.rl)
                have pc6 := pc5.trans p6.pc
                have hacc6 := p6.keep _ _ hacc5 fun z => p5.rl.nb _ z (.inr rfl)
                have nD6 : D ∉ m6 := notin_ext nD5 p6.ext hacc5
                have re6 := re5.kp (p6.kp p5.rl)
                clear kp5 pc5 hacc5 nD5 re5 e5 e6 e7 e8
                refine ⟨fun j n H => n = ys.length - j ∧ j ≤ ys.length ∧ PkS w K mg W B m1 S1 σ H1 Q0 D Fin m6 S6 H6 (fun S ds => (compS t1 tt1 fe vs1 (ys.drop j) ρ4 S ds).bind fun acc S => compS2 t tt fi1 t1 tt1 fe vs vs1 (xs.drop (i + 1)) ρ S acc) H,
                  ⟨ys.length, by simp, Nat.zero_le _, m6, S6, ds, pc6, kp6, ⟨fun _ _ h _ => h, fun _ _ h _ => h, fun _ _ _ h => h, fun _ _ _ f => f, fun _ _ h => h⟩, p6.rl, hacc6, nD6, by simpa using f2⟩, ?_⟩
                rintro j n H7 ⟨rfl, hj, m7, S7, ds7, pc7, kp7, kq7, rl7, hacc7, nD7, f7⟩
                obtain ⟨go1, stop1⟩ := itr1 H7 _ m7 kq7
                by_cases hlt1 : j < ys.length
                · right
                  refine ⟨(go1 j hlt1).1, fun H' => PkS w K mg W B m1 S1 σ H1 Q0 D Fin m6 S6 H6 (fun S ds => (compS t1 tt1 fe vs1 (ys.drop (j + 1)) ρ4 S ds).bind fun acc S => compS2 t tt fi1 t1 tt1 fe vs vs1 (xs.drop (i + 1)) ρ S acc) H', ?_, ?_⟩
                  · intro H' h'
                    exact ⟨_, by omega, rfl, hlt1, h'⟩
                  · intro x1 H8 y1
                    obtain ⟨d1, ed1, sm1, rx1⟩ := (go1 j hlt1).2 x1 H8 y1
                    have p8 : Post K mg (BD B D) m7 S7 H7 m7 S7 H8 := Post.grow rl7 sm1
                    have kq8 := kq7.trans (p8.kp rl7)
                    have kp8 := kp7.trans (p8.kp rl7)
                    have ed1' : ys[j] = d1 := by
                      have := List.getElem?_eq_getElem hlt1
                      rw [this] at ed1
                      exact Option.some.inj ed1
                    rw [List.drop_eq_getElem_cons hlt1, ed1'] at f7
                    unfold compS at f7
                    cases e9 : t1.put d1 (wipeD ρ4 vs1) with
                    | none => rw [e9] at f7; exact f7.elim
                    | some ρ9 =>
                      rw [e9] at f7
                      dsimp only at f7
                      refine Tg.rd_okP (A := fun σ' => L2.wipe σ' vs1 = L2.wipe σ4 vs1) t1 (fun σ i v h1 h2 => by rw [wipe_set (hv1 i h1)]; exact h2) e9 rx1 ((re6.kp kq8).wipe vs1) ?_ fun σ9 re9 a9 => ⟨a9, BD B D, m7, ρ9, S7, p8.rl, re9, ?_⟩
                      · apply List.ext_getElem?
                        intro j
                        rw [wipe_get, wipe_get, wipe_length]
                        by_cases h1 : j ∈ vs1 ∧ j < σ4.length
                        · simp [h1]
                        · simp [h1]
                      · replace f7 : fin K mg W B m1 S1 σ H1 ((((tt1 ρ9 S7).nox.bind fun b S => if b = true then (fe ρ9 S).nox.bind fun y S => match y with | .int i' => if ds7.length < 3000 then compS t1 tt1 fe vs1 (ys.drop (j + 1)) ρ4 S (ds7 ++ [i']) else .bad | _ => .bad else compS t1 tt1 fe vs1 (ys.drop (j + 1)) ρ4 S ds7).bind fun acc S => compS2 t tt fi1 t1 tt1 fe vs vs1 (xs.drop (i + 1)) ρ S acc).bind Fin) Q0 := f7
                        rcases R.nox_ok (r := tt1 ρ9 S7) (g := fun b S => if b = true then (fe ρ9 S).nox.bind fun y S => match y with | .int i' => if ds7.length < 3000 then compS t1 tt1 fe vs1 (ys.drop (j + 1)) ρ4 S (ds7 ++ [i']) else .bad | _ => .bad else compS t1 tt1 fe vs1 (ys.drop (j + 1)) ρ4 S ds7) with ⟨b, S10, e10, e11⟩ | e11
                        · rw [e11] at f7
                          rw [e10]
                          intro m10 H10 p10
                          have kq10 := kq8.trans (p10.kp p8.rl)
                          have kp10 := kp8.trans (p10.kp p8.rl)
                          have pc10 : Pc m1 S1 H1 m10 S10 H10 := (pc7.trans p8.pc).trans p10.pc
                          have hacc8 := p8.keep _ _ hacc7 fun z => rl7.nb _ z (.inr rfl)
                          have hacc10 := p10.keep _ _ hacc8 fun z => p8.rl.nb _ z (.inr rfl)
                          have nD10 : D ∉ m10 := notin_ext nD7 p10.ext hacc8
                          cases b with
                          | false =>
                            rw [if_neg Bool.false_ne_true] at f7 ⊢
                            exact ⟨m10, S10, ds7, pc10, kp10, kq10, p10.rl, hacc10, nD10, f7⟩
                          | true =>
                            rw [if_pos rfl] at f7 ⊢
                            rcases R.nox_ok (r := fe ρ9 S10) (g := fun y S => match y with | .int i' => if ds7.length < 3000 then compS t1 tt1 fe vs1 (ys.drop (j + 1)) ρ4 S (ds7 ++ [i']) else .bad | _ => .bad) with ⟨z, S11, e12, e13⟩ | e13
                            · rw [e13] at f7
                              refine ⟨BD B D, m10, ρ9, S10, p10.rl, re9.kp (p10.kp p8.rl), ?_⟩
                              rw [e12]
                              intro m11 H11 v p11 rv
                              have hacc11 := p11.keep _ _ hacc10 fun z => p10.rl.nb _ z (.inr rfl)
                              cases z with
                              | int c =>
                                dsimp only at f7
                                cases rv
                                split at f7
                                · rename_i hz
                                  have hl := ded_len ds7
                                  have nw : ¬ Fixd (SetO w D (fun j => decide (j ∈ ds7)) (ded ds7).length) := fun z => z
                                  have hF : Fo (BD B D) m11 S11 D := .inl (.inr rfl)
                                  refine ⟨c, _, _, rfl, hacc11, by unfold scanBound; omega, m11, S11, ds7 ++ [c], (pc10.trans p11.pc).over hD, (kp10.trans (p11.kp p10.rl)).trans (kp_writeD hacc11 nw hF), (kq10.trans (p11.kp p10.rl)).trans (kp_writeD hacc11 nw hF), p11.rl.writeD hacc11 nw, ?_, notin_ext nD10 p11.ext hacc10, f7⟩
                                  rw [upd_same, ded_snoc]
                                  have : (fun j : Int => decide (j ∈ ds7) || decide (j = c)) = fun j => decide (j ∈ ds7 ++ [c]) := by funext j; simp
                                  rw [this]
                                · exact f7.elim
                              | _ => exact f7.elim
                            · rw [e13] at f7; exact f7.elim
                        · rw [e11] at f7; exact f7.elim
                · left
                  have hd1 : ys.drop j = [] := List.drop_eq_nil_of_le (by omega)
                  rw [hd1] at f7
                  exact ⟨stop1 j (by omega), m7, S7, ds7, pc7, kp7, rl7, hacc7, nD7, f7⟩
              · rw [e8] at f2; exact f2.elim
          · rw [e6] at f2; exact f2.elim
  · left
    have hd : xs.drop i = [] := List.drop_eq_nil_of_le (by omega)
    rw [hd] at f2
    exact ⟨stop i (by omega), hf B m1 S1 H1 m2 S2 H2 D ds p1.rl hD pc rl hacc nD f2⟩
end
end DL
set_option Elab.async false
set_option linter.all false
set_option maxRecDepth 100000
set_option maxHeartbeats 4000000
namespace DL
open PySem PySem.Spec PyProof.Rows L2
section
variable {P : Program} {w : World} {A : Around} {E : Value → Shared → Prop} {s : Shared} {a : Addr}
theorem sorted_setB {S : Int → Bool} {n : Nat} {Q : Value → Shared → Prop} (R : SetR w s.heap a S n) (hh : A.handled = none)
    (hQ : ∀ s' p (out : Array Value) (c : Nat) (ns : List Int), (∀ b o, s.heap.get? b = some o → s'.heap.get? b = some o) → s'.gens = s.gens → s'.os = s.os → s.heap.objs.size ≤ p →
      s'.heap.get? p = some (seqObj "list" out c) → IntsAre out.toList ns → ns.Pairwise (· < ·) → (∀ k, k ∈ ns ↔ S k = true) → ns.length = n → Q (.ref p) s') :
    wpAny (model P w) A (call (.builtin "sorted") [.ref a]) Q E s := by
  obtain ⟨o, es, ep, t, ho, hex, hd, g, nd, hm, hb, hf, hn, hr, hl⟩ := R
  refine Calls.call_function_entry kind_sorted plain_sorted entry_sorted (args_sorted1 _) ?_
  unfold Builtin.«sorted»
  refine wpAny_bind (m := checkCount "sorted" 1 1 _) (wpAny_pure ?_)
  refine wpAny_bind (collect_set (A := A.in1) hh ⟨o, ho, hex.1, hd⟩ hf hb hr hl fun s1 vs k1 hz g1 o1 pm => ?_)
  have hvl : vs.length = n := by rw [pm.length_eq, List.length_map, Array.length_toList]; exact hn
  have hsz : vs.length ≤ sizeLine := by
    rw [hvl, sizeLine_eq, ← hn]
    have := hb
    unfold scanBound at this
    omega
  have hI : IntsAre vs (vs.map Builtin.Re.reRawOf) := ints_of vs fun v hv => by
    obtain ⟨e, he, q⟩ := List.mem_map.mp (pm.mem_iff.mp hv)
    obtain ⟨k, tk, h1, _⟩ := g e he
    exact ⟨k, tk, by rw [← q]; exact h1⟩
  have pk : (vs.map Builtin.Re.reRawOf).Perm (es.toList.map keyOf) := by
    have q := pm.map Builtin.Re.reRawOf
    rw [List.map_map] at q
    exact q
  refine wpAny_bind (wpAny_newList ?_ hsz)
  have hoL : (s1.heap.push (seqObj "list" vs.toArray 0)).get? s1.heap.objs.size = some (seqObj "list" vs.toArray 0) := Heap.get?_push_size _ rfl
  refine wpAny_bind (wpAny_holding (wpAny_call_entry slot_list_sort ⟨_, hoL, rfl⟩ entry_list_sort (SrtO.list_sort_ord SrtO.swo_int hoL hsz (fun h2 => SrtO.ints_sortable hI h2) fun out h1 h2 => ⟨_, rfl, ?_⟩) (args_list_sort _)))
  obtain ⟨a1, a2, a3⟩ := SrtO.ints_out hI h1 h2
  obtain ⟨c, hc⟩ := sortedHeap_at (vs := vs) (out := out.toArray) hoL
  have pn : (out.map SrtO.iv).Perm (es.toList.map keyOf) := a2.trans pk
  refine wpAny_pure ⟨_, rfl, hQ _ s1.heap.objs.size out.toArray c (out.map SrtO.iv) (fun b u e => ?_) g1 o1 hz hc a1 (lt_of_le_nodup _ a3 (pn.nodup_iff.mpr nd)) (fun k => by rw [pn.mem_iff, ← hm k]) ?_⟩
  · have q := k1 b u e
    have hlt := Heap.lt_size q
    show (sortedHeap (s1.heap.push (seqObj "list" vs.toArray 0)) s1.heap.objs.size vs out.toArray).get? b = some u
    rw [sortedHeap_old (Nat.ne_of_lt hlt) (by rw [size_push']; exact Nat.lt_succ_of_lt hlt)]
    exact Heap.get?_push_of_some _ q
  · rw [pn.length_eq, List.length_map, Array.length_toList]; exact hn
end
section
variable {X : Cx}
def rSortedSetB (w : World) : List V → Hp → VK → Prop := fun vs H Q => ∃ (a : Addr) (S : Int → Bool) (n : Nat), vs = [V.ref a] ∧ H a = some (SetO w a S n) ∧
  ∀ (ns : List Int) (p : Addr), ns.Pairwise (· < ·) → (∀ k : Int, k ∈ ns ↔ S k = true) → ns.length = n → n ≤ 4096 → H p = none → Q (.ref p) (upd H p (.lst (ns.map V.int)))
theorem cr_sortedSetB (hc : X.calm = true) : CallR X (.builtin "sorted") (rSortedSetB X.w) := by
  intro pins s σ H vs us Q I r h
  obtain ⟨a, S, n, rfl, ha, q⟩ := h
  have R := setO_get I ha
  have h64 : n ≤ 4096 := by
    obtain ⟨o, es, ep, t, ho, hex, hd, g, nd, hm, hb, hf, hn, hr, hl⟩ := id R
    rw [← hn]
    have := hb
    unfold scanBound at this
    omega
  rw [Vals.ref1 r]
  refine sorted_setB R (I.ok.hd hc) fun s' p out c ns k g o hp hg hi hs hm hl => ?_
  have hlen : (ns.map V.int).length ≤ sizeLine := by rw [List.length_map, hl, sizeLine_eq]; omega
  have hn : H p = none := I.hok.fresh hp
  have J : Inv X pins σ (upd H p (.lst (ns.map V.int))) { s with heap := s'.heap, gens := s'.gens, drawn := s'.drawn, toks := s'.toks } :=
    I.call (ch := []) (Un.laid k hp hn) (I.hok.laid k hp ⟨hlen, out.toList, c, vals_of_ints hi, hg⟩) (by rw [g]; exact I.bare) (fun _ z => nomatch z)
  have e : s' = { s with heap := s'.heap, gens := s'.gens, drawn := s'.drawn, toks := s'.toks } := by
    cases s'
    cases s
    cases o
    rfl
  rw [e]
  exact ⟨.ref p, _, J, rfl, q ns p hs hm hl h64 hn⟩
end
def eSortSc2M (it : Ix) (t : Tg) (tt : Tx) (fi1 : Ix) (t1 : Tg) (tt1 : Tx) (e : Ex) (vs vs1 : List Nat) : Ex := fun ρ S => (it ρ S).bind fun xs S => (compS2 t tt fi1 t1 tt1 e vs vs1 xs ρ S []).bind fun acc S => .ok (.ref S.length) (S ++ [some (.lst ((suI acc).map .int))])
section
variable {X : Cx} {W : WX} {tg iter tg1 iter1 elt : Expr} {ifs ifs1 : List Expr} {fi fi1 : Ix} {t t1 : Tg} {tt tt1 : Tx} {fe : Ex} {scope : Scope} {own : List (Str × Nat)} {vs1 : List Nat} {p pos p2 : Pos}
theorem ev_sortSc2M (hg0 : Gl X "sorted") (hm0 : X.mg "sorted" = none) (hc : X.calm = true) (hN : X.N.Nodup) (hi : IV X W tg iter fi) (ok : BlkOk X.N X.env.scope scope own)
    (hg : ∀ (s : Shared) (H : Hp) (C : Addr) (cl : List (Str × Addr)) (fp : List Addr), GV (X.blk s H scope (compEnvC scope cl C X.env) fp) tg t) (ht : ∀ (s : Shared) (H : Hp) (C : Addr) (cl : List (Str × Addr)) (fp : List Addr), TVs (X.blk s H scope (compEnvC scope cl C X.env) fp) W0 ifs tt)
    (hi1 : ∀ (s : Shared) (H : Hp) (C : Addr) (cl : List (Str × Addr)) (fp : List Addr), IV (X.blk s H scope (compEnvC scope cl C X.env) fp) W0 tg1 iter1 fi1)
    (hg1 : ∀ (s : Shared) (H : Hp) (C : Addr) (cl : List (Str × Addr)) (fp : List Addr), GV (X.blk s H scope (compEnvC scope cl C X.env) fp) tg1 t1) (ht1 : ∀ (s : Shared) (H : Hp) (C : Addr) (cl : List (Str × Addr)) (fp : List Addr), TVs (X.blk s H scope (compEnvC scope cl C X.env) fp) W0 ifs1 tt1)
    (he : ∀ (s : Shared) (H : Hp) (C : Addr) (cl : List (Str × Addr)) (fp : List Addr), EV (X.blk s H scope (compEnvC scope cl C X.env) fp) W0 elt fe) (hv : ∀ i ∈ t.sl, i ∈ own.map (·.2) := by decide) (hv1 : ∀ i ∈ t1.sl, i ∈ vs1 := by decide) (hvv : ∀ i ∈ vs1, i ∈ own.map (·.2) := by decide) (hs : ∀ x, foldedSetIterable iter X.env x = pure x := by intro _; rfl) (hs1 : ∀ env x, foldedSetIterable iter1 env x = pure x := by intro _ _; rfl)
    (hb : bootBuiltins "sorted" = some (.builtin "sorted") := by decide +kernel)
    (nb : starEach [.SetComp elt [⟨tg, iter, ifs, 0⟩, ⟨tg1, iter1, ifs1, 0⟩] scope p2] X.env = (false, eval (.SetComp elt [⟨tg, iter, ifs, 0⟩, ⟨tg1, iter1, ifs1, 0⟩] scope p2) X.env) :: starEach [] X.env := by rfl)
    (h1 : (backTo pos (starEach [] X.env)).any (·.1) = false := by rfl) :
    EV X W (.Call (.Name "sorted" p) [.SetComp elt [⟨tg, iter, ifs, 0⟩, ⟨tg1, iter1, ifs1, 0⟩] scope p2] [] pos) (eSortSc2M fi t tt fi1 t1 tt1 fe (own.map (·.2)) vs1) := by
  refine pe_imp (pe_callB (cr_sortedSetB hc) hg0 hm0 hb (pa_cons (pe_sc2I (wi1 := upI X.K X.mg W0 fi1) (g := Tg.rd X.K t) (tt := upT X.K X.mg W0 tt) (g1 := Tg.rd X.K t1) (tt1 := upT X.K X.mg W0 tt1) (te := up X.K X.mg W0 fe) hc hN hi ok hvv hg ht hi1 hg1 ht1 he hs hs1) pa_nil nb) (by decide) (by decide) nb h1) fun σ H Q h => ?_
  show tSc2I _ _ _ _ _ _ _ _ _ _ σ H fun x H1 => rSortedSetB X.w [x] H1 Q
  refine sc2_of hv hv1 h fun B m1 S1 H1 m2 S2 H2 D ds r1 hD pc rl hacc nD f => ?_
  have rl2 : Rl X.K X.mg B m2 H2 S2 := rl.less fun a z => .inl z
  refine ⟨D, _, _, rfl, hacc, fun ns p1 hpw hmem hlen hle hp1 => ?_⟩
  have hms : ns = suI ds := su_uniq hpw fun k => by rw [hmem, decide_eq_true_eq]
  subst hms
  exact f (m2 ++ [p1]) _ _ ((post_of_pc pc rl2).trans (Post.new rl2 hp1 (.lst upd_same (by rw [List.length_map, hlen, sizeLine_eq]; omega) (repA_ints _)))) (rep_new rl2)
end
section
variable {Q : D → Sto → Prop} {E : Px} {ρ : Ev} {S : Sto} {t t1 : Tg} {tt tt1 : Tx} {e : Ex} {vs vs1 : List Nat} {it fi1 : Ix}
theorem wp_compS2 {α β : Type} (f : α → D) (m : α → List β) (f1 : β → D) (g : α → β → Int) (S : Sto) : ∀ (l : List α) (acc : List Int) (Q : List Int → Sto → Prop) (E : Px), acc.length + (l.flatMap m).length ≤ 3000 →
    (∀ x ∈ l, ∃ ρ1, t.put (f x) (wipeD ρ vs) = some ρ1 ∧ Wp (fi1 ρ1 S) (fun ys S2 => ys = (m x).map f1 ∧ S2 = S) noX ∧ ∀ y ∈ m x, ∃ ρ2, t1.put (f1 y) (wipeD ρ1 vs1) = some ρ2 ∧ Wp (e ρ2 S) (fun z S2 => z = .int (g x y) ∧ S2 = S) noX) →
    Q (acc ++ l.flatMap fun x => (m x).map (g x)) S → Wp (compS2 t tYesX fi1 t1 tYesX e vs vs1 (l.map f) ρ S acc) Q E
  | [], acc, Q, E, _, _, q => by
    have q' : Q acc S := by simpa using q
    exact ⟨q'⟩
  | x :: l, acc, Q, E, hl, st, q => by
    obtain ⟨ρ1, e1, h1, h2⟩ := st x (by simp)
    rw [List.map_cons]
    unfold compS2
    rw [e1]
    dsimp only
    simp only [List.flatMap_cons, List.length_append] at hl
    refine wp_bind (wp_nox (wp_tyes ?_))
    rw [if_pos rfl]
    refine wp_bind (wp_nox (h1.mono fun ys S2 ⟨hy, hS⟩ => ?_))
    subst hy hS
    refine wp_bind (wp_compS f1 (fun _ => true) (g x) _ (m x) acc _ (by omega) (fun y hy => ?_) ?_)
    · obtain ⟨ρ2, e2, h3⟩ := h2 y hy
      exact ⟨ρ2, e2, wp_tyes ⟨rfl, rfl⟩, fun _ => h3⟩
    · rw [List.filter_eq_self.mpr fun _ _ => rfl]
      refine wp_compS2 f m f1 g _ l _ Q E (by rw [List.length_append, List.length_map]; omega) (fun y hy => st y (by simp [hy])) ?_
      simpa using q
theorem wp_sortSc2M {α β : Type} (l : List α) (f : α → D) (m : α → List β) (f1 : β → D) (g : α → β → Int) (hl : (l.flatMap m).length ≤ 3000) (h : Wp (it ρ S) (fun xs S1 => xs = l.map f ∧
    (∀ x ∈ l, ∃ ρ1, t.put (f x) (wipeD ρ vs) = some ρ1 ∧ Wp (fi1 ρ1 S1) (fun ys S2 => ys = (m x).map f1 ∧ S2 = S1) noX ∧ ∀ y ∈ m x, ∃ ρ2, t1.put (f1 y) (wipeD ρ1 vs1) = some ρ2 ∧ Wp (e ρ2 S1) (fun z S2 => z = .int (g x y) ∧ S2 = S1) noX) ∧
    Q (.ref S1.length) (S1 ++ [some (.lst ((suI (l.flatMap fun x => (m x).map (g x))).map .int))])) E) : Wp (eSortSc2M it t tYesX fi1 t1 tYesX e vs vs1 ρ S) Q E :=
  wp_bind (h.mono fun xs S1 ⟨h1, h2, q⟩ => by
    subst h1
    exact wp_bind (wp_compS2 f m f1 g S1 l [] _ _ (by simpa using hl) h2 (.of rfl (show Q (.ref S1.length) (S1 ++ [some (.lst ((suI ([] ++ l.flatMap fun x => (m x).map (g x))).map .int))]) by simpa using q))))
end
end DL
set_option Elab.async false
set_option linter.all false
set_option maxRecDepth 100000
set_option maxHeartbeats 4000000
namespace DL
open PySem PySem.Spec PyProof.Rows L2
def mergK2 (kv lv : List (Key × V)) : List (Key × V) := lv.foldl (fun a p => putK a p.1 p.2) kv
def mergD2 (kvs ls : List (D × D)) : List (D × D) := ls.foldl (fun a p => match unK p.1 with
  | Option.some k => putD a k p.2
  | Option.none => a) kvs
theorem mergK2_len : ∀ (lv kv : List (Key × V)), (mergK2 kv lv).length ≤ kv.length + lv.length
  | [], kv => Nat.le_refl _
  | p :: lv, kv => by
    have h1 := mergK2_len lv (putK kv p.1 p.2)
    have h2 := length_putK kv p.1 p.2
    show (mergK2 (putK kv p.1 p.2) lv).length ≤ _
    rw [List.length_cons]
    omega
theorem kr_merg2 {K : PySem.W.Frag} {H : Hp} {Fb : Addr → Prop} {m : List Addr} {lv : List (Key × V)} {ls : List (D × D)} (h : KR K H Fb m lv ls) : ∀ {kv : List (Key × V)} {kvs : List (D × D)}, KR K H Fb m kv kvs → KR K H Fb m (mergK2 kv lv) (mergD2 kvs ls) := by
  induction h with
  | nil => exact fun h => h
  | @cons k v d lv ls r h ih =>
    intro kv kvs h0
    show KR K H Fb m (mergK2 (putK kv k v) lv) (mergD2 (match unK (keyD k) with
      | Option.some k => putD kvs k d
      | Option.none => kvs) ls)
    rw [unK_keyD]
    exact ih (h0.put k r)
theorem kv_merge {lv : List (Key × V)} {ms : List (Key × Value)} (h : KV lv ms) : ∀ {kv : List (Key × V)} {vs : List (Key × Value)}, KV kv vs → KV (mergK2 kv lv) (PySem.merged vs ms) := by
  induction h with
  | nil => exact fun h => h
  | cons r h ih =>
    intro kv vs h0
    rename_i p q lv ms
    obtain ⟨k, v⟩ := p
    obtain ⟨k', u⟩ := q
    obtain ⟨e, r⟩ := r
    dsimp only at e r
    subst e
    exact ih (h0.put _ r)
def tDUpd (td ty : TE) : TE := fun σ H Q => td σ H fun x H1 => ∃ a, x = .ref a ∧ IsD H1 a ∧ ty σ H1 fun y H2 => ∃ b kv lv, H2 a = some (.dK kv) ∧ y = .ref b ∧ Rd H2 b (.dK lv) ∧ a ≠ b ∧ kv.length + lv.length ≤ sizeLine ∧ Q .non (upd H2 a (.dK (mergK2 kv lv)))
section
variable {X : Cx} {pins : List (Addr × Obj)} {σ : L2.St} {H : Hp} {s : Shared} {a b : Addr} {kv lv : List (Key × V)} {A : Around} {E : Value → Shared → Prop}
theorem d_update {Q : Value → Shared → Prop} (I : Inv X pins σ H s) (e : H a = some (.dK kv)) (e2 : Rd H b (.dK lv)) (ne : a ≠ b) (hl : kv.length + lv.length ≤ sizeLine)
    (h : ∀ s', Inv X pins σ (upd H a (.dK (mergK2 kv lv))) s' → Q .none s') : wpAny (model X.prog X.w) A (call (.builtin "dict.update") [.ref a, .ref b]) Q E s := by
  obtain ⟨z, hd, vs, rel, dd⟩ := dk_of I.hok e
  obtain ⟨z2, hd2, ms, rel2, dd2⟩ := dk_rd I.hok e2
  refine call_meetsIn PySem.F.slot_dict_update dd.typeIs PySem.F.entry_dict_update (PySem.F.args_dict_update_2 _ _) (meets_dict_update (mixKind X.prog X.w) a b ne hd2)
    ⟨vs, ms, dd, dd2, by rw [← rel.length, ← rel2.length]; exact hl, fun h' dd' _ hs => h _ ?_⟩
  have he : ∃ q, h'.get? a = some q := let ⟨q, _, _, hq, _⟩ := dd'; ⟨q, hq⟩
  exact d_write I (by rw [e]; exact True.intro) hs he (dk_new (Nat.le_trans (mergK2_len lv kv) hl) hd (kv_merge rel2 rel) dd')
end
def eUpdD (o e : Ex) : Ex := fun ρ S => (o ρ S).bind fun d S => if (dicOf S d).isSome = true then (e ρ S).bind fun y S => match dicOf S d, dicOf S y with
  | some (n, kvs), some (k, ls) => if n ≠ k ∧ kvs.length + ls.length ≤ sizeLine then .ok .non (S.set n (some (.dic false (mergD2 kvs ls)))) else .bad
  | _, _ => .bad
  else .bad
section
variable {X : Cx} {W : WX} {o e f : Expr} {fo fe ff : Ex} {td ty : TE} {pos apos cpos : Pos}
theorem pe_dupd (ho : PE X o td) (he : PE X e ty) (m : M1 X o "update" apos e cpos) : PE X (.Call (.Attribute o "update" apos) [e] [] cpos) (tDUpd td ty) := by
  refine ⟨fun pins s σ H Q I h => ?_⟩
  refine wpAny_Call_method m.base m.few m.line PySem.F.plainAttrs_dict PySem.F.slot_dict_update PySem.F.type_dict_update (thn (ho.run pins s σ H _ I h) fun u s1 ⟨x, H1, I1, rx, a, ex, d, q1⟩ => ?_)
  subst ex
  obtain rfl : u = Value.ref a := rx
  obtain ⟨t1, t2, _⟩ := isD_at I1 d
  refine ⟨t1, t2, ?_⟩
  rw [m.trees]
  refine Calls.callWith_builtin rfl (Calls.evalArgs_plain (Calls.spliced_cons (thn (he.run pins s1 σ H1 _ I1 q1) fun iv s2 ⟨y, H2, I2, ry, b, kv, lv, ea, ey, eb, ne, hl, q2⟩ => Calls.spliced_nil ?_)))
  subst ey
  obtain rfl : iv = Value.ref b := ry
  exact d_update I2 ea eb ne hl fun s3 I3 => ⟨.non, _, I3, rfl, q2⟩
theorem ev_updD (ho : EV X W o fo) (he : EV X W e fe) (mm : M1 X o "update" apos e cpos) : EV X W (.Call (.Attribute o "update" apos) [e] [] cpos) (eUpdD fo fe) := by
  refine pe_imp (pe_dupd ho he mm) fun σ H Q h => ?_
  obtain ⟨B, m, ρ, S, r, re, f⟩ := up_one (g := fun d ρ S => if (dicOf S d).isSome = true then (fe ρ S).bind fun y S => match dicOf S d, dicOf S y with
    | some (n, kvs), some (k, ls) => if n ≠ k ∧ kvs.length + ls.length ≤ sizeLine then .ok .non (S.set n (some (.dic false (mergD2 kvs ls)))) else .bad
    | _, _ => .bad
    else .bad) h
  refine ⟨B, m, ρ, S, r, re, f.mono fun x H1 => ?_⟩
  rintro ⟨B, m, ρ, S, d, r, re, rx, f⟩
  cases e0 : dicOf S d with
  | none => rw [e0] at f; exact f.elim
  | some nk =>
    rw [e0] at f
    simp only [Option.isSome_some, if_true] at f
    obtain ⟨a, kv, rfl, h1, h2, h3, h4, h5⟩ := dicOf_some r e0 rx
    refine ⟨a, rfl, .inl ⟨kv, .inl h3⟩, B, m, ρ, S, r, re, fin.mono (fin.bind f) fun y H2 => ?_⟩
    rintro ⟨m2, S2, dy, p2, q2, f2⟩
    have rx2 := rx.kp (p2.kp r)
    cases e1 : dicOf S2 d with
    | none => rw [e1] at f2; exact f2.elim
    | some nk =>
      obtain ⟨n, kvs⟩ := nk
      cases e2 : dicOf S2 dy with
      | none => rw [e1, e2] at f2; exact f2.elim
      | some kl =>
        obtain ⟨k, ls⟩ := kl
        rw [e1, e2] at f2
        dsimp only at f2
        obtain ⟨a', kv2, ea, g1, g2, g3, g4, g5⟩ := dicOf_some p2.rl e1 rx2
        cases ea
        obtain ⟨b, lv, rfl, k1, k2, k3, k4, k5⟩ := dicOf_some p2.rl e2 q2
        split at f2
        · rename_i hc
          have l1 := g5.length
          have l2 := k5.length
          have hl : kv2.length + lv.length ≤ sizeLine := by rw [l1, l2]; exact hc.2
          refine ⟨b, kv2, lv, g3, rfl, .inl k3, fun eab => hc.1 ?_, hl, f2 m2 _ _ (Post.updD p2.rl g1 g2 (kr_merg2 k5 g5) (Nat.le_trans (mergK2_len lv kv2) hl)) .non⟩
          subst eab
          obtain ⟨i1, j1⟩ := List.getElem?_eq_some_iff.mp g1
          obtain ⟨i2, j2⟩ := List.getElem?_eq_some_iff.mp k1
          exact (List.nodup_iff_pairwise_ne.mp p2.rl.nod |> fun hp => by
            rcases Nat.lt_trichotomy n k with h | h | h
            · exact absurd (j1.trans j2.symm) (List.pairwise_iff_getElem.mp hp n k i1 i2 h)
            · exact h
            · exact absurd (j2.trans j1.symm) (List.pairwise_iff_getElem.mp hp k n i2 i1 h))
        · exact f2.elim
def ePopD2 (o k x : Ex) : Ex := fun ρ S => (o ρ S).bind fun d S => if (dicOf S d).isSome = true then (k ρ S).bind fun y S => (x ρ S).bind fun z S => match dicOf S d, unK y with
  | some (n, kvs), some kk => match valD kvs kk with
    | some w => .ok w (S.set n (some (.dic false (dropD kvs kk))))
    | none => .ok z S
  | _, _ => .bad
  else .bad
theorem ev_popD2 (ho : EV X W o fo) (he : EV X W e fe) (hf : EV X W f ff) (mm : M2 X o "pop" apos e f cpos) : EV X W (.Call (.Attribute o "pop" apos) [e, f] [] cpos) (ePopD2 fo fe ff) := by
  refine pe_imp (pe_dpop2 ho he hf mm) fun σ H Q h => ?_
  obtain ⟨B, m, ρ, S, r, re, f⟩ := up_one (g := fun d ρ S => if (dicOf S d).isSome = true then (fe ρ S).bind fun y S => (ff ρ S).bind fun z S => match dicOf S d, unK y with
    | some (n, kvs), some kk => match valD kvs kk with
      | some w => .ok w (S.set n (some (.dic false (dropD kvs kk))))
      | none => .ok z S
    | _, _ => .bad
    else .bad) h
  refine ⟨B, m, ρ, S, r, re, f.mono fun x H1 => ?_⟩
  rintro ⟨B, m, ρ, S, d, r, re, rx, f⟩
  cases e0 : dicOf S d with
  | none => rw [e0] at f; exact f.elim
  | some nk =>
    rw [e0] at f
    simp only [Option.isSome_some, if_true] at f
    obtain ⟨a, kv, rfl, h1, h2, h3, h4, h5⟩ := dicOf_some r e0 rx
    refine ⟨a, rfl, .inl ⟨kv, .inl h3⟩, B, m, ρ, S, r, re, fin.mono (fin.bind f) fun y H2 => ?_⟩
    rintro ⟨m2, S2, dy, p2, q2, f2⟩
    refine ⟨B, m2, ρ, S2, p2.rl, re.kp (p2.kp r), fin.mono (fin.bind f2) fun z H3 => ?_⟩
    rintro ⟨m3, S3, dz, p3, q3, f3⟩
    have rx3 := (rx.kp (p2.kp r)).kp (p3.kp p2.rl)
    have ry3 := q2.kp (p3.kp p2.rl)
    cases e1 : dicOf S3 d with
    | none => rw [e1] at f3; exact f3.elim
    | some nk =>
      obtain ⟨n, kvs⟩ := nk
      cases e2 : unK dy with
      | none => rw [e1, e2] at f3; exact f3.elim
      | some kk =>
        rw [e1, e2] at f3
        dsimp only at f3
        obtain ⟨a', kv2, ea, g1, g2, g3, g4, g5⟩ := dicOf_some p3.rl e1 rx3
        cases ea
        refine ⟨kv2, kk, g3, ry3.key e2, fun v ev => ?_, fun ev => ?_⟩
        · rcases g5.val kk with ⟨v', d', w1, w2, rw'⟩ | ⟨w1, _⟩
          · rw [ev] at w1
            cases w1
            rw [w2] at f3
            have po := Post.updD (n := n) (kws := dropD kvs kk) p3.rl g1 g2 (g5.drop kk) (Nat.le_trans (dropK_le kv2 kk) g4)
            exact f3 m3 _ _ po (rw'.kp (po.kp p3.rl))
          · rw [ev] at w1; cases w1
        · rcases g5.val kk with ⟨v', d', w1, _, _⟩ | ⟨_, w2⟩
          · rw [ev] at w1; cases w1
          · rw [w2] at f3
            exact f3 m3 _ _ (Post.refl p3.rl) q3
def isLs : D → Bool
  | .lst _ => true
  | _ => false
def ixI : List Int → Int → Option Nat
  | [], _ => Option.none
  | x :: xs, k => if x = k then Option.some 0 else (ixI xs k).map (· + 1)
def idxD (d y : D) : Option D := match d, y with
  | .lst xs, .int k => (asIs xs).bind fun ns => (ixI ns k).map fun i => .int (i : Nat)
  | _, _ => Option.none
def eIdx (o : Ex) (fs : List Ex) : Ex := fun ρ S => (o ρ S).bind fun d S => if isLs (view S d) = true then (evL fs ρ S).bind fun ds S => match ds with
  | [y] => ans S (idxD (view S d) y)
  | _ => .bad
  else .bad
theorem ixI_some : ∀ {ns : List Int} {k : Int} {i : Nat}, ixI ns k = Option.some i → ns[i]? = Option.some k ∧ ∀ j x, j < i → ns[j]? = Option.some x → x ≠ k
  | x :: xs, k, i, h => by
    unfold ixI at h
    split at h
    · rename_i e
      cases h
      exact ⟨by rw [e]; rfl, fun j x h => by omega⟩
    · rename_i e
      obtain ⟨j, hj, rfl⟩ := Option.map_eq_some_iff.mp h
      obtain ⟨h1, h2⟩ := ixI_some hj
      refine ⟨by simpa using h1, fun j' x' hlt hx => ?_⟩
      cases j' with
      | zero => simp at hx; subst hx; exact e
      | succ j' => exact h2 j' x' (by omega) (by simpa using hx)
  | [], k, i, h => by simp [ixI] at h
theorem ev_idx (ho : EV X W o fo) (ha : EVA X W [e] [fe]) (hbase : attributeBase o "index" X.env (eval o X.env) = eval o X.env := by rfl)
    (hfew : ((backTo cpos (starEach [e] X.env)).all (fun x => !x.1) && (backToKw cpos (keywordEach [] X.env)).all (fun x => x.1.isSome) && decide ([e].length + ([] : List Keyword).length + (if ([] : List Keyword).isEmpty then 0 else 1) < 30)) = true := by rfl)
    (hline : (apos.endLine == cpos.line) = true := by rfl) (hs : starEach [e] X.env = (false, eval e X.env) :: starEach [] X.env := by rfl) (hplain : (backTo cpos (starEach [] X.env)).any (·.1) = false := by rfl) :
    EV X W (.Call (.Attribute o "index" apos) [e] [] cpos) (eIdx fo [fe]) := by
  refine pe_imp (pe_bm PySem.F.plainAttrs_list PySem.F.slot_list_index PySem.F.type_list_index mt_index ho ha hbase hfew hline hs hplain) fun σ H Q h => ?_
  obtain ⟨B, m, ρ, S, r, re, f⟩ := up_one (g := fun d ρ S => if isLs (view S d) = true then (evL [fe] ρ S).bind fun ds S => match ds with
    | [y] => ans S (idxD (view S d) y)
    | _ => .bad
    else .bad) h
  refine ⟨B, m, ρ, S, r, re, f.mono fun x H1 => ?_⟩
  rintro ⟨B, m, ρ, S, d, r, re, rx, f⟩
  split at f
  · rename_i hd
    have w := vw r rx
    cases hv : view S d <;> rw [hv] at hd <;> simp [isLs] at hd
    rename_i xs
    rw [hv] at w
    obtain ⟨a, ws, rfl, h1, z1, q1⟩ := w.asL
    refine ⟨ty_lst h1, B, m, ρ, S, r, re, finA.mono (finA.bind f) fun vs H2 => ?_⟩
    rintro ⟨m2, S2, ds, p2, q2, f2⟩
    split at f2
    · rename_i y
      cases q2 with
      | cons qy qn =>
        cases qn
        have rx2 := rx.kp (p2.kp r)
        have w2 := vw p2.rl rx2
        cases e1 : idxD (view S2 d) y with
        | none => rw [e1] at f2; exact f2.elim
        | some c =>
          rw [e1] at f2
          unfold idxD at e1
          split at e1
          · rename_i xs2 k hv2
            rw [hv2] at w2
            obtain ⟨a', ws2, ea, h2, z2, q3⟩ := w2.asL
            cases ea
            cases e3 : asIs xs2 with
            | none => rw [e3] at e1; cases e1
            | some ns =>
              rw [e3] at e1
              simp only [Option.bind_some] at e1
              obtain ⟨i, hi, rfl⟩ := Option.map_eq_some_iff.mp e1
              have ew := asIs_vals e3 q3
              cases qy
              obtain ⟨hi1, hi2⟩ := ixI_some hi
              refine ⟨a, ws2, .int k, i, .int k, rfl, rfl, SqL.of h2, rfl, ?_, ?_, ?_, fun j z' hj hz => ?_, f2.ok p2.rl (Same.refl _) (.int _)⟩
              · rw [ew, List.all_map]; exact List.all_eq_true.mpr fun _ _ => rfl
              · rw [ew, List.getElem?_map, hi1]; rfl
              · show (k == k) = true; simp
              · rw [ew, List.getElem?_map] at hz
                obtain ⟨x, hx, rfl⟩ := Option.map_eq_some_iff.mp hz
                show (x == k) = false
                have := hi2 j x hj hx
                simpa using this
          · cases e1
    · exact f2.elim
  · exact f.elim
end
def eqDE (a b : D) : Option D := match a, b with
  | .dic false kvs, .dic false ls => if ls.isEmpty = true then some (.bl kvs.isEmpty) else none
  | _, _ => none
section
variable {X : Cx}
theorem og_eqE (hu : X.A.units + 64 < cLine) : OpR X (compareOp .Eq) (rG2 X.K eqDE) := by
  intro pins s σ H x y v u Q I rx ry ⟨Fb, m, dx, dy, d, fr, vx, vy, e, k⟩
  unfold eqDE at e
  split at e
  · rename_i kvs ls
    split at e
    · rename_i hb
      cases e
      obtain ⟨a, kv, rfl, h1, z1, q1⟩ := vx.asD
      obtain ⟨b, lv, rfl, h2, z2, q2⟩ := vy.asD
      have hl0 : ls = [] := by simpa using hb
      subst hl0
      cases q2
      obtain rfl : v = Value.ref a := rx
      obtain rfl : u = Value.ref b := ry
      obtain ⟨_, ya, va, ra, da⟩ := dk_rd I.hok h1
      obtain ⟨_, yb, vb, rb, db⟩ := dk_rd I.hok h2
      cases rb
      have hl : kv.length = kvs.length := q1.length
      have hv : va.length = kv.length := ra.length.symm
      have he : kvs.isEmpty = va.isEmpty := by cases kvs <;> cases va <;> simp_all
      rw [he] at k
      exact PySem.W.keq_eq (knd := mixKind X.prog X.w) (r := true) ya yb da db (by omega) (fun hh => by
        have h0 : va = [] := by cases va with | nil => rfl | cons _ _ => simp at hh
        subst h0
        cases ra
        exact hits_all .nil .nil fun p hp => by simp at hp) (fin_bl I (k H _ (Same.refl H) (.bl _)) (by cases va <;> simp))
    · cases e
  · cases e
end
def sNoRaise : Sx := fun _ _ => .bad
theorem sv_noRaise {X : Cx} {W : WX} {st : Stmt} : SV X W st sNoRaise := ⟨fun pins s σ H D I ⟨B, m, ρ, S, r, re, f⟩ => f.elim⟩
end DL
set_option Elab.async false
set_option linter.all false
set_option maxRecDepth 100000
set_option maxHeartbeats 4000000
namespace DL
open PySem PySem.Spec PyProof.Rows L2
def listKD : List D → Option D
  | [.dic false kvs] => some (.lst (kvs.map (·.1)))
  | ds => listD ds
theorem repA_keys {K : PySem.W.Frag} {H H' : Hp} {Fb Fb' : Addr → Prop} {m m' : List Addr} {kv : List (Key × V)} {kvs : List (D × D)} (h : KR K H Fb m kv kvs) : RepA K H' Fb' m' (kv.map fun p => kV p.1) (kvs.map (·.1)) := by
  induction h with
  | nil => exact .nil
  | cons r _ ih => exact .cons (rep_key _) ih
section
variable {X : Cx} {W : WX} {e : Expr} {es : List Expr} {fs : List Ex} {p pos : Pos}
theorem cg_listK (hc : X.calm = true) : CallR X (.type "list") (rGn X.K listKD) := by
  intro pins s σ H xs us Q I r ⟨Fb, m, ds, d, fr, vx, e, k⟩
  unfold listKD at e
  split at e
  · cases e
    obtain ⟨v, rfl, h⟩ := vx.one
    obtain ⟨a, kv, rfl, h1, z1, q1⟩ := h.asD
    exact call_listD hc pins s σ H _ us Q I r ⟨a, kv, rfl, h1, fun p hp => k _ _ (same_upd hp) (.lst upd_same (fr p hp) (by rw [List.length_map]; exact z1) (repA_keys q1))⟩
  · exact cg_list pins s σ H xs us Q I r ⟨Fb, m, ds, d, fr, vx, e, k⟩
def rListK (X : Cx) : List V → Hp → VK → Prop := fun xs H Q => (∃ p ys, xs = [.ref p] ∧ (SqL X.K H p ys ∨ SqT X.K H p ys) ∧ ∀ l, H l = none → Q (.ref l) (upd H l (.lst ys))) ∨
  ∃ (a : Addr) (kvs : List (Key × V)), xs = [.ref a] ∧ Rd H a (.dK kvs) ∧ ∀ p, H p = none → Q (.ref p) (upd H p (.lst (kvs.map fun kv => kV kv.1)))
theorem cr_listK (hc : X.calm = true) : CallR X (.type "list") (rListK X) := by
  intro pins s σ H xs us Q I r h
  rcases h with h | h
  · exact call_list_of pins s σ H xs us Q I r h
  · exact call_listD hc pins s σ H xs us Q I r h
theorem ev_listMK (hc : X.calm = true) (hg : Gl X "list") (hm : X.mg "list" = none) (ha : EVA X W (e :: es) fs) (hv : bootBuiltins "list" = some (.type "list") := by decide +kernel)
    (he : starEach (e :: es) X.env = (false, eval e X.env) :: starEach es X.env := by rfl) (hpl : (backTo pos (starEach es X.env)).any (·.1) = false := by rfl) : EV X W (.Call (.Name "list" p) (e :: es) [] pos) (eListM listKD fs) := by
  refine pe_imp (pe_callTy (cr_listK hc) hg hm hv ha (by decide) (by decide) he hpl) fun σ H Q h => ?_
  obtain ⟨B, m, ρ, S, r, re, f⟩ := upA_one (g := fun ds ρ S => match listKD (ds.map (view S)) with
    | some (.lst xs) => .ok (.ref S.length) (S ++ [some (.lst xs)])
    | _ => .bad) h
  refine ⟨B, m, ρ, S, r, re, finA.mono f fun vs H1 => ?_⟩
  rintro ⟨B, m, ρ, S, ds, r, re, q, f⟩
  split at f
  · rename_i xs e1
    have vx := vwA r q
    unfold listKD at e1
    split at e1
    · rename_i kvs e2
      cases e1
      rw [e2] at vx
      obtain ⟨v, rfl, hv⟩ := vx.one
      obtain ⟨a, kv, rfl, h1, z1, q1⟩ := hv.asD
      exact .inr ⟨a, kv, rfl, h1, fun p hp => f (m ++ [p]) _ _ (Post.new r hp (.lst upd_same (by rw [List.length_map]; exact z1) (repA_keys q1))) (rep_new r)⟩
    · unfold listD at e1
      split at e1
      · rename_i e2
        cases e1
        rw [e2] at vx
        obtain ⟨v, rfl, hv⟩ := vx.one
        obtain ⟨a, ws, rfl, h1, z1, q1⟩ := hv.asL
        exact .inl ⟨a, ws, rfl, .inl (SqL.of h1), fun p hp => f (m ++ [p]) _ _ (Post.new r hp (.lst upd_same z1 (q1.kp (kp_new r hp)))) (rep_new r)⟩
      · rename_i e2
        cases e1
        rw [e2] at vx
        obtain ⟨v, rfl, hv⟩ := vx.one
        obtain ⟨a, ws, rfl, h1, z1, q1⟩ := hv.asT
        exact .inl ⟨a, ws, rfl, .inr h1, fun p hp => f (m ++ [p]) _ _ (Post.new r hp (.lst upd_same z1 (q1.kp (kp_new r hp)))) (rep_new r)⟩
      · cases e1
  · exact f.elim
end
def eSortSetB (f : Ex) : Ex := fun ρ S => (f ρ S).bind fun d S => match sqI (view S d) with
  | some ns => if ns.length < 4000 then .ok (.lst ((suI ns).map .int)) S else .bad
  | none => .bad
section
variable {X : Cx} {W : WX} {e : Expr} {fe : Ex} {p p2 q pos : Pos}
theorem ev_sortSetB (hc : X.calm = true) (hg : Gl X "sorted") (hm : X.mg "sorted" = none) (hg2 : Gl X "set") (hm2 : X.mg "set" = none) (he : EV X W e fe) (hv : bootBuiltins "sorted" = some (.builtin "sorted") := by decide +kernel) (hv2 : bootBuiltins "set" = some (.type "set") := by decide +kernel)
    (na : starEach [e] X.env = (false, eval e X.env) :: starEach [] X.env := by rfl) (nb : starEach [.Call (.Name "set" p2) [e] [] q] X.env = (false, eval (.Call (.Name "set" p2) [e] [] q) X.env) :: starEach [] X.env := by rfl)
    (h1 : (backTo pos (starEach [] X.env)).any (·.1) = false := by rfl) (h2 : (backTo q (starEach [] X.env)).any (·.1) = false := by rfl) : EV X W (.Call (.Name "sorted" p) [.Call (.Name "set" p2) [e] [] q] [] pos) (eSortSetB fe) := by
  refine pe_imp (pe_callB (cr_sortedSetB hc) hg hm hv (pa_cons (pe_callTy (cr_setL hc) hg2 hm2 hv2 (pa_cons he pa_nil na) (by decide) (by decide) na h2) pa_nil nb) (by decide) (by decide) nb h1) fun σ H Q h => ?_
  obtain ⟨B, m, ρ, S, r, re, f⟩ := up_one (g := fun d ρ S => match sqI (view S d) with
    | some ns => if ns.length < 4000 then .ok (.lst ((suI ns).map .int)) S else .bad
    | none => .bad) h
  refine ⟨B, m, ρ, S, r, re, f.mono fun x H1 => ?_⟩
  rintro ⟨B, m, ρ, S, d, r, re, rx, f⟩
  cases e0 : sqI (view S d) with
  | none => rw [e0] at f; exact f.elim
  | some ns =>
    rw [e0] at f
    dsimp only at f
    split at f
    · rename_i hl
      have vx := vw r rx
      have main : ∃ a, x = .ref a ∧ (SqL X.K H1 a (ns.map V.int) ∨ SqT X.K H1 a (ns.map V.int)) := by
        generalize view S d = dd at e0 vx
        cases dd with
        | lst xs =>
          obtain ⟨a, vs, rfl, h1, z1, q1⟩ := vx.asL
          have hvs := asIs_vals (show asIs xs = some ns from e0) q1
          subst hvs
          exact ⟨a, rfl, .inl (SqL.of h1)⟩
        | tup xs =>
          obtain ⟨a, vs, rfl, h1, z1, q1⟩ := vx.asT
          have hvs := asIs_vals (show asIs xs = some ns from e0) q1
          subst hvs
          exact ⟨a, rfl, .inr h1⟩
        | _ => cases e0
      obtain ⟨a, rfl, hsq⟩ := main
      refine ⟨a, ns, rfl, hsq, hl, fun p0 c hp0 hcn => ⟨p0, _, c, rfl, upd_same, fun ms p1 hpw hmem hlen hle hp1 => ?_⟩⟩
      have hms : ms = suI ns := su_uniq hpw fun k => by rw [hmem, decide_eq_true_eq]
      subst hms
      have hne : p1 ≠ p0 := fun z => by rw [z, upd_same] at hp1; cases hp1
      have hp1' : H1 p1 = none := by rw [upd_ne hne] at hp1; exact hp1
      have sm : Same H1 (upd (upd H1 p0 (SetO X.w p0 (fun j => decide (j ∈ ns)) c)) p1 (.lst ((suI ns).map V.int))) := fun b o eb => same_upd hp1 b o (same_upd hp0 b o eb)
      refine f m _ _ (Post.grow r sm) (.lst upd_same (fr_of r p1 hp1') ?_ (repA_ints _))
      have := su_len ns
      rw [List.length_map, sizeLine_eq]
      omega
    · exact f.elim
theorem wp_sortSetB {Q : D → Sto → Prop} {E : Px} {ρ : Ev} {S : Sto} {f : Ex} (h : Wp (f ρ S) (fun d S1 => ∃ ns : List Int, (view S1 d = .lst (ns.map .int) ∨ view S1 d = .tup (ns.map .int)) ∧ ns.length < 4000 ∧ Q (.lst ((suI ns).map .int)) S1) E) : Wp (eSortSetB f ρ S) Q E := wp_bind (h.mono fun d S1 ⟨ns, e, hl, q⟩ => by
  have e0 : sqI (view S1 d) = some ns := by rcases e with e | e <;> rw [e] <;> exact asIs_I ns
  rw [e0]
  dsimp only
  rw [if_pos hl]
  exact ⟨q⟩)
end
end DL
set_option Elab.async false
set_option linter.all false
set_option maxRecDepth 100000
set_option maxHeartbeats 4000000
namespace DL
open PySem PySem.Spec PyProof.Rows L2
def kT {α : Type} (f : α → D) (l : List (Str × α)) : List (D × D) := l.map fun p => (.str p.1, f p.2)
abbrev dT {α : Type} (f : α → D) (l : List (Str × α)) : D := .dic false (kT f l)
def getT {α : Type} : List (Str × α) → Str → Option α
  | [], _ => none
  | p :: l, k => if p.1 = k then some p.2 else getT l k
def putT {α : Type} (l : List (Str × α)) (k : Str) (v : α) : List (Str × α) := if (l.any fun p => decide (p.1 = k)) = true then l.map (fun p => if p.1 = k then (p.1, v) else p) else l ++ [(k, v)]
def dropT {α : Type} (l : List (Str × α)) (k : Str) : List (Str × α) := l.filter fun p => decide (p.1 ≠ k)
section
variable {α : Type} {f : α → D}
theorem unK_str (x : Str) : unK (.str x) = some (.inr x) := rfl
theorem valD_T : ∀ (l : List (Str × α)) (k : Str), valD (kT f l) (.inr k) = (getT l k).map f
  | [], _ => rfl
  | p :: l, k => by
    have ih := valD_T l k
    unfold valD kT at ih ⊢
    simp only [List.map_cons, List.find?_cons, unK_str, getT]
    by_cases h : p.1 = k
    · simp [h]
    · have : ¬ (some (Sum.inr p.1 : Key) = some (Sum.inr k)) := fun z => h (by cases z; rfl)
      simp only [this, decide_false, h, if_false]
      exact ih
theorem any_T (l : List (Str × α)) (k : Str) : ((kT f l).any fun p => decide (unK p.1 = some (.inr k))) = (l.any fun p => decide (p.1 = k)) := by
  unfold kT
  rw [List.any_map]
  congr 1
  funext p
  simp [unK]
theorem inr_iff {a b : Str} : (some (Sum.inr a : Key) = some (Sum.inr b)) ↔ a = b := ⟨fun z => by cases z; rfl, fun z => by rw [z]⟩
theorem putD_T (l : List (Str × α)) (k : Str) (v : α) : putD (kT f l) (.inr k) (f v) = kT f (putT l k v) := by
  unfold putD putT
  rw [any_T]
  split
  · unfold kT
    rw [List.map_map, List.map_map]
    refine List.map_congr_left fun p _ => ?_
    simp only [Function.comp, unK_str, inr_iff]
    split <;> rfl
  · simp [kT, keyD]
theorem dropD_T (l : List (Str × α)) (k : Str) : dropD (kT f l) (.inr k) = kT f (dropT l k) := by
  unfold dropD dropT kT
  rw [List.filter_map]
  congr 1
  refine List.filter_congr fun p _ => ?_
  simp only [Function.comp, unK_str]
  have := @inr_iff p.1 k
  by_cases h : p.1 = k
  · simp [h]
  · have h2 : ¬ (some (Sum.inr p.1 : Key) = some (Sum.inr k)) := fun z => h (this.mp z)
    simp [h, h2]
theorem kT_len (l : List (Str × α)) : (kT f l).length = l.length := by simp [kT]
theorem keys_T (l : List (Str × α)) : (kT f l).map (·.1) = (l.map (·.1)).map D.str := by simp [kT]
theorem getT_mem : ∀ {l : List (Str × α)} {k : Str} {v : α}, getT l k = some v → (k, v) ∈ l
  | [], _, _, h => by cases h
  | p :: l, k, v, h => by
    unfold getT at h
    split at h
    · rename_i e
      cases h
      subst e
      simp
    · exact List.mem_cons_of_mem _ (getT_mem h)
theorem getT_none : ∀ {l : List (Str × α)} {k : Str}, getT l k = none ↔ k ∉ l.map (·.1)
  | [], k => by simp [getT]
  | p :: l, k => by
    unfold getT
    have := @getT_none l k
    by_cases e : p.1 = k
    · simp [e]
    · rw [if_neg e, this, List.map_cons, List.mem_cons]
      have e' : ¬ k = p.1 := fun z => e z.symm
      simp only [e', false_or]
theorem getT_has {l : List (Str × α)} {k : Str} (h : k ∈ l.map (·.1)) : ∃ v, getT l k = some v := by
  cases e : getT l k with
  | none => exact absurd h (getT_none.mp e)
  | some v => exact ⟨v, rfl⟩
theorem mem_getT : ∀ {l : List (Str × α)} {k : Str} {v : α}, (l.map (·.1)).Nodup → (k, v) ∈ l → getT l k = some v
  | p :: l, k, v, hn, h => by
    rw [List.map_cons, List.nodup_cons] at hn
    unfold getT
    rcases List.mem_cons.mp h with e | h
    · rw [← e, if_pos rfl]
    · have hk : k ∈ l.map (·.1) := List.mem_map.mpr ⟨_, h, rfl⟩
      rw [if_neg fun (e : p.1 = k) => hn.1 (by rw [e]; exact hk)]
      exact mem_getT hn.2 h
theorem putT_mem {l : List (Str × α)} {k : Str} {v : α} {p : Str × α} (h : p ∈ putT l k v) : p ∈ l ∨ p = (k, v) := by
  unfold putT at h
  split at h
  · obtain ⟨q, h1, rfl⟩ := List.mem_map.mp h
    split
    · rename_i e
      right
      rw [e]
    · exact .inl h1
  · simpa using h
theorem putT_len (l : List (Str × α)) (k : Str) (v : α) : (putT l k v).length ≤ l.length + 1 := by
  unfold putT
  split <;> simp
theorem putT_keys {l : List (Str × α)} {k : Str} {v : α} (h : k ∈ l.map (·.1)) : (putT l k v).map (·.1) = l.map (·.1) := by
  unfold putT
  have : (l.any fun p => decide (p.1 = k)) = true := by
    obtain ⟨p, h1, h2⟩ := List.mem_map.mp h
    exact List.any_eq_true.mpr ⟨p, h1, decide_eq_true h2⟩
  rw [if_pos this, List.map_map]
  refine List.map_congr_left fun p _ => ?_
  simp only [Function.comp]
  split <;> rfl
theorem putT_new {l : List (Str × α)} {k : Str} {v : α} (h : k ∉ l.map (·.1)) : putT l k v = l ++ [(k, v)] := by
  unfold putT
  have : ¬ (l.any fun p => decide (p.1 = k)) = true := fun z => h (by
    obtain ⟨p, h1, h2⟩ := List.any_eq_true.mp z
    exact List.mem_map.mpr ⟨p, h1, of_decide_eq_true h2⟩)
  rw [if_neg this]
theorem putT_nd {l : List (Str × α)} {k : Str} {v : α} (h : (l.map (·.1)).Nodup) : ((putT l k v).map (·.1)).Nodup := by
  by_cases hk : k ∈ l.map (·.1)
  · rw [putT_keys hk]; exact h
  · rw [putT_new hk, List.map_append, List.nodup_append]
    refine ⟨h, by simp, fun a ha b hb e => ?_⟩
    simp at hb
    subst hb e
    exact hk ha
theorem dropT_nd {l : List (Str × α)} {k : Str} (h : (l.map (·.1)).Nodup) : ((dropT l k).map (·.1)).Nodup := h.sublist (List.filter_sublist.map _)
theorem dropT_len (l : List (Str × α)) (k : Str) : (dropT l k).length ≤ l.length := List.length_filter_le ..
theorem dropT_mem {l : List (Str × α)} {k : Str} {p : Str × α} (h : p ∈ dropT l k) : p ∈ l := (List.mem_filter.mp h).1
theorem get_app {l m : List (Str × α)} {k : Str} : getT (l ++ m) k = (getT l k).or (getT m k) := by
  induction l with
  | nil => rfl
  | cons p l ih =>
    show (if p.1 = k then some p.2 else getT (l ++ m) k) = (if p.1 = k then some p.2 else getT l k).or (getT m k)
    split
    · rfl
    · exact ih
theorem get_putT (l : List (Str × α)) (k j : Str) (v : α) : getT (putT l k v) j = if k = j then some v else getT l j := by
  by_cases hk : k ∈ l.map (·.1)
  · unfold putT
    have : (l.any fun p => decide (p.1 = k)) = true := by
      obtain ⟨p, h1, h2⟩ := List.mem_map.mp hk
      exact List.any_eq_true.mpr ⟨p, h1, decide_eq_true h2⟩
    rw [if_pos this]
    clear this
    induction l with
    | nil => simp at hk
    | cons p l ih =>
      rw [List.map_cons]
      by_cases e : p.1 = k
      · rw [if_pos e]
        unfold getT
        by_cases ej : k = j
        · rw [if_pos (by rw [e]; exact ej), if_pos ej]
        · rw [if_neg (by rw [e]; exact ej), if_neg ej, if_neg (by rw [e]; exact ej)]
          by_cases hk2 : k ∈ l.map (·.1)
          · rw [ih hk2, if_neg ej]
          · congr 1
            conv => rhs; rw [← List.map_id l]
            refine List.map_congr_left fun q hq => ?_
            rw [if_neg fun z => hk2 (List.mem_map.mpr ⟨q, hq, z⟩)]
            rfl
      · rw [if_neg e]
        rw [List.map_cons, List.mem_cons] at hk
        have hk2 : k ∈ l.map (·.1) := hk.resolve_left fun z => e z.symm
        unfold getT
        rw [ih hk2]
        by_cases e1 : p.1 = j
        · rw [if_pos e1, if_neg (fun z => e (e1.trans z.symm)), if_pos e1]
        · rw [if_neg e1, if_neg e1]
  · rw [putT_new hk, get_app]
    have := getT_none.mpr hk
    by_cases ej : k = j
    · subst ej
      rw [this, if_pos rfl]
      simp [getT]
    · rw [if_neg ej]
      simp [getT, ej]
theorem get_dropT (l : List (Str × α)) (k j : Str) : getT (dropT l k) j = if k = j then none else getT l j := by
  induction l with
  | nil => simp [dropT, getT]
  | cons p l ih =>
    unfold dropT at ih ⊢
    rw [List.filter_cons]
    by_cases e : p.1 = k
    · rw [if_neg (by simp [e]), ih]
      by_cases ej : k = j
      · rw [if_pos ej, if_pos ej]
      · rw [if_neg ej, if_neg ej]
        conv => rhs; unfold getT
        rw [if_neg (by rw [e]; exact ej)]
    · rw [if_pos (by simp [e])]
      unfold getT
      by_cases e1 : p.1 = j
      · rw [if_pos e1, if_pos e1, if_neg (fun z => e (e1.trans z.symm))]
      · rw [if_neg e1, if_neg e1, ih]
end
end DL
set_option Elab.async false
set_option linter.all false
set_option maxRecDepth 100000
set_option maxHeartbeats 4000000
namespace DL
def fil (xs : List Int) (m : Nat) : List Int := xs ++ List.replicate (m - xs.length) 0
theorem asIs_map : ∀ xs : List Int, asIs (xs.map .int) = some xs
  | [] => rfl
  | x :: xs => by simp [asIs, asIs_map xs]
end DL
namespace LS
open DL
local macro_rules | `(tactic| walk_at "w1") => `(tactic| with_reducible first
  | (refine ws_then ?_; try with_reducible dsimp only [List.set_cons_zero, List.set_cons_succ]) | refine ws_seq ?_ | refine ws_asg ?_ | refine ws_expr ?_ | refine ws_ret ?_ | refine ws_if ?_ | refine ws_asgT ?_ | refine ws_setIx ?_ | refine ws_skip ?_ | refine ws_retN ?_ | refine ws_brk ?_ | refine ws_cont ?_ | refine ws_thenR ?_ | refine ws_thenB ?_ | refine ws_thenC ?_ | refine fq_rt ?_ | refine fq_nx ?_ | refine un_nx ?_ | refine un_ct ?_ | refine un_bk ?_ | refine un_rt ?_ | refine ws_loopN ?_
  | (refine ws_loopC (ρ1 := ?r) ?h ?q; (case h => with_unfolding_all rfl); try with_reducible dsimp only [List.set_cons_zero, List.set_cons_succ])
  | refine wp_c ?_ | refine wp_op2 ?_ | refine wp_fn ?_ | refine wp_cons ?_ | refine wp_nil ?_ | refine wp_call ?_ | refine wp_op1 ?_
  | (refine wp_var (d := ?d) ?h ?q; (case h => with_unfolding_all rfl))
  | (refine ws_aug (d := ?d) ?h ?q; (case h => with_unfolding_all rfl))
  | refine wp_tup ?_ | refine wp_lst ?_ | refine wp_lstM ?_ | refine wp_listM ?_
  | refine wp_sl0 ?_ | refine wp_sl1 ?_ | refine wp_sl2 ?_ | refine wp_sl3 ?_
  | refine wp_tval ?_ | refine wp_tnot ?_ | refine wp_tand ?_ | refine wp_tor ?_ | refine wp_tyes ?_ | refine wp_and ?_ | refine wp_or ?_ | refine wp_not ?_ | refine wp_ifx ?_ | refine wp_chain ?_ | refine wp_meth ?_ | refine wp_meth0 ?_
  | refine wp_isi ?_ | refine wp_isis ?_ | refine wp_repr ?_ | refine wp_maxD ?_ | refine wi_rng3 ?_
  | refine wi_seq ?_ | refine wi_rng1 ?_ | refine wi_rng2 ?_ | refine wi_zip2 ?_ | refine wi_zipS ?_
  | (refine wp_fnB (ρ := ?ρ) ?he ?_; (case he => (simp only [List.map_cons, List.map_nil, List.length_cons, List.length_nil, List.replicate, List.cons_append, List.nil_append, Nat.reduceAdd, Nat.reduceSub]; rfl))))
local macro_rules | `(tactic| walk_at "w2") => `(tactic| ((with_reducible refine wo_id ?_); with_reducible first
  | refine vo_sub ?_ | refine vo_add ?_ | refine vo_lt ?_ | refine vo_le ?_ | refine vo_gt ?_ | refine vo_ge ?_ | refine vo_eq ?_ | refine vo_ne ?_ | refine vo_eqS ?_ | refine vo_neS ?_ | refine vo_eqB ?_ | refine vo_neB ?_ | refine vo_neg ?_ | refine vo_slT ?_ | refine vo_slL ?_ | refine vo_slS ?_ | refine vo_lenT ?_ | refine vo_lenL ?_ | refine vo_lenS ?_ | refine vo_revT ?_ | refine vo_revL ?_ | refine vo_min ?_ | refine vo_max ?_ | refine vo_tupL ?_ | refine vo_tupT ?_ | refine vo_lisL ?_ | refine vo_lisT ?_
  | refine vo_igAdd ?_ | refine vo_igMulR (by omega) ?_ | refine vo_igMulL (by omega) ?_ | refine vo_mod (by omega) ?_ | refine vo_div (by omega) ?_ | refine vo_mulR (by omega) ?_ | refine vo_mulL (by omega) ?_
  | refine vo_ixL0 ?_ | refine vo_ixL1 ?_ | refine vo_ixL2 ?_ | refine vo_ixL3 ?_ | refine vo_ixL4 ?_ | refine vo_ixL5 ?_ | refine vo_ixL6 ?_ | refine vo_ixT0 ?_ | refine vo_ixT1 ?_ | refine vo_ixT2 ?_ | refine vo_ixT3 ?_ | refine vo_ixT4 ?_ | refine vo_ixT5 ?_ | refine vo_ixT6 ?_
  | refine wo_vw1 (by assumption) ?_ | refine wo_vw2 (by assumption) ?_ | refine vo_vwc (by assumption) ?_
  | (refine vo_isi (c := ?c) ?h ?q; (case h => with_unfolding_all rfl)) | (refine vo_isis (c := ?c) ?h ?q; (case h => with_unfolding_all rfl))))
local macro_rules | `(tactic| walk_at "w3") => `(tactic| first
  | with_reducible refine ite_f ?_ | with_reducible refine ite_nt ?_ | with_reducible refine ite_nf ?_ | with_reducible refine ite_t ?_
  | ((with_reducible refine ex_id ?_); refine ⟨_, rfl, ?_⟩) | ((with_reducible refine and_id ?_); refine ⟨Nat.le_of_ble_eq_true rfl, ?_⟩))
local macro_rules | `(tactic| walk_at "w") => `(tactic| repeat (first | walk_at "w1" | walk_at "w2" | walk_at "w3"))
end LS
namespace DL
end DL
set_option Elab.async false
set_option linter.all false
set_option maxRecDepth 100000
set_option maxHeartbeats 4000000
namespace LB
open DL PySem
local macro_rules | `(tactic| walk_at "w1") => `(tactic| with_reducible first
  | (refine ws_then ?_; try with_reducible dsimp only [List.set_cons_zero, List.set_cons_succ]) | refine ws_seq ?_ | refine ws_asg ?_ | refine ws_expr ?_ | refine ws_ret ?_ | refine ws_if ?_ | refine ws_asgT ?_ | refine ws_skip ?_ | refine ws_retN ?_ | refine ws_brk ?_ | refine ws_cont ?_ | refine ws_thenR ?_ | refine ws_thenB ?_ | refine ws_thenC ?_ | refine fq_rt ?_ | refine fq_nx ?_ | refine un_nx ?_ | refine un_ct ?_ | refine un_bk ?_ | refine un_rt ?_ | refine ws_loopN ?_
  | (refine ws_loopC (ρ1 := ?r) ?h ?q; (case h => with_unfolding_all rfl); try with_reducible dsimp only [List.set_cons_zero, List.set_cons_succ])
  | refine wp_c ?_ | refine wp_op2 ?_ | refine wp_fn ?_ | refine wp_cons ?_ | refine wp_nil ?_ | refine wp_call ?_ | refine wp_op1 ?_
  | (refine wp_var (d := ?d) ?h ?q; (case h => with_unfolding_all rfl))
  | (refine ws_aug (d := ?d) ?h ?q; (case h => with_unfolding_all rfl))
  | refine wp_tup ?_ | refine wp_lst ?_ | refine wp_lstM ?_ | refine wp_listM ?_
  | refine wp_sl0 ?_ | refine wp_sl1 ?_ | refine wp_sl2 ?_ | refine wp_sl3 ?_
  | refine wp_tval ?_ | refine wp_tnot ?_ | refine wp_tand ?_ | refine wp_tor ?_ | refine wp_tyes ?_ | refine wp_and ?_ | refine wp_or ?_ | refine wp_not ?_ | refine wp_ifx ?_ | refine wp_chain ?_ | refine wp_meth ?_ | refine wp_meth0 ?_
  | refine wp_isi ?_ | refine wp_isis ?_ | refine wp_repr ?_ | refine wp_maxD ?_ | refine wi_rng3 ?_
  | refine wp_str1 ?_ | refine ws_par ?_ | refine wp_dnew ?_ | refine wp_get2 ?_ | refine wp_reprQ ?_ | refine wp_fnK ?_ | refine wi_valsI ?_ | refine wi_itemsI ?_ | refine ws_augI ?_
  | refine wi_seq ?_ | refine wi_rng1 ?_ | refine wi_rng2 ?_ | refine wi_zip2 ?_ | refine wi_zipS ?_
  | (refine wp_fnB (ρ := ?ρ) ?he ?_; (case he => (simp only [List.map_cons, List.map_nil, List.length_cons, List.length_nil, List.replicate, List.cons_append, List.nil_append, Nat.reduceAdd, Nat.reduceSub]; rfl))))
local macro_rules | `(tactic| walk_at "w2") => `(tactic| ((with_reducible refine wo_id ?_); with_reducible first
  | refine vo_sub ?_ | refine vo_add ?_ | refine vo_lt ?_ | refine vo_le ?_ | refine vo_gt ?_ | refine vo_ge ?_ | refine vo_eq ?_ | refine vo_ne ?_ | refine vo_eqS ?_ | refine vo_neS ?_ | refine vo_eqB ?_ | refine vo_neB ?_ | refine vo_neg ?_ | refine vo_slT ?_ | refine vo_slL ?_ | refine vo_slS ?_ | refine vo_lenT ?_ | refine vo_lenL ?_ | refine vo_lenS ?_ | refine vo_revT ?_ | refine vo_revL ?_ | refine vo_min ?_ | refine vo_max ?_ | refine vo_tupL ?_ | refine vo_tupT ?_ | refine vo_lisL ?_ | refine vo_lisT ?_
  | refine vo_igAdd ?_ | refine vo_igMulR (by omega) ?_ | refine vo_igMulL (by omega) ?_ | refine vo_mod (by omega) ?_ | refine vo_div (by omega) ?_ | refine vo_mulR (by omega) ?_ | refine vo_mulL (by omega) ?_
  | refine vo_ixL0 ?_ | refine vo_ixL1 ?_ | refine vo_ixL2 ?_ | refine vo_ixL3 ?_ | refine vo_ixL4 ?_ | refine vo_ixL5 ?_ | refine vo_ixL6 ?_ | refine vo_ixT0 ?_ | refine vo_ixT1 ?_ | refine vo_ixT2 ?_ | refine vo_ixT3 ?_ | refine vo_ixT4 ?_ | refine vo_ixT5 ?_ | refine vo_ixT6 ?_
  | refine vo_starts ?_ | refine vo_isBN ?_ | refine vo_isSN ?_ | refine vo_isLN ?_ | refine vo_isDN ?_ | refine vo_slX (by first | assumption | omega) ?_ | refine vo_lenX (by first | assumption | omega) ?_ | refine vo_addS (by first | assumption | omega) ?_
  | refine vo_inT ?_ | refine vo_ninT ?_ | refine vo_inL ?_ | refine vo_ninL ?_ | refine vo_inI ?_ | refine vo_ninI ?_ | refine vo_sortI (by first | assumption | omega) ?_ | refine vo_sortL ?_ | refine vo_lenI ?_ | refine vo_lt3 ?_ | refine vo_isNN ?_ | refine vo_is3N ?_ | refine vo_isTN ?_ | refine vo_isIN ?_ | refine vo_igAddI ?_ | refine vo_ixI (by assumption) ?_
  | refine vo_vwD1 (by assumption) ?_ | refine vo_vwDc (by assumption) ?_
  | refine wo_vw1 (by assumption) ?_ | refine wo_vw2 (by assumption) ?_ | refine vo_vwc (by assumption) ?_
  | (refine vo_isi (c := ?c) ?h ?q; (case h => with_unfolding_all rfl)) | (refine vo_isis (c := ?c) ?h ?q; (case h => with_unfolding_all rfl))))
local macro_rules | `(tactic| walk_at "w3") => `(tactic| first
  | with_reducible refine nb_ff ?_ | with_reducible refine nb_tt ?_ | with_reducible refine nb_ft ?_ | with_reducible refine nb_tf ?_
  | with_reducible refine ite_f ?_ | with_reducible refine ite_nt ?_ | with_reducible refine ite_nf ?_ | with_reducible refine ite_t ?_
  | ((with_reducible refine ex_id ?_); refine ⟨_, rfl, ?_⟩) | ((with_reducible refine and_id ?_); refine ⟨Nat.le_of_ble_eq_true rfl, ?_⟩))
local macro_rules | `(tactic| walk_at "w") => `(tactic| repeat (first | walk_at "w1" | walk_at "w2" | walk_at "w3"))
theorem pick_lt {zs : List Int} {i : Int} (h : 0 ≤ i ∧ i < zs.length) : ∃ z ∈ zs, L2.atI (zs.map D.int) i = some (.int z) := ⟨zs[i.toNat]'(by omega), List.getElem_mem _, by rw [atI_in h.1 (by rw [List.length_map]; omega), List.getElem_map]⟩
theorem wp_bprime {S : Sto} {i : Int} {Q : D → Sto → Prop} {E : Px} (q : ∀ p : Int, 2147483423 ≤ p ∧ p ≤ 2147483647 → Q (.int p) S) : Wp (d_bprime [.int i] S) Q E := by
  refine wp_fnP rfl ?_
  unfold b_bprime
  walk_at "w"
  refine vo_addL (by decide) ?_
  walk_at "w"
  have h1 : 0 ≤ i % 11 := Int.emod_nonneg _ (by decide)
  have h2 : i % 11 < 11 := Int.emod_lt_of_pos _ (by decide)
  refine wo_pick (zs := [2147483629, 2147483563, 2147483647, 2147483543, 2147483587, 2147483489, 2147483579, 2147483497, 2147483549, 2147483477, 2147483423]) rfl ⟨h1, by simp; omega⟩ fun z hz => ?_
  have hz' : 2147483423 ≤ z ∧ z ≤ 2147483647 := by simp at hz; omega
  exact ⟨rfl, q z hz'⟩
theorem bigA {c t : Int} (t0 : 0 ≤ t) (t1 : t ≤ 1000000000) : (c % 2147483399 * (t + 3) + 130043 * t + 29).natAbs < 2 ^ 64 := by
  have h0 : 0 ≤ c % 2147483399 := Int.emod_nonneg _ (by decide)
  have h1 : c % 2147483399 < 2147483399 := Int.emod_lt_of_pos _ (by decide)
  have h2 : c % 2147483399 * (t + 3) ≤ 2147483399 * (t + 3) := Int.mul_le_mul_of_nonneg_right (by omega) (by omega)
  have h3 : 0 ≤ c % 2147483399 * (t + 3) := Int.mul_nonneg h0 (by omega)
  omega
theorem bigB {c t one : Int} (a0 : 0 ≤ one) (a1 : one ≤ 2147483647) (t0 : 0 ≤ t) (t1 : t ≤ 1000000000) : (one * (t + 7) + c % 65521 + 3).natAbs < 2 ^ 64 := by
  have h0 : 0 ≤ c % 65521 := Int.emod_nonneg _ (by decide)
  have h1 : c % 65521 < 65521 := Int.emod_lt_of_pos _ (by decide)
  have h2 : one * (t + 7) ≤ 2147483647 * (t + 7) := Int.mul_le_mul_of_nonneg_right (by omega) (by omega)
  have h3 : 0 ≤ one * (t + 7) := Int.mul_nonneg a0 (by omega)
  omega
theorem wp_bfresh {S : Sto} {n : Nat} {k : Int} {Q : D → Sto → Prop} {E : Px} (h : JarS S n k) (hk : k ≤ 1000000000)
    (q : ∀ v S', JarS S' n (k + 1) → Only n S S' → Q (.int v) S') : Wp (d_bfresh [.ref n] S) Q E := by
  obtain ⟨cells, t, r, h0, t0, t1⟩ := h
  unfold Jar at h0
  have hll : (cells.map D.int).length = cells.length := List.length_map ..
  unfold d_bfresh b_bfresh
  walk_at "w"
  refine ws_setIx ?_
  walk_at "w"
  refine ⟨n, _, 1, 1, rfl, rfl, h0, rfl, ?_⟩
  refine set_gen h0 fun S1 h1 o1 => ?_
  have h1 : S1[n]? = some (some (.lst [.lst (cells.map .int), .int (t + 1), .int r])) := h1
  have jr : JarS S1 n (k + 1) := ⟨cells, t + 1, r, h1, by omega, by omega⟩
  walk_at "w"
  refine ws_midT (fun f S' => ∃ cell : Int, f = .nx [some (.ref n), some (.int t), some (.int cell), none, none, none] ∧ S1 = S') ?_ ?_
  · unfold i_bfresh_2
    walk_at "w"
    refine ite_d (fun hl => ?_) (fun hl => ?_)
    · walk_at "w"
      obtain ⟨z, _, hz⟩ := pick_lt (zs := cells) (i := t) ⟨t0, by rw [hll] at hl; exact hl⟩
      refine wo_ixL hz ?_
      walk_at "w"
      rfl
    · unfold i_bfresh_1
      walk_at "w"
      refine ite_d (fun hl => ?_) (fun _ => ?_)
      · walk_at "w"
        obtain ⟨z, _, hz⟩ := pick_lt (zs := cells) (i := t * 3 % ((cells.map D.int).length : Int)) ⟨Int.emod_nonneg _ (by omega), by rw [← hll]; exact Int.emod_lt_of_pos _ (by omega)⟩
        refine wo_ixL hz ?_
        walk_at "w"
        rfl
      · walk_at "w"
        rfl
  rintro f S' ⟨cell, rfl, rfl⟩
  walk_at "w"
  have yes : Ws ((sSeq (sAsg 3 (eOp2 modD (eOp2 powD (eOp2 addD (eOp2 addD (eOp2 mulD (eOp2 modD (eVar 2) (eC (.int 2147483399))) (eOp2 addD (eVar 1) (eC (.int 3)))) (eOp2 mulD (eC (.int 130043)) (eVar 1))) (eC (.int 29))) (eC (.int 3))) (eFn d_bprime [(eVar 1)])))
    (sSeq (sAsg 4 (eOp2 modD (eOp2 powD (eOp2 addD (eOp2 addD (eOp2 mulD (eVar 3) (eOp2 addD (eVar 1) (eC (.int 7)))) (eOp2 modD (eVar 2) (eC (.int 65521)))) (eC (.int 3))) (eC (.int 5))) (eFn d_bprime [(eOp2 addD (eVar 1) (eC (.int 5)))])))
    (sSeq (sAsg 5 (eOp2 modD (eOp2 addD (eOp2 addD (eOp2 mulD (eVar 4) (eVar 3)) (eVar 4)) (eVar 1)) (eFn d_bprime [(eOp2 addD (eVar 1) (eC (.int 8)))])))
    (sRet (eOp2 addD (eOp2 mulD (eOp2 addD (eOp2 mulD (eVar 4) (eC (.int 2147483647))) (eVar 5)) (eC (.int 2147483629))) (eVar 3)))))) [some (.ref n), some (.int t), some (.int cell), none, none, none] S1) (fnQ Q) (fun c p _ S => E c p S) := by
    have b1 := bigA (c := cell) t0 (by omega : t ≤ 1000000000)
    walk_at "w"
    refine .of (powD_k (by decide) (by decide) b1) ?_
    walk_at "w"
    refine wp_bprime fun p hp => ?_
    walk_at "w"
    generalize ho1 : (cell % 2147483399 * (t + 3) + 130043 * t + 29) ^ (3 : Int).toNat % p = one
    have c1 : 0 ≤ one ∧ one ≤ 2147483647 := by rw [← ho1]; exact modR _ p hp
    have b2 := bigB (c := cell) c1.1 c1.2 t0 (by omega : t ≤ 1000000000)
    refine .of (powD_k (by decide) (by decide) b2) ?_
    walk_at "w"
    refine wp_bprime fun p2 hp2 => ?_
    walk_at "w"
    generalize ho2 : (one * (t + 7) + cell % 65521 + 3) ^ (5 : Int).toNat % p2 = two
    have c2 : 0 ≤ two ∧ two ≤ 2147483647 := by rw [← ho2]; exact modR _ p2 hp2
    walk_at "w"
    refine wp_bprime fun p3 hp3 => ?_
    walk_at "w"
    generalize ho3 : (two * one + two + t) % p3 = three
    have c3 : 0 ≤ three ∧ three ≤ 2147483647 := by rw [← ho3]; exact modR _ p3 hp3
    walk_at "w"
    exact q _ S1 jr o1
  unfold i_bfresh_3
  walk_at "w"
  refine ⟨fun hl => ?_, fun _ => ?_⟩
  · walk_at "w"
    refine .of pow1018 ?_
    walk_at "w"
    refine ite_d (fun _ => ?_) (fun _ => ?_)
    · walk_at "w"
      exact q _ S1 jr o1
    · walk_at "w1"
      walk_at "w1"
      exact yes
  · walk_at "w3"
    walk_at "w1"
    walk_at "w1"
    exact yes
theorem wp_bdraw {S : Sto} {n : Nat} {k often : Int} {Q : D → Sto → Prop} {E : Px} (h : JarS S n k) (hk : k ≤ 1000000000) (ho : 0 < often ∧ often < 1073741824)
    (q : ∀ v S', 0 ≤ v → v < often → JarS S' n (k + 1) → Only n S S' → Q (.int v) S') : Wp (d_bdraw [.ref n, .int often] S) Q E := by
  obtain ⟨cells, t, r, h0, t0, t1⟩ := id h
  unfold Jar at h0
  unfold d_bdraw b_bdraw
  walk_at "w1"
  refine ws_mid (fun f S1 => f = .nx [some (.ref n), some (.int often), none] ∧ ∃ (cells : List Int) (t' r' : Int), S1[n]? = some (some (.lst [.lst (cells.map .int), .int t', .int r'])) ∧ 0 ≤ t' ∧ t' ≤ k + 1 ∧ Only n S S1) ?_ ?_
  · unfold i_bdraw_1
    walk_at "w"
    refine ite_d (fun _ => ?_) (fun _ => ?_)
    · walk_at "w"
      refine ws_setIx ?_
      walk_at "w"
      refine wp_bfresh h hk fun v S1 j1 o1 => ?_
      obtain ⟨cells, t', r', h1, a0, a1⟩ := j1
      unfold Jar at h1
      walk_at "w"
      refine ⟨n, _, 2, 2, rfl, rfl, h1, rfl, ?_⟩
      exact ⟨rfl, cells, t', v, set_at h1, a0, a1, o1.trans .set⟩
    · walk_at "w"
      exact ⟨rfl, cells, t, r, h0, t0, by omega, .refl⟩
  rintro f S1 ⟨rfl, cells, t', r', h1, t0', t1', o1⟩
  walk_at "w"
  refine ws_setIx ?_
  walk_at "w"
  refine ⟨n, _, 2, 2, rfl, rfl, h1, rfl, ?_⟩
  refine set_gen h1 fun S2 h2 o2 => ?_
  walk_at "w"
  exact q _ S2 (Int.emod_nonneg _ (by omega)) (Int.emod_lt_of_pos _ ho.1) ⟨cells, t', _, h2, t0', t1'⟩ (o1.trans o2)
end LB
namespace LB
open DL PySem
local macro_rules | `(tactic| walk_at "w1") => `(tactic| with_reducible first
  | (refine ws_then ?_; try with_reducible dsimp only [List.set_cons_zero, List.set_cons_succ]) | refine ws_seq ?_ | refine ws_asg ?_ | refine ws_expr ?_ | refine ws_ret ?_ | refine ws_if ?_ | refine ws_asgT ?_ | refine ws_skip ?_ | refine ws_retN ?_ | refine ws_brk ?_ | refine ws_cont ?_ | refine ws_thenR ?_ | refine ws_thenB ?_ | refine ws_thenC ?_ | refine fq_rt ?_ | refine fq_nx ?_ | refine un_nx ?_ | refine un_ct ?_ | refine un_bk ?_ | refine un_rt ?_ | refine ws_loopN ?_
  | (refine ws_loopC (ρ1 := ?r) ?h ?q; (case h => with_unfolding_all rfl); try with_reducible dsimp only [List.set_cons_zero, List.set_cons_succ])
  | refine wp_c ?_ | refine wp_op2 ?_ | refine wp_fn ?_ | refine wp_cons ?_ | refine wp_nil ?_ | refine wp_call ?_ | refine wp_op1 ?_
  | (refine wp_var (d := ?d) ?h ?q; (case h => with_unfolding_all rfl))
  | (refine ws_aug (d := ?d) ?h ?q; (case h => with_unfolding_all rfl))
  | refine wp_tup ?_ | refine wp_lst ?_ | refine wp_lstM ?_ | refine wp_listM ?_
  | refine wp_sl0 ?_ | refine wp_sl1 ?_ | refine wp_sl2 ?_ | refine wp_sl3 ?_
  | refine wp_tval ?_ | refine wp_tnot ?_ | refine wp_tand ?_ | refine wp_tor ?_ | refine wp_tyes ?_ | refine wp_and ?_ | refine wp_or ?_ | refine wp_not ?_ | refine wp_ifx ?_ | refine wp_chain ?_ | refine wp_meth ?_ | refine wp_meth0 ?_
  | refine wp_isi ?_ | refine wp_isis ?_ | refine wp_repr ?_ | refine wp_maxD ?_ | refine wi_rng3 ?_
  | refine wp_str1 ?_ | refine ws_par ?_ | refine wp_dnew ?_ | refine wp_get2 ?_ | refine wp_reprQ ?_ | refine wp_fnK ?_ | refine wi_valsI ?_ | refine wi_itemsI ?_ | refine ws_augI ?_
  | refine wi_seq ?_ | refine wi_rng1 ?_ | refine wi_rng2 ?_ | refine wi_zip2 ?_ | refine wi_zipS ?_
  | (refine wp_fnB (ρ := ?ρ) ?he ?_; (case he => (simp only [List.map_cons, List.map_nil, List.length_cons, List.length_nil, List.replicate, List.cons_append, List.nil_append, Nat.reduceAdd, Nat.reduceSub]; rfl))))
local macro_rules | `(tactic| walk_at "w2") => `(tactic| ((with_reducible refine wo_id ?_); with_reducible first
  | refine vo_sub ?_ | refine vo_add ?_ | refine vo_lt ?_ | refine vo_le ?_ | refine vo_gt ?_ | refine vo_ge ?_ | refine vo_eq ?_ | refine vo_ne ?_ | refine vo_eqS ?_ | refine vo_neS ?_ | refine vo_eqB ?_ | refine vo_neB ?_ | refine vo_neg ?_ | refine vo_slT ?_ | refine vo_slL ?_ | refine vo_slS ?_ | refine vo_lenT ?_ | refine vo_lenL ?_ | refine vo_lenS ?_ | refine vo_revT ?_ | refine vo_revL ?_ | refine vo_min ?_ | refine vo_max ?_ | refine vo_tupL ?_ | refine vo_tupT ?_ | refine vo_lisL ?_ | refine vo_lisT ?_
  | refine vo_igAdd ?_ | refine vo_igMulR (by omega) ?_ | refine vo_igMulL (by omega) ?_ | refine vo_mod (by omega) ?_ | refine vo_div (by omega) ?_ | refine vo_mulR (by omega) ?_ | refine vo_mulL (by omega) ?_
  | refine vo_ixL0 ?_ | refine vo_ixL1 ?_ | refine vo_ixL2 ?_ | refine vo_ixL3 ?_ | refine vo_ixL4 ?_ | refine vo_ixL5 ?_ | refine vo_ixL6 ?_ | refine vo_ixT0 ?_ | refine vo_ixT1 ?_ | refine vo_ixT2 ?_ | refine vo_ixT3 ?_ | refine vo_ixT4 ?_ | refine vo_ixT5 ?_ | refine vo_ixT6 ?_
  | refine vo_starts ?_ | refine vo_isBN ?_ | refine vo_isSN ?_ | refine vo_isLN ?_ | refine vo_isDN ?_ | refine vo_slX (by first | assumption | omega) ?_ | refine vo_lenX (by first | assumption | omega) ?_ | refine vo_addS (by first | assumption | omega) ?_
  | refine vo_inT ?_ | refine vo_ninT ?_ | refine vo_inL ?_ | refine vo_ninL ?_ | refine vo_inI ?_ | refine vo_ninI ?_ | refine vo_sortI (by first | assumption | omega) ?_ | refine vo_sortL ?_ | refine vo_lenI ?_ | refine vo_lt3 ?_ | refine vo_isNN ?_ | refine vo_is3N ?_ | refine vo_isTN ?_ | refine vo_isIN ?_ | refine vo_igAddI ?_ | refine vo_ixI (by assumption) ?_
  | refine vo_vwD1 (by assumption) ?_ | refine vo_vwDc (by assumption) ?_
  | refine wo_vw1 (by assumption) ?_ | refine wo_vw2 (by assumption) ?_ | refine vo_vwc (by assumption) ?_
  | (refine vo_isi (c := ?c) ?h ?q; (case h => with_unfolding_all rfl)) | (refine vo_isis (c := ?c) ?h ?q; (case h => with_unfolding_all rfl))))
local macro_rules | `(tactic| walk_at "w3") => `(tactic| first
  | with_reducible refine nb_ff ?_ | with_reducible refine nb_tt ?_ | with_reducible refine nb_ft ?_ | with_reducible refine nb_tf ?_
  | with_reducible refine ite_f ?_ | with_reducible refine ite_nt ?_ | with_reducible refine ite_nf ?_ | with_reducible refine ite_t ?_
  | ((with_reducible refine ex_id ?_); refine ⟨_, rfl, ?_⟩) | ((with_reducible refine and_id ?_); refine ⟨Nat.le_of_ble_eq_true rfl, ?_⟩))
local macro_rules | `(tactic| walk_at "w") => `(tactic| repeat (first | walk_at "w1" | walk_at "w2" | walk_at "w3"))
def Let (c : Nat) : Prop := 97 ≤ c ∧ c ≤ 122
structure NameT (t : Str) : Prop where
  lo : 1 ≤ t.length
  hi : t.length ≤ 8
  ch : ∀ c ∈ TL.tl t, Let c
def PathOf (p : Str) (ns : List Str) : Prop := (1 ≤ ns.length ∧ ns.length ≤ 3) ∧ (∀ n ∈ ns, NameT n) ∧ p = Txt.join ("/" : Str) ns
def PathT (p : Str) : Prop := ∃ ns, PathOf p ns
theorem tl_letters : TL.tl ("abcdefghijklmnopqrstuvwxyz" : Str) = (List.range 26).map (· + 97) := by decide
theorem wp_bname {S : Sto} {n : Nat} {k : Int} {Q : D → Sto → Prop} {E : Px} (h : JarS S n k) (hk : k ≤ 900000000)
    (q : ∀ t S', NameT t → JarS S' n (k + 20) → Only n S S' → Q (.str t) S') : Wp (d_bname [.ref n] S) Q E := by
  unfold d_bname b_bname
  walk_at "w"
  unfold i_bname_1
  walk_at "w"
  refine wp_bdraw h (by omega) (by omega) fun v S1 v0 v1 j1 o1 => ?_
  walk_at "w"
  refine ite_d (fun _ => ?_) (fun _ => ?_)
  · walk_at "w"
    refine wp_bdraw j1 (by omega) (by omega) fun w S2 w0 w1 j2 o2 => ?_
    have hx : ∃ t : Str, L2.atI [D.str "a", D.str "b", D.str "ab", D.str "aa", D.str "abc", D.str "z", D.str "zzzzzzzz", D.str "abcdefgh"] w = some (.str t) ∧ NameT t := by
      have : w = 0 ∨ w = 1 ∨ w = 2 ∨ w = 3 ∨ w = 4 ∨ w = 5 ∨ w = 6 ∨ w = 7 := by omega
      rcases this with rfl | rfl | rfl | rfl | rfl | rfl | rfl | rfl <;> exact ⟨_, rfl, by decide, by decide, by unfold Let; decide⟩
    obtain ⟨t, e, ht⟩ := hx
    refine wo_ixL e ?_
    walk_at "w"
    exact q t S2 ht (j2.mono (by omega)) (o1.trans o2)
  · walk_at "w"
    refine wp_bdraw j1 (by omega) (by omega) fun f S2 f0 f1 j2 o2 => ?_
    walk_at "w"
    refine wp_bdraw j2 (by omega) (by omega) fun g S3 g0 g1 j3 o3 => ?_
    walk_at "w"
    unfold c_bname_1
    refine wp_compG D.str ?_
    walk_at "w"
    refine wp_bdraw j3 (by omega) (by omega) fun m S4 m0 m1 j4 o4 => ?_
    walk_at "w"
    refine ⟨by omega, fun j as S' => S' = S4 ∧ ∀ t ∈ as, ∃ c, t = ⟨#[c]⟩ ∧ Let c, by rw [iRng_len]; omega, ⟨rfl, fun t ht => by simp at ht⟩, ?_, ?_⟩
    · rintro j d as S5 hj hal ⟨rfl, hc⟩
      obtain ⟨rfl, hlt⟩ := iRng_at hj
      refine ⟨_, rfl, ?_⟩
      unfold ce_bname_1
      walk_at "w"
      generalize hi : (f + g * (0 + (j : Int))) % 26 = i
      have i0 : 0 ≤ i ∧ i < 26 := by rw [← hi]; exact ⟨Int.emod_nonneg _ (by decide), Int.emod_lt_of_pos _ (by decide)⟩
      refine vo_ixS (c := i.toNat + 97) (by decide) ?_ ?_
      · show L2.atI (TL.tl ("abcdefghijklmnopqrstuvwxyz" : Str)) i = _
        rw [tl_letters, atI_in i0.1 (by simp; omega)]
        simp
      · refine ⟨_, rfl, rfl, fun t ht => ?_⟩
        rcases List.mem_append.mp ht with ht | ht
        · exact hc t ht
        · rw [List.mem_singleton.mp ht]
          exact ⟨_, rfl, by unfold Let; omega⟩
    · rintro as S5 hal ⟨rfl, hc⟩
      rw [iRng_len] at hal
      have hlen : ∀ l : List Str, (∀ t ∈ l, ∃ c, t = ⟨#[c]⟩ ∧ Let c) → (l.map (·.length)).sum = l.length ∧ (Txt.join ("" : Str) l).length = l.length ∧ ∀ c ∈ TL.tl (Txt.join ("" : Str) l), Let c := by
        intro l hl
        rw [TL.join_eq, TL.len_tl, TL.tl_join]
        have e0 : TL.tl ("" : Str) = [] := by decide
        rw [e0]
        induction l with
        | nil => exact ⟨rfl, rfl, fun c hc => by simp [TL.joinL] at hc⟩
        | cons t l ih =>
          obtain ⟨c, rfl, hc⟩ := hl t (by simp)
          obtain ⟨a1, a2, a3⟩ := ih fun y hy => hl y (by simp [hy])
          have hj : TL.joinL [] (([c] : List Nat) :: l.map TL.tl) = c :: TL.joinL [] (l.map TL.tl) := by
            cases l with
            | nil => rfl
            | cons x l => rfl
          refine ⟨by rw [List.map_cons, List.sum_cons, a1, List.length_cons]; show 1 + l.length = _; omega, ?_, ?_⟩
          · show (TL.joinL [] (([c] : List Nat) :: l.map TL.tl)).length = _
            rw [hj, List.length_cons, a2, List.length_cons]
          · intro z hz
            have hz : z ∈ TL.joinL [] (([c] : List Nat) :: l.map TL.tl) := hz
            rw [hj] at hz
            rcases List.mem_cons.mp hz with rfl | hz
            · exact hc
            · exact a3 z hz
      obtain ⟨h1, h2, h3⟩ := hlen as hc
      have e0 : ("" : Str).length = 0 := by decide
      refine vo_joinL (by rw [h1, e0]; omega) ?_
      walk_at "w"
      exact q _ S5 ⟨by rw [h2]; omega, by rw [h2]; omega, h3⟩ (j4.mono (by omega)) (((o1.trans o2).trans o3).trans o4)
theorem join_len (s : Str) : ∀ l : List Str, (Txt.join s l).length ≤ (l.map (·.length)).sum + l.length * s.length := fun l => by
  rw [TL.join_eq]; exact StrLaws.join_length_le s l
theorem wp_bpath {S : Sto} {n : Nat} {k : Int} {Q : D → Sto → Prop} {E : Px} (h : JarS S n k) (hk : k ≤ 800000000)
    (q : ∀ p S', PathT p → JarS S' n (k + 100) → Only n S S' → Q (.str p) S') : Wp (d_bpath [.ref n] S) Q E := by
  unfold d_bpath b_bpath
  walk_at "w"
  unfold c_bpath_1
  refine wp_compG D.str ?_
  walk_at "w"
  refine wp_bdraw h (by omega) (by omega) fun m S1 m0 m1 j1 o1 => ?_
  walk_at "w"
  refine ⟨by omega, fun j as S' => JarS S' n (k + 1 + j * 20) ∧ Only n S S' ∧ ∀ t ∈ as, NameT t, by rw [iRng_len]; omega, ⟨j1.mono (by omega), o1, fun t ht => by simp at ht⟩, ?_, ?_⟩
  · rintro j d as S2 hj hal ⟨j2, o2, hc⟩
    obtain ⟨rfl, hlt⟩ := iRng_at hj
    refine ⟨_, rfl, ?_⟩
    unfold ce_bpath_1
    walk_at "w"
    refine wp_bname j2 (by omega) fun t S3 ht j3 o3 => ?_
    refine ⟨t, rfl, j3.mono (by omega), o2.trans o3, fun u hu => ?_⟩
    rcases List.mem_append.mp hu with hu | hu
    · exact hc u hu
    · rw [List.mem_singleton.mp hu]; exact ht
  · rintro as S2 hal ⟨j2, o2, hc⟩
    rw [iRng_len] at hal j2
    have hs : (as.map (·.length)).sum ≤ 8 * as.length := by
      clear hal j2
      induction as with
      | nil => simp
      | cons a as ih =>
        have := (hc a (by simp)).hi
        have := ih fun t ht => hc t (by simp [ht])
        simp only [List.map_cons, List.sum_cons, List.length_cons]
        omega
    refine vo_joinL (by rw [slash_len]; omega) ?_
    walk_at "w"
    exact q _ S2 ⟨as, ⟨by omega, by omega⟩, hc, rfl⟩ (j2.mono (by omega)) o2
theorem PathT.len {p : Str} (h : PathT p) : p.length ≤ 27 := by
  obtain ⟨ns, ⟨h1, h2⟩, h3, rfl⟩ := h
  have hs : (ns.map (·.length)).sum ≤ 8 * ns.length := by
    clear h1 h2
    induction ns with
    | nil => simp
    | cons a as ih =>
      have := (h3 a (by simp)).hi
      have := ih fun t ht => h3 t (by simp [ht])
      simp only [List.map_cons, List.sum_cons, List.length_cons]
      omega
  have := join_len ("/" : Str) ns
  rw [slash_len] at this
  omega
theorem joinL_mem {c : Nat} {s : List Nat} : ∀ {l : List (List Nat)}, c ∈ TL.joinL s l → c ∈ s ∨ ∃ x ∈ l, c ∈ x
  | [], h => by simp [TL.joinL] at h
  | [x], h => .inr ⟨x, by simp, by simpa [TL.joinL] using h⟩
  | x :: y :: l, h => by
    have h : c ∈ x ++ s ++ TL.joinL s (y :: l) := by simpa [TL.joinL] using h
    rcases List.mem_append.mp h with h | h
    · rcases List.mem_append.mp h with h | h
      · exact .inr ⟨x, by simp, h⟩
      · exact .inl h
    · rcases joinL_mem h with h | ⟨z, hz, h⟩
      · exact .inl h
      · exact .inr ⟨z, by simp [hz], h⟩
theorem PathT.ch {p : Str} (h : PathT p) : ∀ c ∈ TL.tl p, Let c ∨ c = 47 := by
  obtain ⟨ns, _, h3, rfl⟩ := h
  intro c hc
  rw [TL.join_eq, TL.tl_join, tl_slash] at hc
  rcases joinL_mem hc with h | ⟨x, hx, h⟩
  · right; simpa using h
  · obtain ⟨y, hy, rfl⟩ := List.mem_map.mp hx
    exact .inl ((h3 y hy).ch c h)
/-- a text of at most n letters and strokes -/
structure TxtT (n : Nat) (p : Str) : Prop where
  len : p.length ≤ n
  ch : ∀ c ∈ TL.tl p, Let c ∨ c = 47
theorem PathT.txt {p : Str} (h : PathT p) : TxtT 27 p := ⟨h.len, h.ch⟩
theorem TxtT.ok {n : Nat} {p : Str} (h : TxtT n p) : PyData.strOk p = true := by
  unfold PyData.strOk
  rw [Array.all_eq_true']
  intro x hx
  have := h.ch x (by simpa [TL.tl] using hx)
  unfold Let at this
  exact decide_eq_true (by omega)
theorem TxtT.mono {n m : Nat} {p : Str} (h : TxtT n p) (hm : n ≤ m) : TxtT m p := ⟨Nat.le_trans h.len hm, h.ch⟩
end LB
set_option Elab.async false
set_option linter.all false
set_option maxRecDepth 100000
set_option maxHeartbeats 4000000
namespace LB
open DL PySem
local macro_rules | `(tactic| walk_at "w1") => `(tactic| with_reducible first
  | (refine ws_then ?_; try with_reducible dsimp only [List.set_cons_zero, List.set_cons_succ]) | refine ws_seq ?_ | refine ws_asg ?_ | refine ws_expr ?_ | refine ws_ret ?_ | refine ws_if ?_ | refine ws_asgT ?_ | refine ws_skip ?_ | refine ws_retN ?_ | refine ws_brk ?_ | refine ws_cont ?_ | refine ws_thenR ?_ | refine ws_thenB ?_ | refine ws_thenC ?_ | refine fq_rt ?_ | refine fq_nx ?_ | refine un_nx ?_ | refine un_ct ?_ | refine un_bk ?_ | refine un_rt ?_ | refine ws_loopN ?_
  | (refine ws_loopC (ρ1 := ?r) ?h ?q; (case h => with_unfolding_all rfl); try with_reducible dsimp only [List.set_cons_zero, List.set_cons_succ])
  | refine wp_c ?_ | refine wp_op2 ?_ | refine wp_fn ?_ | refine wp_cons ?_ | refine wp_nil ?_ | refine wp_call ?_ | refine wp_op1 ?_
  | (refine wp_var (d := ?d) ?h ?q; (case h => with_unfolding_all rfl))
  | (refine ws_aug (d := ?d) ?h ?q; (case h => with_unfolding_all rfl))
  | refine wp_tup ?_ | refine wp_lst ?_ | refine wp_lstM ?_ | refine wp_listM ?_
  | refine wp_sl0 ?_ | refine wp_sl1 ?_ | refine wp_sl2 ?_ | refine wp_sl3 ?_
  | refine wp_tval ?_ | refine wp_tnot ?_ | refine wp_tand ?_ | refine wp_tor ?_ | refine wp_tyes ?_ | refine wp_and ?_ | refine wp_or ?_ | refine wp_not ?_ | refine wp_ifx ?_ | refine wp_chain ?_ | refine wp_meth ?_ | refine wp_meth0 ?_
  | refine wp_isi ?_ | refine wp_isis ?_ | refine wp_repr ?_ | refine wp_maxD ?_ | refine wi_rng3 ?_
  | refine wp_str1 ?_ | refine ws_par ?_ | refine wp_dnew ?_ | refine wp_get2 ?_ | refine wp_reprQ ?_ | refine wp_fnK ?_ | refine wi_valsI ?_ | refine wi_itemsI ?_ | refine ws_augI ?_
  | refine wi_seq ?_ | refine wi_rng1 ?_ | refine wi_rng2 ?_ | refine wi_zip2 ?_ | refine wi_zipS ?_
  | (refine wp_fnB (ρ := ?ρ) ?he ?_; (case he => (simp only [List.map_cons, List.map_nil, List.length_cons, List.length_nil, List.replicate, List.cons_append, List.nil_append, Nat.reduceAdd, Nat.reduceSub]; rfl))))
local macro_rules | `(tactic| walk_at "w2") => `(tactic| ((with_reducible refine wo_id ?_); with_reducible first
  | refine vo_sub ?_ | refine vo_add ?_ | refine vo_lt ?_ | refine vo_le ?_ | refine vo_gt ?_ | refine vo_ge ?_ | refine vo_eq ?_ | refine vo_ne ?_ | refine vo_eqS ?_ | refine vo_neS ?_ | refine vo_eqB ?_ | refine vo_neB ?_ | refine vo_neg ?_ | refine vo_slT ?_ | refine vo_slL ?_ | refine vo_slS ?_ | refine vo_lenT ?_ | refine vo_lenL ?_ | refine vo_lenS ?_ | refine vo_revT ?_ | refine vo_revL ?_ | refine vo_min ?_ | refine vo_max ?_ | refine vo_tupL ?_ | refine vo_tupT ?_ | refine vo_lisL ?_ | refine vo_lisT ?_
  | refine vo_igAdd ?_ | refine vo_igMulR (by omega) ?_ | refine vo_igMulL (by omega) ?_ | refine vo_mod (by omega) ?_ | refine vo_div (by omega) ?_ | refine vo_mulR (by omega) ?_ | refine vo_mulL (by omega) ?_
  | refine vo_ixL0 ?_ | refine vo_ixL1 ?_ | refine vo_ixL2 ?_ | refine vo_ixL3 ?_ | refine vo_ixL4 ?_ | refine vo_ixL5 ?_ | refine vo_ixL6 ?_ | refine vo_ixT0 ?_ | refine vo_ixT1 ?_ | refine vo_ixT2 ?_ | refine vo_ixT3 ?_ | refine vo_ixT4 ?_ | refine vo_ixT5 ?_ | refine vo_ixT6 ?_
  | refine vo_starts ?_ | refine vo_isBN ?_ | refine vo_isSN ?_ | refine vo_isLN ?_ | refine vo_isDN ?_ | refine vo_slX (by first | assumption | omega) ?_ | refine vo_lenX (by first | assumption | omega) ?_ | refine vo_addS (by first | assumption | omega) ?_
  | refine vo_inT ?_ | refine vo_ninT ?_ | refine vo_inL ?_ | refine vo_ninL ?_ | refine vo_inI ?_ | refine vo_ninI ?_ | refine vo_sortI (by first | assumption | omega) ?_ | refine vo_sortL ?_ | refine vo_lenI ?_ | refine vo_lt3 ?_ | refine vo_isNN ?_ | refine vo_is3N ?_ | refine vo_isTN ?_ | refine vo_isIN ?_ | refine vo_igAddI ?_ | refine vo_ixI (by assumption) ?_
  | refine vo_vwD1 (by assumption) ?_ | refine vo_vwDc (by assumption) ?_
  | refine wo_vw1 (by assumption) ?_ | refine wo_vw2 (by assumption) ?_ | refine vo_vwc (by assumption) ?_
  | (refine vo_isi (c := ?c) ?h ?q; (case h => with_unfolding_all rfl)) | (refine vo_isis (c := ?c) ?h ?q; (case h => with_unfolding_all rfl))))
local macro_rules | `(tactic| walk_at "w3") => `(tactic| first
  | with_reducible refine nb_ff ?_ | with_reducible refine nb_tt ?_ | with_reducible refine nb_ft ?_ | with_reducible refine nb_tf ?_
  | with_reducible refine ite_f ?_ | with_reducible refine ite_nt ?_ | with_reducible refine ite_nf ?_ | with_reducible refine ite_t ?_
  | ((with_reducible refine ex_id ?_); refine ⟨_, rfl, ?_⟩) | ((with_reducible refine and_id ?_); refine ⟨Nat.le_of_ble_eq_true rfl, ?_⟩))
local macro_rules | `(tactic| walk_at "w") => `(tactic| repeat (first | walk_at "w1" | walk_at "w2" | walk_at "w3"))
theorem noRefs_str : ∀ xs : List Str, noRefs (xs.map D.str) = true
  | [] => rfl
  | x :: xs => by simp [noRefs, noRef, noRefs_str xs]
def beneath (p o : Str) : Bool := Txt.startswith (o ++ "/") (p ++ "/")
def apart (p : Str) (os : List Str) : Bool := os.all fun o => !(beneath p o || beneath o p)
theorem wp_bis_apart {S : Sto} {p : Str} {os : List Str} {Q : D → Sto → Prop} {E : Px} (hp : p.length ≤ 1000) (ho : ∀ o ∈ os, o.length ≤ 1000)
    (q : Q (.bl (apart p os)) S) : Wp (d_bis_apart [.str p, .lst (os.map .str)] S) Q E := by
  refine wp_fnV (ds' := [.str p, .lst (os.map .str)]) rfl (by simp [noRefs, noRef, noRefs_str]) ?_
  unfold b_bis_apart
  walk_at "w"
  unfold l_bis_apart_1
  refine ws_for [2] ?_
  walk_at "w"
  refine ⟨_, Or.inr rfl, ?_⟩
  refine ⟨fun j vs S' => ∃ d, vs = [d] ∧ ∀ o ∈ os.take j, (beneath p o || beneath o p) = false, [none], rfl, rfl, ⟨none, rfl, fun o h => by simp at h⟩, ?_, ?_⟩
  · rintro j d vs S' hj hv ⟨d0, rfl, h⟩
    rw [List.getElem?_map] at hj
    obtain ⟨o, hoj, rfl⟩ := Option.map_eq_some_iff.mp hj
    have hol := ho o (List.mem_of_getElem? hoj)
    have hom := List.mem_of_getElem? hoj
    have sl := slash_len
    refine ⟨_, rfl, ?_⟩
    unfold lb_bis_apart_1 i_bis_apart_1
    walk_at "w"
    refine ⟨fun h1 => ?_, fun h1 => ?_⟩
    · walk_at "w"
      refine ⟨rfl, ?_⟩
      have : apart p os = false := by
        unfold apart
        rw [List.all_eq_false]
        exact ⟨o, hom, by simp [beneath, h1]⟩
      rw [this] at q
      exact q
    · walk_at "w"
      refine ⟨fun h2 => ?_, fun h2 => ?_⟩
      · walk_at "w"
        refine ⟨rfl, ?_⟩
        have : apart p os = false := by
          unfold apart
          rw [List.all_eq_false]
          exact ⟨o, hom, by simp [beneath, h2]⟩
        rw [this] at q
        exact q
      · walk_at "w"
        refine ⟨[some (.str o)], rfl, rfl, _, rfl, fun z hz => ?_⟩
        rw [List.take_add_one, hoj] at hz
        rcases List.mem_append.mp hz with hz | hz
        · exact h z hz
        · simp at hz
          subst hz
          simp [beneath, h1, h2]
  · rintro vs S' hv ⟨d0, rfl, h⟩
    walk_at "w"
    refine ⟨rfl, ?_⟩
    have : apart p os = true := by
      unfold apart
      rw [List.all_eq_true]
      intro o hom
      rw [List.length_map, List.take_length] at h
      rw [h o hom]
      rfl
    rw [this] at q
    exact q
end LB
set_option Elab.async false
set_option linter.all false
set_option maxRecDepth 100000
set_option maxHeartbeats 4000000
namespace LM
open PySem PySem.Spec PyProof.Rows L2 DL
end LM
set_option Elab.async false
set_option linter.all false
set_option maxRecDepth 100000
set_option maxHeartbeats 4000000
namespace LM
open DL PySem LB
local macro_rules | `(tactic| walk_at "w1") => `(tactic| with_reducible first
  | (refine ws_then ?_; try with_reducible dsimp only [List.set_cons_zero, List.set_cons_succ]) | refine ws_seq ?_ | refine ws_asg ?_ | refine ws_expr ?_ | refine ws_ret ?_ | refine ws_if ?_ | refine ws_asgT ?_ | refine ws_skip ?_ | refine ws_retN ?_ | refine ws_brk ?_ | refine ws_cont ?_ | refine ws_thenR ?_ | refine ws_thenB ?_ | refine ws_thenC ?_ | refine fq_rt ?_ | refine fq_nx ?_ | refine un_nx ?_ | refine un_ct ?_ | refine un_bk ?_ | refine un_rt ?_ | refine ws_loopN ?_
  | (refine ws_loopC (ρ1 := ?r) ?h ?q; (case h => with_unfolding_all rfl); try with_reducible dsimp only [List.set_cons_zero, List.set_cons_succ])
  | refine wp_c ?_ | refine wp_op2 ?_ | refine wp_fn ?_ | refine wp_cons ?_ | refine wp_nil ?_ | refine wp_call ?_ | refine wp_op1 ?_
  | (refine wp_var (d := ?d) ?h ?q; (case h => with_unfolding_all rfl))
  | (refine ws_aug (d := ?d) ?h ?q; (case h => with_unfolding_all rfl))
  | refine wp_tup ?_ | refine wp_lst ?_ | refine wp_lstM ?_ | refine wp_listM ?_
  | refine wp_sl0 ?_ | refine wp_sl1 ?_ | refine wp_sl2 ?_ | refine wp_sl3 ?_
  | refine wp_tval ?_ | refine wp_tnot ?_ | refine wp_tand ?_ | refine wp_tor ?_ | refine wp_tyes ?_ | refine wp_and ?_ | refine wp_or ?_ | refine wp_not ?_ | refine wp_ifx ?_ | refine wp_chain ?_ | refine wp_meth ?_ | refine wp_meth0 ?_
  | refine wp_isi ?_ | refine wp_isis ?_ | refine wp_repr ?_ | refine wp_maxD ?_ | refine wi_rng3 ?_
  | refine wp_str1 ?_ | refine ws_par ?_ | refine wp_dnew ?_ | refine wp_get2 ?_ | refine wp_reprQ ?_ | refine wp_fnK ?_ | refine wi_valsI ?_ | refine wi_itemsI ?_ | refine ws_augI ?_
  | refine wi_seq ?_ | refine wi_rng1 ?_ | refine wi_rng2 ?_ | refine wi_zip2 ?_ | refine wi_zipS ?_
  | (refine wp_fnB (ρ := ?ρ) ?he ?_; (case he => (simp only [List.map_cons, List.map_nil, List.length_cons, List.length_nil, List.replicate, List.cons_append, List.nil_append, Nat.reduceAdd, Nat.reduceSub]; rfl))))
local macro_rules | `(tactic| walk_at "w2") => `(tactic| ((with_reducible refine wo_id ?_); with_reducible first
  | refine vo_sub ?_ | refine vo_add ?_ | refine vo_lt ?_ | refine vo_le ?_ | refine vo_gt ?_ | refine vo_ge ?_ | refine vo_eq ?_ | refine vo_ne ?_ | refine vo_eqS ?_ | refine vo_neS ?_ | refine vo_eqB ?_ | refine vo_neB ?_ | refine vo_neg ?_ | refine vo_slT ?_ | refine vo_slL ?_ | refine vo_slS ?_ | refine vo_lenT ?_ | refine vo_lenL ?_ | refine vo_lenS ?_ | refine vo_revT ?_ | refine vo_revL ?_ | refine vo_min ?_ | refine vo_max ?_ | refine vo_tupL ?_ | refine vo_tupT ?_ | refine vo_lisL ?_ | refine vo_lisT ?_
  | refine vo_igAdd ?_ | refine vo_igMulR (by omega) ?_ | refine vo_igMulL (by omega) ?_ | refine vo_mod (by omega) ?_ | refine vo_div (by omega) ?_ | refine vo_mulR (by omega) ?_ | refine vo_mulL (by omega) ?_
  | refine vo_ixL0 ?_ | refine vo_ixL1 ?_ | refine vo_ixL2 ?_ | refine vo_ixL3 ?_ | refine vo_ixL4 ?_ | refine vo_ixL5 ?_ | refine vo_ixL6 ?_ | refine vo_ixT0 ?_ | refine vo_ixT1 ?_ | refine vo_ixT2 ?_ | refine vo_ixT3 ?_ | refine vo_ixT4 ?_ | refine vo_ixT5 ?_ | refine vo_ixT6 ?_
  | refine vo_starts ?_ | refine vo_isBN ?_ | refine vo_isSN ?_ | refine vo_isLN ?_ | refine vo_isDN ?_ | refine vo_slX (by first | assumption | omega) ?_ | refine vo_lenX (by first | assumption | omega) ?_ | refine vo_addS (by first | assumption | omega) ?_
  | refine vo_inT ?_ | refine vo_ninT ?_ | refine vo_inL ?_ | refine vo_ninL ?_ | refine vo_inI ?_ | refine vo_ninI ?_ | refine vo_sortI (by first | assumption | omega) ?_ | refine vo_sortL ?_ | refine vo_lenI ?_ | refine vo_lt3 ?_ | refine vo_isNN ?_ | refine vo_is3N ?_ | refine vo_isTN ?_ | refine vo_isIN ?_ | refine vo_igAddI ?_ | refine vo_ixI (by assumption) ?_
  | refine vo_vwD1 (by assumption) ?_ | refine vo_vwDc (by assumption) ?_
  | refine wo_vw1 (by assumption) ?_ | refine wo_vw2 (by assumption) ?_ | refine vo_vwc (by assumption) ?_
  | (refine vo_isi (c := ?c) ?h ?q; (case h => with_unfolding_all rfl)) | (refine vo_isis (c := ?c) ?h ?q; (case h => with_unfolding_all rfl))))
local macro_rules | `(tactic| walk_at "w3") => `(tactic| first
  | with_reducible refine nb_ff ?_ | with_reducible refine nb_tt ?_ | with_reducible refine nb_ft ?_ | with_reducible refine nb_tf ?_
  | with_reducible refine ite_f ?_ | with_reducible refine ite_nt ?_ | with_reducible refine ite_nf ?_ | with_reducible refine ite_t ?_
  | ((with_reducible refine ex_id ?_); refine ⟨_, rfl, ?_⟩) | ((with_reducible refine and_id ?_); refine ⟨Nat.le_of_ble_eq_true rfl, ?_⟩))
local macro_rules | `(tactic| walk_at "w") => `(tactic| repeat (first | walk_at "w1" | walk_at "w2" | walk_at "w3"))
structure Mom where
  num : Int
  day : Int
  paths : List Str
structure Hol where
  name : Str
  path : Str
  a : Int
  b : Int
structure MomOk (m : Mom) : Prop where
  n0 : 0 ≤ m.num ∧ m.num ≤ 1000000
  d0 : 0 ≤ m.day ∧ m.day ≤ 100000000
  pl : m.paths.length ≤ 8
  pt : ∀ p ∈ m.paths, PathT p
structure Ms (ms : List Mom) : Prop where
  len : ms.length ≤ 20
  ok : ∀ m ∈ ms, MomOk m
  nums : ms.Pairwise fun a b => a.num < b.num
  days : ms.Pairwise fun a b => a.day ≤ b.day
structure Rs (rs : List (Int × Int)) : Prop where
  len : rs.length ≤ 4
  ok : ∀ r ∈ rs, (1 ≤ r.1 ∧ r.1 ≤ 400) ∧ 1 ≤ r.2 ∧ r.2 ≤ 400
structure HolOk (h : Hol) : Prop where
  nm : TxtT 4 h.name
  pt : TxtT 60 h.path
  ab : (0 ≤ h.a ∧ h.a ≤ 200000000) ∧ 0 ≤ h.b ∧ h.b ≤ 200000000
structure Hs (hs : List Hol) : Prop where
  len : hs.length ≤ 9
  ok : ∀ h ∈ hs, HolOk h
  nd : (hs.map (·.name)).Nodup
theorem nrs_map {α : Type} (f : α → D) (h : ∀ x, noRef (f x) = true) : ∀ l : List α, noRefs (l.map f) = true
  | [] => rfl
  | x :: l => by simp [noRefs, h x, nrs_map f h l]
theorem flat_len {α β : Type} (l : List α) (f : α → List β) (k : Nat) (h : ∀ x ∈ l, (f x).length ≤ k) : (l.flatMap f).length ≤ l.length * k := by
  induction l with
  | nil => simp
  | cons x l ih =>
    have := h x (by simp)
    have := ih fun y hy => h y (by simp [hy])
    rw [List.flatMap_cons, List.length_append, List.length_cons, Nat.add_mul]
    omega
theorem dpDs_le {k : Nat} : ∀ {ds : List D}, (∀ d ∈ ds, dpD d ≤ k) → dpDs ds ≤ k
  | [], _ => by simp [dpDs]
  | d :: ds, h => by
    have := h d (by simp)
    have := dpDs_le fun y hy => h y (List.mem_cons_of_mem d hy)
    simp only [dpDs]
    omega
end LM
set_option Elab.async false
set_option linter.all false
set_option maxRecDepth 100000
set_option maxHeartbeats 4000000
namespace DL
open PySem PySem.Spec PyProof.Rows L2
def sT {α : Type} (l : List (Str × α)) : List (Str × α) := sortBy (fun p => (Sum.inr p.1 : Key)) l
def mergT {α : Type} (l ls : List (Str × α)) : List (Str × α) := ls.foldl (fun a p => putT a p.1 p.2) l
section
variable {α : Type} {f : α → D} {Q : D → Prop} {S : Sto} {n : Nat} {l : List (Str × α)} {k : Str} {v : α} {y : D}
theorem view_T (h : S[n]? = some (some (.dic false (kT f l)))) : view S (.ref n) = view S (dT f l) := by simp only [view, h]
theorem vo_vwT2 {g : D → D → Option D} (h : S[n]? = some (some (.dic false (kT f l)))) (q : Wo (g y (view S (dT f l))) Q) : Wo (g y (view S (.ref n))) Q := by rw [view_T h]; exact q
theorem vo_vwT0 {g : D → Option D} (h : S[n]? = some (some (.dic false (kT f l)))) (q : Wo (g (view S (dT f l))) Q) : Wo (g (view S (.ref n))) Q := by rw [view_T h]; exact q
theorem vo_vwTc {g : List D → Option D} (h : S[n]? = some (some (.dic false (kT f l)))) (q : Wo (g (List.map (view S) [dT f l])) Q) : Wo (g (List.map (view S) [.ref n])) Q := by
  have e : List.map (view S) [.ref n] = List.map (view S) [dT f l] := by simp only [List.map_cons, List.map_nil, view_T h]
  rw [e]; exact q
theorem vo_ixTb (h : getT l k = some v) (q : Q (f v)) : Wo (ixD (view S (dT f l)) (view S (.str k))) Q := by
  refine .of (d := f v) ?_ q
  show valD (kT f l) (.inr k) = _
  rw [valD_T, h]; rfl
theorem isSome_T : ((getT l k).map f).isSome = decide (k ∈ l.map (·.1)) := by
  rw [Option.isSome_map]
  cases e : getT l k with
  | none => rw [decide_eq_false (getT_none.mp e)]; rfl
  | some v => rw [decide_eq_true (List.mem_map.mpr ⟨_, getT_mem e, rfl⟩)]; rfl
theorem vo_inTb (q : Q (.bl (decide (k ∈ l.map (·.1))))) : Wo (inD (view S (.str k)) (view S (dT f l))) Q := by
  refine .of ?_ q
  show (some (valD (kT f l) (.inr k)).isSome).map D.bl = _
  rw [valD_T, isSome_T]; rfl
theorem vo_ninTb (q : Q (.bl (!decide (k ∈ l.map (·.1))))) : Wo (ninD (view S (.str k)) (view S (dT f l))) Q := by
  refine .of ?_ q
  show (some (valD (kT f l) (.inr k)).isSome).map (fun b => D.bl (!b)) = _
  rw [valD_T, isSome_T]; rfl
theorem vo_lenTb (q : Q (.int l.length)) : Wo (lenD (List.map (view S) [dT f l])) Q := by
  refine .of ?_ q
  show some (D.int (kT f l).length) = _
  rw [kT_len]
theorem keysD_T (l : List (Str × α)) : keysD (kT f l) = some (l.map fun p => (Sum.inr p.1 : Key)) := by
  induction l with
  | nil => rfl
  | cons p l ih =>
    show ((unK (.str p.1)).bind fun k => (keysD (kT f l)).map (k :: ·)) = _
    rw [ih]; rfl
theorem vo_sortTb (h : l.length < 64) (q : Q (.lst ((sS (l.map (·.1))).map .str))) : Wo (sortXD (List.map (view S) [dT f l])) Q := by
  cases l with
  | nil =>
    refine .of (d := .lst []) ?_ (by simpa [sS, sortBy] using q)
    show (if 0 < 64 then (asIs []).map (fun ns => D.lst ((isI ns).map .int)) else none) = _
    rw [if_pos (by decide)]
    simp [asIs, isI]
  | cons p l =>
    refine .of ?_ q
    show ((keysD (kT f (p :: l))).bind fun ks => if ks.length < 64 ∧ ks.all (fun k => k.isRight) = true then some (D.lst ((sortBy (fun k : Key => k) ks).map keyD)) else none) = _
    rw [keysD_T]
    show (if _ then _ else _) = _
    rw [if_pos ⟨by rw [List.length_map]; exact h, by rw [List.all_map]; exact List.all_eq_true.mpr fun _ _ => rfl⟩]
    have e : ((p :: l).map fun p => (Sum.inr p.1 : Key)) = ((p :: l).map (·.1)).map Sum.inr := by rw [List.map_map]; rfl
    rw [e]
    have hm := sortBy_map (f := fun t : Str => (Sum.inr t : Key)) (g := fun k : Key => k) ((p :: l).map (·.1)) (fun x _ y _ e => e)
    rw [hm, List.map_map]
    rfl
theorem vo_listTb (q : Q (.lst ((l.map (·.1)).map .str))) : Wo (listKD (List.map (view S) [dT f l])) Q := by
  refine .of ?_ q
  show some (D.lst ((kT f l).map (·.1))) = _
  rw [keys_T]
theorem sT_perm (l : List (Str × α)) : (sT l).Perm l := sortBy_perm l
theorem vo_sortItTb (h : (l.map (·.1)).Nodup) (q : Q (.lst ((sT l).map fun p => .tup [.str p.1, f p.2]))) : Wo (sortItD (view S (dT f l))) Q := by
  refine .of ?_ q
  show ((keysD (kT f l)).bind fun ks => if kindsOk ks = true ∧ ks.Nodup then some (D.lst ((sortBy keyP0 (kT f l)).map fun p => .tup [p.1, p.2])) else none) = _
  rw [keysD_T]
  show (if _ then _ else _) = _
  have e : (l.map fun p => (Sum.inr p.1 : Key)) = (l.map (·.1)).map Sum.inr := by rw [List.map_map]; rfl
  have hn : (l.map fun p => (Sum.inr p.1 : Key)).Nodup := by
    rw [e]
    exact List.Pairwise.map _ (fun a b hab z => hab (by cases z; rfl)) h
  rw [if_pos ⟨by unfold kindsOk; rw [Bool.or_eq_true]; right; rw [List.all_map]; exact List.all_eq_true.mpr fun _ _ => rfl, hn⟩]
  have inj : ∀ x ∈ l, ∀ y ∈ l, keyP0 ((D.str x.1), f x.2) = keyP0 ((D.str y.1), f y.2) → ((D.str x.1), f x.2) = ((D.str y.1), f y.2) := by
    intro x hx y hy e
    have e1 : x.1 = y.1 := by
      exact Sum.inr.inj (show (Sum.inr x.1 : Key) = Sum.inr y.1 from e)
    have h1 := mem_getT h (k := x.1) (v := x.2) hx
    have h2 := mem_getT h (k := y.1) (v := y.2) hy
    rw [e1, h2] at h1
    rw [e1, Option.some.inj h1]
  have hm := sortBy_map (f := fun p : Str × α => ((D.str p.1), f p.2)) (g := keyP0) l inj
  show some (D.lst ((sortBy keyP0 (l.map fun p => ((D.str p.1), f p.2))).map fun p => .tup [p.1, p.2])) = _
  rw [hm, List.map_map]
  rfl
end
section
variable {α : Type} (f : α → D) {Q : D → Sto → Prop} {E : Px} {ρ : Ev} {S : Sto} {o g x : Ex}
theorem ws_setTb {Q : Fl → Sto → Prop} {E : Str → D → Ev → Sto → Prop} {e o i : Ex} (h : Wp (e ρ S) (fun z S1 => Wp (o ρ S1) (fun d S2 => Wp (i ρ S2) (fun k S3 => ∃ (n : Nat) (l : List (Str × α)) (j : Str) (v : α), d = .ref n ∧ k = .str j ∧ z = f v ∧ S3[n]? = some (some (.dic false (kT f l))) ∧ l.length < 16777216 ∧ Q (.nx ρ) (S3.set n (some (.dic false (kT f (putT l j v)))))) (fun c p S => E c p ρ S)) (fun c p S => E c p ρ S)) (fun c p S => E c p ρ S)) : Ws (sSetIx o i e ρ S) Q E :=
  ws_bind (h.mono fun z S1 h => ws_bind (h.mono fun d S2 h => ws_bind (h.mono fun k S3 ⟨n, l, j, v, e1, e2, e3, h1, h2, q⟩ => by
    subst e1 e2 e3
    have e0 : lstOf S3 (.ref n) = none := by simp only [lstOf, h1]
    have e1 : dicOf S3 (.ref n) = some (n, kT f l) := by simp only [dicOf, h1]
    have e4 : putAtD S3 (.ref n) (.str j) (f v) = some (S3.set n (some (.dic false (kT f (putT l j v))))) := by
      unfold putAtD
      rw [e1]
      show (if (kT f l).length < sizeLine then some (S3.set n (some (.dic false (putD (kT f l) (.inr j) (f v))))) else none) = _
      rw [if_pos (by rw [kT_len, sizeLine_eq]; exact h2), putD_T]
    rw [e0]
    dsimp only
    rw [e4]
    exact ⟨q⟩)))
theorem wp_popD1T (h : Wp (o ρ S) (fun d S1 => (dicOf S1 d).isSome = true ∧ Wp (g ρ S1) (fun y S2 => ∃ (n : Nat) (l : List (Str × α)) (j : Str) (v : α), d = .ref n ∧ y = .str j ∧ S2[n]? = some (some (.dic false (kT f l))) ∧ getT l j = some v ∧ Q (f v) (S2.set n (some (.dic false (kT f (dropT l j)))))) E) E) : Wp (ePopD1 o g ρ S) Q E :=
  wp_bind (h.mono fun d S1 ⟨h0, h⟩ => by
    rw [if_pos h0]
    exact wp_bind (h.mono fun y S2 ⟨n, l, j, v, e1, e2, h1, h2, q⟩ => by
      subst e1 e2
      have e1 : dicOf S2 (.ref n) = some (n, kT f l) := by simp only [dicOf, h1]
      have e4 : popAtD S2 (.ref n) (.str j) = some (f v, S2.set n (some (.dic false (kT f (dropT l j))))) := by
        unfold popAtD
        rw [e1]
        show (match valD (kT f l) (.inr j) with
          | some z => some (z, S2.set n (some (Ob.dic false (dropD (kT f l) (.inr j)))))
          | none => none) = _
        rw [valD_T, h2, dropD_T]
        rfl
      rw [e4]
      exact ⟨q⟩))
theorem wp_popD2T (h : Wp (o ρ S) (fun d S1 => (dicOf S1 d).isSome = true ∧ Wp (g ρ S1) (fun y S2 => Wp (x ρ S2) (fun z S3 => ∃ (n : Nat) (l : List (Str × α)) (j : Str), d = .ref n ∧ y = .str j ∧ S3[n]? = some (some (.dic false (kT f l))) ∧ ∀ w, Q w (S3.set n (some (.dic false (kT f (dropT l j)))))) E) E) E) : Wp (ePopD2 o g x ρ S) Q E :=
  wp_bind (h.mono fun d S1 ⟨h0, h⟩ => by
    rw [if_pos h0]
    exact wp_bind (h.mono fun y S2 h => wp_bind (h.mono fun z S3 ⟨n, l, j, e1, e2, h1, q⟩ => by
      subst e1 e2
      have e1 : dicOf S3 (.ref n) = some (n, kT f l) := by simp only [dicOf, h1]
      rw [e1]
      show Wp (match valD (kT f l) (.inr j) with
        | some w => R.ok w (S3.set n (some (.dic false (dropD (kT f l) (.inr j)))))
        | none => R.ok z S3) Q E
      rw [valD_T]
      cases e2 : getT l j with
      | some v =>
        rw [dropD_T]
        exact .of rfl (q _)
      | none =>
        have hd : dropT l j = l := by
          unfold dropT
          rw [List.filter_eq_self]
          intro p hp
          exact decide_eq_true fun e => getT_none.mp e2 (List.mem_map.mpr ⟨p, hp, e⟩)
        have hs : S3.set n (some (.dic false (kT f (dropT l j)))) = S3 := by
          rw [hd]
          exact (List.getElem?_eq_some_iff.mp h1).elim fun hn he => by rw [← he]; exact List.set_getElem_self hn
        have := q z
        rw [hs] at this
        exact .of rfl this)))
theorem wp_get2T (h : Wp (o ρ S) (fun d S1 => isDc (view S1 d) = true ∧ Wp (g ρ S1) (fun y S2 => Wp (x ρ S2) (fun z S3 => ∃ (l : List (Str × α)) (k : Str), view S3 d = dT f l ∧ y = .str k ∧ Q (((getT l k).map f).getD z) S3) E) E) E) : Wp (eGet2 o g x ρ S) Q E :=
  wp_bind (h.mono fun d S1 ⟨h0, h⟩ => by
    rw [if_pos h0]
    exact wp_bind (h.mono fun y S2 h => wp_bind (h.mono fun z S3 ⟨l, k, e1, e2, q⟩ => by
      subst e2
      rw [e1]
      refine wp_ans (.of (d := ((getT l k).map f).getD z) ?_ q)
      show some ((valD (kT f l) (.inr k)).getD z) = _
      rw [valD_T])))
theorem mergD2_T (ls l : List (Str × α)) : mergD2 (kT f l) (kT f ls) = kT f (mergT l ls) := by
  induction ls generalizing l with
  | nil => rfl
  | cons p ls ih =>
    show mergD2 (putD (kT f l) (.inr p.1) (f p.2)) (kT f ls) = kT f (mergT (putT l p.1 p.2) ls)
    rw [putD_T]
    exact ih _
theorem wp_updT (h : Wp (o ρ S) (fun d S1 => (dicOf S1 d).isSome = true ∧ Wp (g ρ S1) (fun y S2 => ∃ (n k : Nat) (l ls : List (Str × α)), d = .ref n ∧ y = .ref k ∧ n ≠ k ∧ S2[n]? = some (some (.dic false (kT f l))) ∧ S2[k]? = some (some (.dic false (kT f ls))) ∧ l.length + ls.length ≤ 16777216 ∧ Q .non (S2.set n (some (.dic false (kT f (mergT l ls)))))) E) E) : Wp (eUpdD o g ρ S) Q E :=
  wp_bind (h.mono fun d S1 ⟨h0, h⟩ => by
    rw [if_pos h0]
    exact wp_bind (h.mono fun y S2 ⟨n, k, l, ls, e1, e2, hn, h1, h2, hl, q⟩ => by
      subst e1 e2
      have e1 : dicOf S2 (.ref n) = some (n, kT f l) := by simp only [dicOf, h1]
      have e2 : dicOf S2 (.ref k) = some (k, kT f ls) := by simp only [dicOf, h2]
      rw [e1, e2]
      dsimp only
      rw [if_pos ⟨hn, by rw [kT_len, kT_len, sizeLine_eq]; exact hl⟩, mergD2_T]
      exact ⟨q⟩))
theorem pairsD_T (ls : List (Str × α)) : pairsD (ls.map fun p => .tup [.str p.1, f p.2]) = some (ls.map fun p => ((.inr p.1 : Key), f p.2)) := by
  induction ls with
  | nil => rfl
  | cons p ls ih =>
    rw [List.map_cons, List.map_cons]
    show (match unK (.str p.1) with
      | some kk => (pairsD (ls.map fun p : Str × α => D.tup [.str p.1, f p.2])).map ((kk, f p.2) :: ·)
      | none => none) = _
    rw [ih]; rfl
theorem mergeD_T (ls l : List (Str × α)) : mergeD (kT f l) (ls.map fun p => ((.inr p.1 : Key), f p.2)) = kT f (mergT l ls) := by
  induction ls generalizing l with
  | nil => rfl
  | cons p ls ih =>
    show mergeD (putD (kT f l) (.inr p.1) (f p.2)) (ls.map fun p => ((.inr p.1 : Key), f p.2)) = kT f (mergT (putT l p.1 p.2) ls)
    rw [putD_T]
    exact ih _
theorem wp_dictMT (h : Wp (o ρ S) (fun d S1 => ∃ ls : List (Str × α), d = .lst (ls.map fun p => .tup [.str p.1, f p.2]) ∧ Q (.ref S1.length) (S1 ++ [some (.dic false (kT f (mergT [] ls)))])) E) : Wp (eDictM o ρ S) Q E :=
  wp_bind (h.mono fun d S1 ⟨ls, e, q⟩ => by
    subst e
    dsimp only
    rw [pairsD_T]
    dsimp only
    have := mergeD_T f ls []
    rw [show kT f ([] : List (Str × α)) = [] from rfl] at this
    rw [this]
    exact ⟨q⟩)
theorem wp_dictMD (h : Wp (o ρ S) (fun d S1 => ∃ l : List (Str × α), d = dT f l ∧ Q (.ref S1.length) (S1 ++ [some (.dic false (kT f l))])) E) : Wp (eDictM o ρ S) Q E :=
  wp_bind (h.mono fun d S1 ⟨ls, e, q⟩ => by
    subst e
    exact ⟨q⟩)
theorem wi_itemsT {Q : List D → Sto → Prop} {e : Ex} (h : Wp (e ρ S) (fun d S1 => ∃ l : List (Str × α), d = dT f l ∧ Q (l.map fun p : Str × α => D.tup [.str p.1, f p.2]) S1) E) : Wp (iItems e ρ S) Q E := wp_bind (h.mono fun d S1 ⟨ls, e, q⟩ => by
  subst e
  have : (kT f ls).map (fun p => D.tup [p.1, p.2]) = ls.map fun p : Str × α => D.tup [.str p.1, f p.2] := by simp [kT]
  rw [← this] at q
  exact ⟨q⟩)
theorem wi_valsT {Q : List D → Sto → Prop} {e : Ex} (h : Wp (e ρ S) (fun d S1 => ∃ l : List (Str × α), d = dT f l ∧ Q (l.map fun p => f p.2) S1) E) : Wp (iVals e ρ S) Q E := wp_bind (h.mono fun d S1 ⟨ls, e, q⟩ => by
  subst e
  have : (kT f ls).map (·.2) = ls.map fun p : Str × α => f p.2 := by simp [kT]
  rw [← this] at q
  exact ⟨q⟩)
end
theorem mergT_nil {α : Type} : ∀ {ls : List (Str × α)}, (ls.map (·.1)).Nodup → mergT [] ls = ls := by
  intro ls h
  have key : ∀ (ls acc : List (Str × α)), ((acc ++ ls).map (·.1)).Nodup → mergT acc ls = acc ++ ls := by
    intro ls
    induction ls with
    | nil => intro acc _; simp [mergT]
    | cons p ls ih =>
      intro acc hn
      show mergT (putT acc p.1 p.2) ls = _
      have hk : p.1 ∉ acc.map (·.1) := by
        rw [List.map_append, List.nodup_append] at hn
        exact fun z => hn.2.2 _ z p.1 (by simp) rfl
      rw [putT_new hk, ih _ (by rw [List.append_assoc]; exact hn), List.append_assoc]
      rfl
  simpa using key ls [] (by simpa using h)
theorem mergT_new {α : Type} : ∀ {ls acc : List (Str × α)}, ((acc ++ ls).map (·.1)).Nodup → mergT acc ls = acc ++ ls := by
  intro ls
  induction ls with
  | nil => intro acc _; simp [mergT]
  | cons p ls ih =>
    intro acc hn
    show mergT (putT acc p.1 p.2) ls = _
    have hk : p.1 ∉ acc.map (·.1) := by
      rw [List.map_append, List.nodup_append] at hn
      exact fun z => hn.2.2 _ z p.1 (by simp) rfl
    rw [putT_new hk, ih (by rw [List.append_assoc]; exact hn), List.append_assoc]
    rfl
end DL
set_option Elab.async false
set_option linter.all false
set_option maxRecDepth 100000
set_option maxHeartbeats 4000000
namespace DL
open PySem PySem.Spec PyProof.Rows L2
end DL
set_option Elab.async false
set_option linter.all false
set_option maxRecDepth 100000
set_option maxHeartbeats 4000000
namespace DL
open PySem PySem.Spec PyProof.Rows L2
end DL
set_option Elab.async false
set_option linter.all false
set_option maxRecDepth 100000
set_option maxHeartbeats 4000000
namespace DL
open PySem PySem.Spec PyProof.Rows L2
end DL
set_option Elab.async false
set_option linter.all false
set_option maxRecDepth 100000
set_option maxHeartbeats 4000000
namespace DL
open PySem PySem.Spec PyProof.Rows L2
end DL
set_option Elab.async false
set_option linter.all false
set_option maxRecDepth 100000
set_option maxHeartbeats 4000000
namespace DL
open PySem PySem.Spec PyProof.Rows L2
end DL
set_option Elab.async false
set_option linter.all false
set_option maxRecDepth 100000
set_option maxHeartbeats 4000000
namespace DL
open PySem PySem.Spec PyProof.Rows L2
end DL
set_option Elab.async false
set_option linter.all false
set_option maxRecDepth 100000
set_option maxHeartbeats 4000000
namespace DL
open PySem PySem.Spec PyProof.Rows L2
end DL
set_option Elab.async false
set_option linter.all false
set_option maxRecDepth 100000
set_option maxHeartbeats 4000000
namespace DL
open PySem PySem.Spec PyProof.Rows L2
open SeqAt AutoSeq1 MeetsSeq MeetsSeq2 MeetsSeq3
end DL
set_option Elab.async false
set_option linter.all false
set_option maxRecDepth 100000
set_option maxHeartbeats 4000000
namespace DL
open PySem PySem.Spec PyProof.Rows L2
open PySem.Froz (SD sObj TxOk tailTx addTx add_x has_x is_str get_upd add_ok)
/-- the set at a: the texts l, its table rises and can be walked -/
def SetT (P : Program) (w : World) (h : Heap) (a : Addr) (l : List Str) : Prop :=
  ∃ D : SD, h.get? a = some (sObj "set" D) ∧ TxOk P w D l ∧ l.Nodup ∧ Ris D.2.2.place.toList ∧ (w.params.followText "set-order" = true ∨ D.2.2.led = true)
theorem SetT.at {P : Program} {w : World} {h h' : Heap} {a : Addr} {l : List Str} (R : SetT P w h a l) (k : ∀ o, h.get? a = some o → h'.get? a = some o) : SetT P w h' a l := by
  obtain ⟨D, ho, r⟩ := R
  exact ⟨D, k _ ho, r⟩
end DL
set_option Elab.async false
set_option linter.all false
set_option maxRecDepth 100000
set_option maxHeartbeats 4000000
namespace DL
open PySem PySem.Spec PyProof.Rows L2
open PySem.Froz (SD sObj TxOk tailTx addTx add_x has_x is_str get_upd add_ok)
end DL
set_option Elab.async false
set_option linter.all false
set_option maxRecDepth 100000
set_option maxHeartbeats 4000000
namespace DL
open PySem PySem.Spec PyProof.Rows L2
end DL
set_option Elab.async false
set_option linter.all false
set_option maxRecDepth 100000
set_option maxHeartbeats 4000000
namespace DL
open PySem PySem.Spec PyProof.Rows L2
end DL
set_option Elab.async false
set_option linter.all false
set_option maxRecDepth 100000
set_option maxHeartbeats 4000000
namespace DL
open PySem PySem.Spec PyProof.Rows L2 PpSet
open PySem.Froz (SD sObj TxOk tailTx addTx add_x has_x is_str get_upd add_ok)
end DL
set_option Elab.async false
set_option linter.all false
set_option maxRecDepth 100000
set_option maxHeartbeats 4000000
namespace DL
open PySem PySem.Spec PyProof.Rows L2
end DL
set_option Elab.async false
set_option linter.all false
set_option maxRecDepth 100000
set_option maxHeartbeats 4000000
namespace DL
open PySem PySem.Spec PyProof.Rows L2
end DL
set_option Elab.async false
set_option linter.all false
set_option maxRecDepth 100000
set_option maxHeartbeats 4000000
namespace DL
open PySem PySem.Spec PyProof.Rows L2
open SeqAt AutoSeq1 MeetsSeq MeetsSeq2 MeetsSeq3
end DL
set_option Elab.async false
set_option linter.all false
set_option maxRecDepth 100000
set_option maxHeartbeats 4000000
namespace DL
open PySem PySem.Spec PyProof.Rows L2
end DL
set_option Elab.async false
set_option linter.all false
set_option maxRecDepth 100000
set_option maxHeartbeats 4000000
namespace DL
open PySem PySem.Spec PyProof.Rows L2
def isOf (e c : Str) : Bool := decide (c = e) || (decide (c = "VaultError") || decide (c = "ValueError"))
end DL
set_option Elab.async false
set_option linter.all false
set_option maxRecDepth 100000
set_option maxHeartbeats 4000000
namespace DL
open PySem PySem.Spec PyProof.Rows L2
def putFD (f : Str) (y : D) : List (Str × D) → List (Str × D)
  | [] => [(f, y)]
  | (g, x) :: r => if g = f then (g, y) :: r else (g, x) :: putFD f y r
section
variable {K : PySem.W.Frag} {mg : Str → Option Value} {H : Hp} {Fb : Addr → Prop} {m : List Addr}
inductive FsR (K : PySem.W.Frag) (H : Hp) (Fb : Addr → Prop) (m : List Addr) : List (Str × V) → List (Str × D) → Prop
  | nil : FsR K H Fb m [] []
  | cons {f : Str} {v : V} {d : D} {fv : List (Str × V)} {fs : List (Str × D)} : Rep K H Fb m v d → FsR K H Fb m fv fs → FsR K H Fb m ((f, v) :: fv) ((f, d) :: fs)
theorem FsR.of : ∀ {fs : List (Str × D)} {fv : List (Str × V)}, fs.map (·.1) = fv.map (·.1) → RepA K H Fb m (fv.map (·.2)) (fs.map (·.2)) → FsR K H Fb m fv fs
  | [], [], _, _ => .nil
  | [], _ :: _, h, _ => by simp at h
  | _ :: _, [], h, _ => by simp at h
  | (f, d) :: fs, (g, v) :: fv, h, r => by
    simp only [List.map_cons, List.cons.injEq] at h
    obtain ⟨rfl, h⟩ := h
    cases r with
    | cons r rr => exact .cons r (FsR.of h rr)
theorem FsR.names {fv : List (Str × V)} {fs : List (Str × D)} (h : FsR K H Fb m fv fs) : fs.map (·.1) = fv.map (·.1) := by
  induction h with
  | nil => rfl
  | cons _ _ ih => simp [ih]
theorem FsR.vals {fv : List (Str × V)} {fs : List (Str × D)} (h : FsR K H Fb m fv fs) : RepA K H Fb m (fv.map (·.2)) (fs.map (·.2)) := by
  induction h with
  | nil => exact .nil
  | cons r _ ih => exact .cons r ih
theorem FsR.len {fv : List (Str × V)} {fs : List (Str × D)} (h : FsR K H Fb m fv fs) : fv.length = fs.length := by
  induction h with
  | nil => rfl
  | cons _ _ ih => simp [ih]
theorem FsR.kp {H' : Hp} {Fb' : Addr → Prop} {m' : List Addr} (k : Kp H H' Fb Fb' m m') {fv : List (Str × V)} {fs : List (Str × D)} (h : FsR K H Fb m fv fs) : FsR K H' Fb' m' fv fs := by
  induction h with
  | nil => exact .nil
  | cons r _ ih => exact .cons (r.kp k) ih
theorem FsR.get {fv : List (Str × V)} {fs : List (Str × D)} (h : FsR K H Fb m fv fs) {f : Str} {d : D} (e : fs.lookup f = some d) : ∃ v, fv.lookup f = some v ∧ Rep K H Fb m v d := by
  induction h with
  | nil => cases e
  | @cons g v d' fv fs r h ih =>
    rw [List.lookup_cons] at e ⊢
    cases hq : (f == g) with
    | true => rw [hq] at e; cases e; exact ⟨v, rfl, r⟩
    | false => rw [hq] at e; exact ih e
theorem FsR.none {fv : List (Str × V)} {fs : List (Str × D)} (h : FsR K H Fb m fv fs) {f : Str} (e : fs.lookup f = none) : fv.lookup f = none := by
  induction h with
  | nil => rfl
  | @cons g v d' fv fs r h ih =>
    rw [List.lookup_cons] at e ⊢
    cases hq : (f == g) with
    | true => rw [hq] at e; cases e
    | false => rw [hq] at e; exact ih e
theorem FsR.put {fv : List (Str × V)} {fs : List (Str × D)} (h : FsR K H Fb m fv fs) (f : Str) {v : V} {d : D} (r : Rep K H Fb m v d) : FsR K H Fb m (putF f v fv) (putFD f d fs) := by
  induction h with
  | nil => exact .cons r .nil
  | @cons g v' d' fv fs r' h ih =>
    unfold putF putFD
    split
    · exact .cons r h
    · exact .cons r' ih
end
end DL
set_option Elab.async false
set_option linter.all false
set_option maxRecDepth 100000
set_option maxHeartbeats 4000000
namespace DL
open PySem PySem.Spec PyProof.Rows L2
end DL
set_option Elab.async false
set_option linter.all false
set_option maxRecDepth 100000
set_option maxHeartbeats 4000000
namespace PySem.W
open PySem PySem.Spec PySem.Calls PyProof.Rows
end PySem.W
namespace DL
open PySem PySem.Spec PyProof.Rows L2
end DL
set_option Elab.async false
set_option linter.all false
set_option maxRecDepth 100000
set_option maxHeartbeats 4000000
namespace DL
open PySem PySem.Spec PyProof.Rows L2
end DL
set_option Elab.async false
set_option linter.all false
set_option maxRecDepth 100000
set_option maxHeartbeats 4000000
namespace DL
open PySem PySem.Spec PyProof.Rows L2
end DL
set_option Elab.async false
set_option linter.all false
set_option maxRecDepth 100000
set_option maxHeartbeats 4000000
namespace PySem
end PySem
set_option Elab.async false
set_option linter.all false
set_option maxRecDepth 100000
set_option maxHeartbeats 4000000
namespace PySem
end PySem
namespace DL
open PySem PySem.Spec PyProof.Rows L2
end DL
set_option Elab.async false
set_option linter.all false
set_option maxRecDepth 100000
set_option maxHeartbeats 4000000
namespace DL
open PySem PySem.Spec PyProof.Rows L2
end DL
set_option Elab.async false
set_option linter.all false
set_option maxRecDepth 100000
set_option maxHeartbeats 4000000
namespace DL
open PySem PySem.Spec PyProof.Rows L2
end DL
set_option Elab.async false
set_option linter.all false
set_option maxRecDepth 100000
set_option maxHeartbeats 4000000
namespace DL
open PySem PySem.Spec PyProof.Rows L2
end DL
set_option Elab.async false
set_option linter.all false
set_option maxRecDepth 100000
set_option maxHeartbeats 4000000
namespace DL
open PySem PySem.Spec PySem.Calls PyProof.Rows L2
end DL
set_option Elab.async false
set_option linter.all false
set_option maxRecDepth 100000
set_option maxHeartbeats 4000000
namespace DL
open PySem PySem.Spec PyProof.Rows L2
end DL
set_option Elab.async false
set_option linter.all false
set_option maxRecDepth 100000
set_option maxHeartbeats 4000000
namespace DL
open PySem PySem.Spec PySem.Calls PyProof.Rows L2
def fzL (f : D → Sto → D × Sto) : List D → Sto → List D × Sto
  | [], S => ([], S)
  | d :: ds, S => ((f d S).1 :: (fzL f ds (f d S).2).1, (fzL f ds (f d S).2).2)
def fzD : Nat → D → Sto → D × Sto
  | 0, d, S => (d, S)
  | n + 1, d, S => match d with
    | .tup xs => (.tup (fzL (fzD n) xs S).1, (fzL (fzD n) xs S).2)
    | .ref k => match S[k]? with
      | some (some (.lst xs)) => (.lst (fzL (fzD n) xs (S.set k none)).1, (fzL (fzD n) xs (S.set k none)).2)
      | some (some (.dic t kvs)) => (.dic t ((kvs.map (·.1)).zip (fzL (fzD n) (kvs.map (·.2)) (S.set k none)).1), (fzL (fzD n) (kvs.map (·.2)) (S.set k none)).2)
      | _ => (.ref k, S)
    | d => (d, S)
section
variable {X : Cx} {pins : List (Addr × Obj)} {σ : L2.St} {s : Shared} {mg : Str → Option Value} {B : Addr → Prop} {m : List Addr}
structure FzT (X : Cx) (pins : List (Addr × Obj)) (σ : L2.St) (s : Shared) (B : Addr → Prop) (m : List Addr) (H H' : Hp) (S S' : Sto) : Prop where
  inv : Inv X pins σ H' s
  rl : Rl X.K X.mg B m H' S'
  kp : Kp H H' (Fo B m S) (Fo B m S') m m
  un : ∀ m2 S2 H2, Post X.K X.mg B m S' H' m2 S2 H2 → Post X.K X.mg B m S H m2 S2 H2
def FzOk (X : Cx) (pins : List (Addr × Obj)) (σ : L2.St) (s : Shared) (B : Addr → Prop) (m : List Addr) (f : D → Sto → D × Sto) : Prop :=
  ∀ (d : D) (S : Sto) (H : Hp) (v : V), Inv X pins σ H s → Rl X.K X.mg B m H S → Rep X.K H (Fo B m S) m v d →
    ∃ H', FzT X pins σ s B m H H' S (f d S).2 ∧ Rep X.K H' (Fo B m (f d S).2) m v (f d S).1
theorem FzT.refl {H : Hp} {S : Sto} (I : Inv X pins σ H s) (r : Rl X.K X.mg B m H S) : FzT X pins σ s B m H H S S := ⟨I, r, kp_anti fun _ z => z, fun _ _ _ p => p⟩
theorem Kp.trans' {H H1 H2 : Hp} {F F1 F2 : Addr → Prop} {m m1 m2 : List Addr} (a : Kp H H1 F F1 m m1) (b : Kp H1 H2 F1 F2 m1 m2) : Kp H H2 F F2 m m2 :=
  ⟨fun x xs h f => b.lst _ _ (a.lst x xs h f) (a.fb _ _ (.inl h) f), fun x u h f => b.obj _ _ (a.obj x u h f) (a.fb _ _ h f), fun x o f h => b.fix _ _ f (a.fix x o f h), fun x u h f => b.fb _ _ (a.obj x u h f) (a.fb _ _ h f), fun n x h => b.ix n x (a.ix n x h)⟩
theorem FzT.trans {H H1 H2 : Hp} {S S1 S2 : Sto} (a : FzT X pins σ s B m H H1 S S1) (b : FzT X pins σ s B m H1 H2 S1 S2) : FzT X pins σ s B m H H2 S S2 := ⟨b.inv, b.rl, a.kp.trans' b.kp, fun m3 S3 H3 p => a.un _ _ _ (b.un m3 S3 H3 p)⟩
theorem fzL_ok {f : D → Sto → D × Sto} (hf : FzOk X pins σ s B m f) : ∀ (ds : List D) (S : Sto) (H : Hp) (vs : List V), Inv X pins σ H s → Rl X.K X.mg B m H S → RepA X.K H (Fo B m S) m vs ds →
    ∃ H', FzT X pins σ s B m H H' S (fzL f ds S).2 ∧ RepA X.K H' (Fo B m (fzL f ds S).2) m vs (fzL f ds S).1
  | [], S, H, vs, I, r, q => by
    cases q
    exact ⟨H, FzT.refl I r, .nil⟩
  | d :: ds, S, H, vs, I, r, q => by
    cases q with
    | cons q1 q2 =>
      obtain ⟨H1, t1, z1⟩ := hf d S H _ I r q1
      obtain ⟨H2, t2, z2⟩ := fzL_ok hf ds _ H1 _ t1.inv t1.rl (q2.kp t1.kp)
      exact ⟨H2, t1.trans t2, .cons (z1.kp t2.kp) z2⟩
theorem fzL_len {f : D → Sto → D × Sto} : ∀ (ds : List D) (S : Sto), (fzL f ds S).1.length = ds.length
  | [], _ => rfl
  | _ :: ds, _ => by rw [fzL, List.length_cons, List.length_cons, fzL_len ds]
theorem fzD_ok : ∀ n : Nat, FzOk X pins σ s B m (fzD n)
  | 0 => fun d S H v I r q => ⟨H, FzT.refl I r, q⟩
  | n + 1 => fun d S H v I r q => by
    have ih := fzD_ok n
    cases d with
    | tup xs =>
      cases q with
      | tup h z q =>
        obtain ⟨H1, t1, z1⟩ := fzL_ok ih xs S H _ I r q
        exact ⟨H1, t1, .tup (t1.kp.sqX h) z z1⟩
    | ref k =>
      cases hk : S[k]? with
      | none =>
        have e : fzD (n + 1) (.ref k) S = (.ref k, S) := by simp only [fzD, hk]
        rw [e]
        exact ⟨H, FzT.refl I r, q⟩
      | some o =>
        cases o with
        | none =>
          have e : fzD (n + 1) (.ref k) S = (.ref k, S) := by simp only [fzD, hk]
          rw [e]
          exact ⟨H, FzT.refl I r, q⟩
        | some o =>
          cases o with
          | ins c fs =>
            have e : fzD (n + 1) (.ref k) S = (.ref k, S) := by simp only [fzD, hk]
            rw [e]
            exact ⟨H, FzT.refl I r, q⟩
          | lst xs =>
            have e : fzD (n + 1) (.ref k) S = (.lst (fzL (fzD n) xs (S.set k none)).1, (fzL (fzD n) xs (S.set k none)).2) := by simp only [fzD, hk]
            rw [e]
            cases q with
            | ref ha =>
              rename_i a
              cases r.obj _ _ _ ha hk with
              | lst h z q =>
                have kp : Kp H H (Fo B m S) (Fo B m (S.set k none)) m m := kp_anti fun a z => z.imp id liv_kill'
                have nf : ¬ Fo B m (S.set k none) a := by
                  rintro (b | l)
                  · exact r.nb a ⟨k, _, ha, hk⟩ b
                  · rcases liv_kill l with ⟨_, z⟩ | ⟨_, j, hj, hj2⟩
                    · exact z ha
                    · obtain ⟨l1, g1⟩ := List.getElem?_eq_some_iff.mp hj2
                      obtain ⟨l2, g2⟩ := List.getElem?_eq_some_iff.mp ha
                      exact hj ((List.getElem_inj r.nod).mp (g1.trans g2.symm))
                have t0 : FzT X pins σ s B m H H S (S.set k none) := ⟨I, r.kill, kp, fun _ _ _ p => p.unkill⟩
                obtain ⟨H1, t1, z1⟩ := fzL_ok ih xs _ H _ I r.kill (q.kp kp)
                exact ⟨H1, t0.trans t1, .lst (t1.kp.lst _ _ h nf) (t1.kp.fb _ _ (.inl h) nf) z z1⟩
          | dic t kvs =>
            have e : fzD (n + 1) (.ref k) S = (.dic t ((kvs.map (·.1)).zip (fzL (fzD n) (kvs.map (·.2)) (S.set k none)).1), (fzL (fzD n) (kvs.map (·.2)) (S.set k none)).2) := by simp only [fzD, hk]
            rw [e]
            have hlen : (kvs.map (·.1)).length = (fzL (fzD n) (kvs.map (·.2)) (S.set k none)).1.length := by rw [fzL_len, List.length_map, List.length_map]
            cases q with
            | ref ha =>
              rename_i a
              cases r.obj _ _ _ ha hk with
              | @dK kv _ h z e q =>
                obtain ⟨od, I2⟩ := I.lock h trivial
                obtain ⟨r', kp, un⟩ := r.lockD (u := .frz od (.dK kv)) ha hk
                have t0 : FzT X pins σ s B m H _ S (S.set k none) := ⟨I2, r', kp, un⟩
                obtain ⟨H1, t1, z1⟩ := fzL_ok ih _ _ _ _ I2 r' (q.kp kp)
                refine ⟨H1, t0.trans t1, .dK (t1.kp.lk ⟨od, upd_same⟩) z ?_ ?_⟩
                · rw [List.map_fst_zip (Nat.le_of_eq hlen)]; exact e
                · rw [List.map_snd_zip (Nat.le_of_eq hlen.symm)]; exact z1
              | @dT kv _ h z e q =>
                obtain ⟨od, I2⟩ := I.lock h trivial
                obtain ⟨r', kp, un⟩ := r.lockD (u := .frz od (.dT kv)) ha hk
                have t0 : FzT X pins σ s B m H _ S (S.set k none) := ⟨I2, r', kp, un⟩
                obtain ⟨H1, t1, z1⟩ := fzL_ok ih _ _ _ _ I2 r' (q.kp kp)
                refine ⟨H1, t0.trans t1, .dT (t1.kp.lk ⟨od, upd_same⟩) z ?_ ?_⟩
                · rw [List.map_fst_zip (Nat.le_of_eq hlen)]; exact e
                · rw [List.map_snd_zip (Nat.le_of_eq hlen.symm)]; exact z1
    | _ => exact ⟨H, FzT.refl I r, q⟩
end
end DL
set_option Elab.async false
set_option linter.all false
set_option maxRecDepth 100000
set_option maxHeartbeats 4000000
namespace DL
open PySem PySem.Spec PySem.Calls PyProof.Rows L2
def unKs : List D → Option (List Key)
  | [] => some []
  | d :: ds => (unK d).bind fun k => (unKs ds).map (k :: ·)
def unT : D → Option (List Key)
  | .tup ds => unKs ds
  | _ => none
theorem unKs_map : ∀ ks : List Key, unKs (ks.map keyD) = some ks
  | [] => rfl
  | k :: ks => by rw [List.map_cons, unKs, unK_keyD, unKs_map ks]; rfl
theorem unT_keyT (ks : List Key) : unT (keyT ks) = some ks := unKs_map ks
def valQ (kvs : List (D × D)) (k : List Key) : Option D := (kvs.find? fun p => decide (unT p.1 = some k)).map (·.2)
def putQ (kvs : List (D × D)) (k : List Key) (d : D) : List (D × D) :=
  if (kvs.any fun p => decide (unT p.1 = some k)) = true then kvs.map (fun p => if unT p.1 = some k then (p.1, d) else p) else kvs ++ [(keyT k, d)]
inductive KRT (K : PySem.W.Frag) (H : Hp) (Fb : Addr → Prop) (m : List Addr) : List (List Key × V) → List (D × D) → Prop
  | nil : KRT K H Fb m [] []
  | cons {k : List Key} {v : V} {d : D} {kv : List (List Key × V)} {kvs : List (D × D)} : Rep K H Fb m v d → KRT K H Fb m kv kvs → KRT K H Fb m ((k, v) :: kv) ((keyT k, d) :: kvs)
section
variable {K : PySem.W.Frag} {H H' : Hp} {Fb Fb' : Addr → Prop} {m m' : List Addr}
theorem KRT.keys {kv : List (List Key × V)} {kvs : List (D × D)} (h : KRT K H Fb m kv kvs) : kvs.map (·.1) = kv.map (fun p => keyT p.1) := by
  induction h with
  | nil => rfl
  | cons _ _ ih => simp [ih]
theorem KRT.vals {kv : List (List Key × V)} {kvs : List (D × D)} (h : KRT K H Fb m kv kvs) : RepA K H Fb m (kv.map (·.2)) (kvs.map (·.2)) := by
  induction h with
  | nil => exact .nil
  | cons r _ ih => exact .cons r ih
theorem KRT.length {kv : List (List Key × V)} {kvs : List (D × D)} (h : KRT K H Fb m kv kvs) : kv.length = kvs.length := by
  induction h with
  | nil => rfl
  | cons _ _ ih => simp [ih]
theorem KRT.kp (k : Kp H H' Fb Fb' m m') {kv : List (List Key × V)} {kvs : List (D × D)} (h : KRT K H Fb m kv kvs) : KRT K H' Fb' m' kv kvs := by
  induction h with
  | nil => exact .nil
  | cons r _ ih => exact .cons (r.kp k) ih
theorem KRT.val {kv : List (List Key × V)} {kvs : List (D × D)} (h : KRT K H Fb m kv kvs) (k : List Key) : (∃ v d, valV kv k = some v ∧ valQ kvs k = some d ∧ Rep K H Fb m v d) ∨ (valV kv k = none ∧ valQ kvs k = none) := by
  induction h with
  | nil => exact .inr ⟨rfl, rfl⟩
  | @cons j v d kv kvs r h ih =>
    by_cases e : j = k
    · refine .inl ⟨v, d, valV_pos e, ?_, r⟩
      simp [valQ, List.find?_cons, unT_keyT, e]
    · have e1 : valQ ((keyT j, d) :: kvs) k = valQ kvs k := by simp [valQ, List.find?_cons, unT_keyT, e]
      rw [valV_neg (p := (j, v)) e, e1]
      exact ih
theorem KRT.any {kv : List (List Key × V)} {kvs : List (D × D)} (h : KRT K H Fb m kv kvs) (k : List Key) : (kv.any fun p => decide (p.1 = k)) = (kvs.any fun p => decide (unT p.1 = .some k)) := by
  induction h with
  | nil => rfl
  | cons r h ih => simp [List.any_cons, unT_keyT, ih]
theorem KRT.repl {kv : List (List Key × V)} {kvs : List (D × D)} (h : KRT K H Fb m kv kvs) (k : List Key) {v : V} {d : D} (r : Rep K H Fb m v d) : KRT K H Fb m (kv.map fun p => if p.1 = k then (p.1, v) else p) (kvs.map fun p => if unT p.1 = .some k then (p.1, d) else p) := by
  induction h with
  | nil => exact .nil
  | @cons j w e kv kvs rw h ih =>
    simp only [List.map_cons, unT_keyT, Option.some.injEq]
    by_cases ej : j = k
    · rw [if_pos ej, if_pos ej]; exact .cons r ih
    · rw [if_neg ej, if_neg ej]; exact .cons rw ih
theorem KRT.snoc {kv : List (List Key × V)} {kvs : List (D × D)} (h : KRT K H Fb m kv kvs) (k : List Key) {v : V} {d : D} (r : Rep K H Fb m v d) : KRT K H Fb m (kv ++ [(k, v)]) (kvs ++ [(keyT k, d)]) := by
  induction h with
  | nil => exact .cons r .nil
  | cons rw h ih => exact .cons rw ih
theorem KRT.put {kv : List (List Key × V)} {kvs : List (D × D)} (h : KRT K H Fb m kv kvs) (k : List Key) {v : V} {d : D} (r : Rep K H Fb m v d) : KRT K H Fb m (putK kv k v) (putQ kvs k d) := by
  unfold putK putQ
  rw [h.any k]
  split
  · exact h.repl k r
  · exact h.snoc k r
end
end DL
set_option Elab.async false
set_option linter.all false
set_option maxRecDepth 100000
set_option maxHeartbeats 4000000
namespace DL
open PySem PySem.Spec PySem.Calls PyProof.Rows L2
section
variable {prog : Program} {w : World}
/-- v is a tuple whose first item is the tuple of keys ks -/
def FstT (prog : Program) (w : World) (h : Heap) (v : Value) (ks : List Key) : Prop := ∃ (a k : Addr) (r : List Value), v = .ref a ∧ IsTup h a (.ref k :: r).toArray ∧ IsTupleKey (mixKind prog w) h ks k
theorem FstT.keeps {h h' : Heap} {v : Value} {ks : List Key} (x : FstT prog w h v ks) (kk : ∀ b o, h.get? b = some o → o.cls = .type "tuple" → h'.get? b = some o) : FstT prog w h' v ks := by
  obtain ⟨a, k, r, e, ⟨o, ho, hc, rr⟩, ⟨o2, it, n, h2, c2, q⟩⟩ := x
  exact ⟨a, k, r, e, ⟨o, kk _ _ ho hc, hc, rr⟩, ⟨o2, it, n, kk _ _ h2 c2, c2, q⟩⟩
variable {A : Around} {E : Value → Shared → Prop} {s : Shared}
end
end DL
set_option Elab.async false
set_option linter.all false
set_option maxRecDepth 100000
set_option maxHeartbeats 4000000
namespace DL
open PySem PySem.Spec PySem.Calls PyProof.Rows L2
theorem FstT.uniq {prog : Program} {w : World} {h : Heap} {v : Value} {x y : List Key} (a : FstT prog w h v x) (b : FstT prog w h v y) : x = y := by
  obtain ⟨p, k, r, rfl, ⟨o, ho, hc, n, hd⟩, q⟩ := a
  obtain ⟨p', k', r', e, ⟨o', ho', hc', n', hd'⟩, q'⟩ := b
  cases e
  rw [ho] at ho'
  cases ho'
  rw [hd] at hd'
  simp only [Data.seq.injEq] at hd'
  have := congrArg Array.toList hd'.1
  simp only [List.cons.injEq, Value.ref.injEq] at this
  obtain ⟨rfl, _⟩ := this
  exact q.inj q'
open Classical in
noncomputable def kfT (prog : Program) (w : World) (h : Heap) (v : Value) : List Key := if e : ∃ ks, FstT prog w h v ks then Classical.choose e else []
theorem FstT.kf {prog : Program} {w : World} {h : Heap} {v : Value} {k : List Key} (x : FstT prog w h v k) : kfT prog w h v = k := by
  have e : ∃ ks, FstT prog w h v ks := ⟨k, x⟩
  unfold kfT
  rw [dif_pos e]
  exact (Classical.choose_spec e).uniq x
end DL
set_option Elab.async false
set_option linter.all false
set_option maxRecDepth 100000
set_option maxHeartbeats 4000000
namespace DL
open PySem PySem.Spec PySem.Calls PyProof.Rows L2
end DL
set_option Elab.async false
set_option linter.all false
set_option maxRecDepth 100000
set_option maxHeartbeats 4000000
namespace DL
open PySem PySem.Spec PySem.Calls PyProof.Rows L2
end DL
set_option Elab.async false
set_option linter.all false
set_option maxRecDepth 100000
set_option maxHeartbeats 4000000
namespace DL
open PySem PySem.Spec PySem.Calls PyProof.Rows L2
end DL
set_option Elab.async false
set_option linter.all false
set_option maxRecDepth 100000
set_option maxHeartbeats 4000000
namespace DL
open PySem PySem.Spec PySem.Calls PyProof.Rows L2
end DL
set_option Elab.async false
set_option linter.all false
set_option maxRecDepth 100000
set_option maxHeartbeats 4000000
namespace DL
open PySem PySem.Spec PySem.Calls PyProof.Rows L2
def sFzV (i n : Nat) (s : Sx) : Sx := fun ρ S => match ρ[i]? with
  | some (some d) => s (ρ.set i (some (fzD n d S).1)) (fzD n d S).2
  | _ => .bad
section
variable {X : Cx} {W : WX} {st : Stmt} {s : Sx} {i n : Nat}
theorem finS.un {K : PySem.W.Frag} {mg : Str → Option Value} {W : WX} {B : Addr → Prop} {m : List Addr} {S S1 : Sto} {H H1 : Hp} {r : RS} {E : Ends} (un : ∀ m2 S2 H2, Post K mg B m S1 H1 m2 S2 H2 → Post K mg B m S H m2 S2 H2) (f : finS K mg W B m S H r E) : finS K mg W B m S1 H1 r E := by
  cases r with
  | bad => exact f.elim
  | exc c p ρ' S' => exact fun m' H' σ' cls dd po => f m' H' σ' cls dd (un _ _ _ po)
  | fl fl S' =>
    cases fl with
    | nx ρ' => exact fun m' H' σ' po => f m' H' σ' (un _ _ _ po)
    | bk ρ' => exact fun m' H' σ' po => f m' H' σ' (un _ _ _ po)
    | ct ρ' => exact fun m' H' σ' po => f m' H' σ' (un _ _ _ po)
    | rt d => exact fun m' H' v po => f m' H' v (un _ _ _ po)
theorem sv_fzV (h : SV X W st s) : SV X W st (sFzV i n s) := by
  refine ⟨fun pins sh σ H E I q => ?_⟩
  obtain ⟨B, m, ρ, S, r, re, f⟩ := q
  unfold sFzV at f
  split at f
  · rename_i d en
    obtain ⟨v, ev, rv⟩ := re.2 i _ en
    obtain ⟨H2, t, z⟩ := fzD_ok (s := sh) n d S H v I r rv
    refine h.run pins sh σ H2 E t.inv ⟨B, m, ρ.set i (some (fzD n d S).1), (fzD n d S).2, t.rl, ⟨by simp [re.1], fun j d' e' => ?_⟩, f.un t.un⟩
    by_cases hj : i = j
    · subst hj
      have hi : i < ρ.length := (List.getElem?_eq_some_iff.mp en).1
      rw [List.getElem?_set_self hi] at e'
      cases e'
      exact ⟨v, ev, z⟩
    · rw [List.getElem?_set_ne hj] at e'
      obtain ⟨w, ew, rw'⟩ := re.2 j d' e'
      exact ⟨w, ew, rw'.kp t.kp⟩
  · exact f.elim
end
section
variable {E : Px} {Ex' : Xs} {ρ : Ev} {S : Sto} {Q : D → Sto → Prop} {Qf : Fl → Sto → Prop} {f : Ex} {s : Sx} {i n : Nat} {d : D}
theorem ws_fzV (h0 : ρ[i]? = some (some d)) (h : Ws (s (ρ.set i (some (fzD n d S).1)) (fzD n d S).2) Qf Ex') : Ws (sFzV i n s ρ S) Qf Ex' := by
  unfold sFzV
  simp only [h0]
  exact h
end
end DL
set_option Elab.async false
set_option linter.all false
set_option maxRecDepth 100000
set_option maxHeartbeats 4000000
namespace DL
open PySem PySem.Spec PyProof.Rows L2
def MaskG (m : Nat) : Prop := ∃ k, m + 1 = 2 ^ k
def cN : Nat → Nat
  | 0 => 0
  | n + 1 => cN n * 5 + 1
theorem lcg_cN (m : Nat) : ∀ n, lcgN m n = cN n % (m + 1)
  | 0 => by simp [lcgN, cN]
  | n + 1 => by
    show (lcgN m n * 5 + 1) % (m + 1) = (cN n * 5 + 1) % (m + 1)
    rw [lcg_cN m n, Nat.add_mod, Nat.mul_mod, Nat.mod_mod, ← Nat.mul_mod, ← Nat.add_mod]
theorem cN_add (b : Nat) : ∀ a, cN (a + b) = 5 ^ a * cN b + cN a
  | 0 => by simp [cN]
  | a + 1 => by
    have e : a + 1 + b = (a + b) + 1 := by omega
    rw [e]
    show cN (a + b) * 5 + 1 = 5 ^ (a + 1) * cN b + (cN a * 5 + 1)
    rw [cN_add b a, Nat.pow_succ, Nat.add_mul]
    have : 5 ^ a * cN b * 5 = 5 ^ a * 5 * cN b := by rw [Nat.mul_assoc, Nat.mul_comm (cN b) 5, ← Nat.mul_assoc]
    omega
theorem cN_pow : ∀ n, 5 ^ n = 4 * cN n + 1
  | 0 => rfl
  | n + 1 => by
    rw [Nat.pow_succ, cN_pow n]
    show (4 * cN n + 1) * 5 = 4 * (cN n * 5 + 1) + 1
    omega
theorem cN_two : ∀ k, ∃ t, cN (2 ^ k) = 2 ^ k * (2 * t + 1)
  | 0 => ⟨0, rfl⟩
  | k + 1 => by
    obtain ⟨t, e⟩ := cN_two k
    refine ⟨2 * t * cN (2 ^ k) + t + cN (2 ^ k), ?_⟩
    have e2 : 2 ^ (k + 1) = 2 ^ k + 2 ^ k := by rw [Nat.pow_succ]; omega
    have e4 : cN (2 ^ k + 2 ^ k) = cN (2 ^ k) * (2 * (2 * cN (2 ^ k) + 1)) := by
      rw [cN_add, cN_pow]
      have : cN (2 ^ k) * (2 * (2 * cN (2 ^ k) + 1)) = 4 * cN (2 ^ k) * cN (2 ^ k) + 2 * cN (2 ^ k) := by
        rw [Nat.mul_comm (cN (2 ^ k)) (2 * (2 * cN (2 ^ k) + 1)), Nat.mul_add, Nat.mul_one, Nat.add_mul, ← Nat.mul_assoc]
      rw [this, Nat.add_mul]
      omega
    rw [e2, e4]
    generalize hc : cN (2 ^ k) = c at e ⊢
    have l1 : c * (2 * (2 * c + 1)) = 2 * (c * (2 * c + 1)) := Nat.mul_left_comm c 2 (2 * c + 1)
    have l2 : c * (2 * c + 1) = 2 ^ k * ((2 * t + 1) * (2 * c + 1)) := by
      conv => lhs; rw [e]
      rw [Nat.mul_assoc, e]
    have l3 : (2 * t + 1) * (2 * c + 1) = 2 * (2 * t * c + t + c) + 1 := by
      rw [Nat.add_mul, Nat.mul_add, Nat.one_mul, Nat.mul_one, Nat.mul_left_comm (2 * t) 2 c, Nat.mul_add, Nat.mul_add]
      omega
    rw [l1, l2, l3, ← Nat.mul_assoc]
    congr 1
    omega
theorem cN_all : ∀ k j, j < 2 ^ k → ∃ n, n < 2 ^ k ∧ cN n % 2 ^ k = j
  | 0, j, h => ⟨0, by decide, by
    have : j = 0 := by simpa using h
    subst this
    rfl⟩
  | k + 1, j, h => by
    have e2 : 2 ^ (k + 1) = 2 * 2 ^ k := by rw [Nat.pow_succ]; omega
    have hp : 0 < 2 ^ k := Nat.pow_pos (by decide)
    obtain ⟨n, hn, e⟩ := cN_all k (j % 2 ^ k) (Nat.mod_lt _ hp)
    have r1 : cN n % 2 ^ (k + 1) % 2 ^ k = j % 2 ^ k := by
      rw [e2, Nat.mod_mul_left_mod, e]
    have r2 : cN n % 2 ^ (k + 1) < 2 * 2 ^ k := by rw [← e2]; exact Nat.mod_lt _ (Nat.pow_pos (by decide))
    have dm1 := Nat.div_add_mod (cN n % 2 ^ (k + 1)) (2 ^ k)
    have dm2 := Nat.div_add_mod j (2 ^ k)
    have q1 : cN n % 2 ^ (k + 1) / 2 ^ k < 2 := Nat.div_lt_of_lt_mul (by rw [Nat.mul_comm]; exact r2)
    have q2 : j / 2 ^ k < 2 := Nat.div_lt_of_lt_mul (by rw [Nat.mul_comm]; rw [e2] at h; exact h)
    by_cases c : cN n % 2 ^ (k + 1) / 2 ^ k = j / 2 ^ k
    · refine ⟨n, by omega, ?_⟩
      rw [← dm1, ← dm2, c, r1]
    · refine ⟨n + 2 ^ k, by omega, ?_⟩
      obtain ⟨t, et⟩ := cN_two k
      have e5 := cN_pow n
      have key : cN (n + 2 ^ k) = (cN n + 2 ^ k) + 2 ^ (k + 1) * (2 * (2 * cN n * t) + 2 * cN n + t) := by
        rw [cN_add, e5, et, e2]
        have l1 : (4 * cN n + 1) * (2 ^ k * (2 * t + 1)) = 2 ^ k * ((4 * cN n + 1) * (2 * t + 1)) := Nat.mul_left_comm _ _ _
        have l2 : (4 * cN n + 1) * (2 * t + 1) = 2 * (2 * (2 * cN n * t) + 2 * cN n + t) + 1 := by
          rw [Nat.add_mul, Nat.mul_add, Nat.one_mul, Nat.mul_one]
          have : 4 * cN n * (2 * t) = 2 * (2 * (2 * (cN n * t))) := by
            rw [Nat.mul_assoc, Nat.mul_left_comm (cN n) 2 t]
            omega
          have : 2 * cN n * t = 2 * (cN n * t) := Nat.mul_assoc _ _ _
          omega
        rw [l1, l2, Nat.mul_add, Nat.mul_one, ← Nat.mul_assoc, Nat.mul_comm (2 ^ k) 2]
        omega
      rw [key, Nat.add_mul_mod_self_left, Nat.add_mod]
      have m1 : 2 ^ k % 2 ^ (k + 1) = 2 ^ k := Nat.mod_eq_of_lt (by omega)
      rw [m1]
      have dich : (cN n % 2 ^ (k + 1) / 2 ^ k = 0 ∧ j / 2 ^ k = 1) ∨ (cN n % 2 ^ (k + 1) / 2 ^ k = 1 ∧ j / 2 ^ k = 0) := by
        generalize cN n % 2 ^ (k + 1) / 2 ^ k = a at c q1 ⊢
        generalize j / 2 ^ k = b at c q2 ⊢
        omega
      have lt1 := Nat.mod_lt (cN n % 2 ^ (k + 1)) hp
      have lt2 := Nat.mod_lt j hp
      have e2' : 2 ^ (k + 1) = 2 * 2 ^ k := e2
      rcases dich with ⟨z1, z2⟩ | ⟨z1, z2⟩
      · skip
        rw [z1, Nat.mul_zero] at dm1
        rw [z2, Nat.mul_one] at dm2
        generalize cN n % 2 ^ (k + 1) = r at *
        generalize hP : 2 ^ (k + 1) = P at *
        generalize 2 ^ k = p at *
        rw [Nat.mod_eq_of_lt (by omega)]
        omega
      · rw [z1, Nat.mul_one] at dm1
        rw [z2, Nat.mul_zero] at dm2
        have : cN n % 2 ^ (k + 1) + 2 ^ k = j + 2 ^ (k + 1) := by
          generalize cN n % 2 ^ (k + 1) = r at *
          generalize 2 ^ (k + 1) = P at *
          generalize 2 ^ k = p at *
          omega
        rw [this, Nat.add_mod_right, Nat.mod_eq_of_lt h]
section
variable {m : Nat}
theorem gcg_all (hm : MaskG m) {j : Nat} (hj : j ≤ m) : ∃ b, b ≤ m ∧ lcgN m b = j := by
  obtain ⟨k, e⟩ := hm
  obtain ⟨n, hn, e1⟩ := cN_all k j (by omega)
  exact ⟨n, by omega, by rw [lcg_cN, e, e1]⟩
theorem gcg_round (hm : MaskG m) : lcgN m (m + 1) = 0 := by
  obtain ⟨k, e⟩ := hm
  obtain ⟨t, et⟩ := cN_two k
  rw [lcg_cN, e, et, Nat.mul_mod_right]
theorem gcgN_mod (hm : MaskG m) : ∀ k, lcgN m (m + 1 + k) = lcgN m k
  | 0 => gcg_round hm
  | k + 1 => by
    show (lcgN m (m + 1 + k) * 5 + 1) % (m + 1) = (lcgN m k * 5 + 1) % (m + 1)
    rw [gcgN_mod hm k]
theorem gcgI_all (hm : MaskG m) {i j : Nat} (hi : i ≤ m) (hj : j ≤ m) : ∃ k, k ≤ m ∧ lcgI m i k = j := by
  obtain ⟨a, ha, ea⟩ := gcg_all hm hi
  obtain ⟨b, hb, eb⟩ := gcg_all hm hj
  rw [← ea]
  rcases Nat.lt_or_ge b a with c | c
  · refine ⟨b + (m + 1) - a, by omega, ?_⟩
    rw [lcgN_add]
    have e : a + (b + (m + 1) - a) = m + 1 + b := by omega
    rw [e, gcgN_mod hm, eb]
  · refine ⟨b - a, by omega, ?_⟩
    rw [lcgN_add]
    have e : a + (b - a) = b := by omega
    rw [e, eb]
theorem gun_meets (hm : MaskG m) (h : Int) {j : Nat} (hj : j ≤ m) : ∃ n, n ≤ m + 12 ∧ runI m (SetTable.bits h) n = j := by
  obtain ⟨k, hk, e⟩ := gcgI_all hm (runI_le m (SetTable.bits h) 12) hj
  exact ⟨12 + k, by omega, by rw [runI_tail (bits_lt h)]; exact e⟩
theorem free_some (owner : Array (Option Nat)) (hs : owner.size = m + 1) : ∀ (f n i b : Nat), i ≤ m → n < f → oAt owner (itL m i b n).1 = none → ∃ j, SetTable.layClean.free m owner f i b = some j ∧ j ≤ m ∧ oAt owner j = none
  | 0, n, _, _, _, h, _ => absurd h (Nat.not_lt_zero _)
  | f + 1, n, i, b, hi, hn, hf => by
    rw [free_succ]
    have hre := runEnd_bd hi
    cases e : (List.range (SetTable.runEnd m i + 1 - i)).find? fun k => (oAt owner (i + k)).isNone with
    | some k =>
      have h1 := List.mem_range.mp (List.mem_of_find?_eq_some e)
      have h2 : (oAt owner (i + k)).isNone = true := by simpa using List.find?_some e
      exact ⟨i + k, rfl, by omega, Option.isNone_iff_eq_none.mp h2⟩
    | none =>
      have h0 := List.find?_eq_none.mp e 0 (List.mem_range.mpr (by omega))
      cases n with
      | zero =>
        have hf' : oAt owner i = none := hf
        simp [hf'] at h0
      | succ n => exact free_some owner hs f n _ _ (leap_le m i b) (by omega) hf
theorem free_any (hm : MaskG m) {owner : Array (Option Nat)} (hs : owner.size = m + 1) (h : Int) {j : Nat} (hj : j ≤ m) (hf : oAt owner j = none) :
    ∃ j', SetTable.layClean.free m owner (SetTable.turns m) (SetTable.bits h % (m + 1)) (SetTable.bits h) = some j' ∧ j' ≤ m ∧ oAt owner j' = none := by
  obtain ⟨n, hn, e⟩ := gun_meets hm h hj
  refine free_some owner hs _ n _ _ (Nat.le_of_lt_succ (Nat.mod_lt _ (Nat.succ_pos _))) (by unfold SetTable.turns; omega) ?_
  rw [itL_run]
  show oAt owner (runI m (SetTable.bits h) n) = none
  rw [e]
  exact hf
/-- who sits where, without the ways -/
structure Ow (m n : Nat) (owner : Array (Option Nat)) : Prop where
  sz : owner.size = m + 1
  all : ∀ k, k < n → ∃ j, j ≤ m ∧ oAt owner j = some k
  ps : ∃ ps : List Nat, ps.length = n ∧ ∀ j, j ≤ m → oAt owner j ≠ none → j ∈ ps
theorem Ow.init (m : Nat) : Ow m 0 (Array.replicate (m + 1) none) where
  sz := by simp
  all := fun k hk => absurd hk (Nat.not_lt_zero _)
  ps := ⟨[], rfl, fun j hj e => absurd (oAt_init hj) e⟩
theorem Ow.step (hm : MaskG m) {n : Nat} {owner : Array (Option Nat)} (W : Ow m n owner) (hl : n ≤ m) (h : Int) :
    ∃ j, SetTable.layClean.free m owner (SetTable.turns m) (SetTable.bits h % (m + 1)) (SetTable.bits h) = some j ∧ Ow m (n + 1) (owner.setIfInBounds j (some n)) := by
  obtain ⟨ps, hps, hin⟩ := W.ps
  obtain ⟨j0, h0, hn0⟩ := st_missing ps (m + 1) (by omega)
  have hj0 : oAt owner j0 = none := by
    cases z : oAt owner j0 with
    | none => rfl
    | some k => exact absurd (hin j0 (Nat.le_of_lt_succ h0) (by rw [z]; exact fun e => nomatch e)) hn0
  obtain ⟨j, e1, e2, e3⟩ := free_any hm W.sz h (Nat.le_of_lt_succ h0) hj0
  have hjs : j < owner.size := by
    rw [W.sz]
    exact Nat.lt_succ_of_le e2
  have hself := oAt_set_self (some n) hjs
  refine ⟨j, e1, ⟨by rw [Array.size_setIfInBounds]; exact W.sz, fun k hk => ?_, ⟨j :: ps, by rw [List.length_cons, hps], fun i hi e => ?_⟩⟩⟩
  · by_cases c : k < n
    · obtain ⟨i, hi, e⟩ := W.all k c
      refine ⟨i, hi, ?_⟩
      rw [oAt_set_ne _ (fun z => by rw [z, e3] at e; cases e)]
      exact e
    · have ek : k = n := by omega
      rw [ek]
      exact ⟨j, e2, hself⟩
  · by_cases c : i = j
    · rw [c]
      exact List.mem_cons_self
    · rw [oAt_set_ne _ c] at e
      exact List.mem_cons_of_mem _ (hin i hi e)
theorem ow_fold (hm : MaskG m) : ∀ (rest : List Int) (n : Nat) (owner : Array (Option Nat)), Ow m n owner → n + rest.length ≤ m →
    ∃ owner', rest.foldl (stepF m) (some (owner, n)) = some (owner', n + rest.length) ∧ Ow m (n + rest.length) owner'
  | [], n, owner, W, _ => ⟨owner, rfl, W⟩
  | h :: rest, n, owner, W, hl => by
    rw [List.length_cons] at hl
    obtain ⟨j, e, W'⟩ := W.step hm (by omega) h
    obtain ⟨owner', f, W2⟩ := ow_fold hm rest (n + 1) _ W' (by omega)
    have ea : n + 1 + rest.length = n + (h :: rest).length := by rw [List.length_cons]; omega
    rw [ea] at f W2
    refine ⟨owner', ?_, W2⟩
    rw [List.foldl_cons, stepF_some e]
    exact f
theorem lay_ok (hm : MaskG m) {hs : Array Int} (hn : hs.size ≤ m) : ∃ owner, SetTable.layClean m hs = some owner ∧ Ow m hs.size owner := by
  obtain ⟨owner, f, W⟩ := ow_fold hm hs.toList 0 _ (Ow.init m) (by rw [Array.length_toList]; omega)
  rw [Nat.zero_add, Array.length_toList] at W
  refine ⟨owner, ?_, W⟩
  rw [layClean_eq, f] <;> rfl
/-- what laying anew gives -/
theorem laid_any (finger moves : Nat) (led plain : Bool) (hm : MaskG m) {hs : Array Int} (hn : hs.size ≤ m) :
    ∃ t' order, SetTable.laid m finger moves led plain hs = some (t', order) ∧ order.toList.Perm (List.range hs.size) ∧ Ris t'.place.toList ∧ t'.fits hs.size = true ∧ t'.mask = m ∧ t'.led = led ∧ t'.dummies = #[] := by
  obtain ⟨owner, e, W⟩ := lay_ok hm hn
  have hr : SetTable.laid m finger moves led plain hs = some ({ mask := m, place := ((liveOf m owner).map (·.1)).toArray, dummies := #[], finger := finger, led := led, moves := moves, plain := plain }, ((liveOf m owner).map (·.2)).toArray) := by
    unfold SetTable.laid
    rw [e] <;> rfl
  have ris := ris_live (fun j => owner.getD j none) (List.range (m + 1)) (by
    unfold Ris
    first | exact List.pairwise_lt_range | exact List.pairwise_lt_range _)
  have r1 : Ris ((liveOf m owner).map (·.1)) := ris.1
  have nd : ((liveOf m owner).map (·.1)).Nodup := List.Pairwise.imp (fun h => Nat.ne_of_lt h) r1
  have hlen : (liveOf m owner).length = hs.size := by
    obtain ⟨ps, p1, p2⟩ := W.ps
    have a := nat_nodup_len ((liveOf m owner).map (·.1)) ps nd fun x hx => by
      obtain ⟨q, hq, eq1⟩ := List.mem_map.mp hx
      obtain ⟨y, k⟩ := q
      have ey : y = x := eq1
      subst ey
      obtain ⟨b1, b2⟩ := (mem_live W.sz).1 hq
      exact p2 y b1 (by rw [b2]; exact fun z => nomatch z)
    have b := nat_nodup_len (List.range hs.size) ((liveOf m owner).map (·.2)) List.nodup_range fun k hk => by
      obtain ⟨j, b1, b2⟩ := W.all k (List.mem_range.mp hk)
      exact List.mem_map.mpr ⟨(j, k), (mem_live W.sz).2 ⟨b1, b2⟩, rfl⟩
    rw [List.length_map, p1] at a
    rw [List.length_map, List.length_range] at b
    omega
  refine ⟨_, _, hr, ?_, r1, ?_, rfl, rfl, rfl⟩
  · refine perm_range hs.size _ ?_ fun k hk => ?_
    · show ((liveOf m owner).map (·.2)).length = hs.size
      rw [List.length_map]
      exact hlen
    · obtain ⟨j, b1, b2⟩ := W.all k hk
      exact List.mem_map.mpr ⟨(j, k), (mem_live W.sz).2 ⟨b1, b2⟩, rfl⟩
  · unfold SetTable.fits SetTable.fill
    rw [Bool.and_eq_true, beq_iff_eq, decide_eq_true_eq]
    show ((liveOf m owner).map (·.1)).toArray.size = hs.size ∧ ((liveOf m owner).map (·.1)).toArray.size + 0 ≤ m
    rw [List.size_toArray, List.length_map, hlen]
    exact ⟨rfl, hn⟩
end
/-- what an order picks -/
theorem order_perm {α : Type} (es : Array α) {order : Array Nat} (h : order.toList.Perm (List.range es.size)) : (order.filterMap (es[·]?)).toList.Perm es.toList := by
  have e : (order.filterMap (es[·]?)).toList = order.toList.filterMap (es[·]?) := by simp
  rw [e]
  refine (h.filterMap _).trans ?_
  have key : ∀ n, n ≤ es.toList.length → (List.range n).filterMap (fun i => es[i]?) = es.toList.take n := by
    intro n
    induction n with
    | zero => intro _; rfl
    | succ n ih =>
      intro hn
      have hlt : n < es.toList.length := hn
      have hget : es[n]? = some (es.toList[n]) := by
        rw [← Array.getElem?_toList, List.getElem?_eq_getElem hlt]
      rw [List.range_succ, List.filterMap_append, ih (Nat.le_of_lt hlt), List.take_succ, List.getElem?_eq_getElem hlt]
      rw [List.filterMap_cons_some hget] <;> rfl
  have := key es.toList.length (Nat.le_refl _)
  rw [List.take_length, Array.length_toList] at this
  rw [this]
theorem sizeAbove_ok (n : Nat) (hn : n < 2 ^ 40) : ∃ k, SetTable.sizeAbove n = 2 ^ k ∧ n < SetTable.sizeAbove n ∧ SetTable.sizeAbove n ≤ 8 + 2 * n := by
  have key : ∀ f k, n < 2 ^ (k + f) → 2 ^ k ≤ 8 + 2 * n → ∃ k', SetTable.sizeAbove.go n f (2 ^ k) = 2 ^ k' ∧ n < 2 ^ k' ∧ 2 ^ k' ≤ 8 + 2 * n := by
    intro f
    induction f with
    | zero => intro k h h2; exact ⟨k, rfl, h, h2⟩
    | succ f ih =>
      intro k h h2
      show ∃ k', (if 2 ^ k ≤ n then SetTable.sizeAbove.go n f (2 ^ k * 2) else 2 ^ k) = 2 ^ k' ∧ _
      by_cases c : 2 ^ k ≤ n
      · rw [if_pos c, ← Nat.pow_succ]
        exact ih (k + 1) (by rw [show k + 1 + f = k + (f + 1) by omega]; exact h) (by rw [Nat.pow_succ]; omega)
      · rw [if_neg c]
        exact ⟨k, rfl, by omega, h2⟩
  obtain ⟨k, e, h1, h2⟩ := key 64 3 (Nat.lt_of_lt_of_le hn (by decide)) (by omega)
  have e' : SetTable.sizeAbove n = 2 ^ k := e
  exact ⟨k, e', by rw [e']; exact h1, by rw [e']; exact h2⟩
end DL
set_option Elab.async false
set_option linter.all false
set_option maxRecDepth 100000
set_option maxHeartbeats 4000000
namespace DL
open PySem PySem.Spec PyProof.Rows L2
structure SetP (w : World) (h : Heap) (a : Addr) (es : Array (Int × Value)) (ep : Nat) (t : SetTable) : Prop where
  ob : ∃ o, h.get? a = some o ∧ o.ExactSet ∧ o.data = .set es ep t
  good : ∀ e ∈ es.toList, GoodE e
  nd : (es.toList.map keyOf).Nodup
  few : es.size < scanBound
  fits : t.fits es.size = true
  ris : Ris t.place.toList
  led : w.params.followText "set-order" = true ∨ t.led = true
def MemS (S : Int → Bool) (es : Array (Int × Value)) : Prop := ∀ k, S k = true ↔ k ∈ es.toList.map keyOf
section
variable {P : Program} {w : World} {A : Around} {E : Value → Shared → Prop} {s : Shared} {h h' : Heap} {a b : Addr} {S T : Int → Bool} {n : Nat} {es eo : Array (Int × Value)} {ep : Nat} {t : SetTable}
theorem setP_of (R : SetR w h a S n) : ∃ es ep t, SetP w h a es ep t ∧ MemS S es ∧ es.size = n := by
  obtain ⟨o, es, ep, t, ho, hex, hd, g, nd, hm, hb, hf, hn, hr, hl⟩ := R
  exact ⟨es, ep, t, ⟨⟨o, ho, hex, hd⟩, g, nd, hb, hf, hr, hl⟩, hm, hn⟩
theorem SetP.to (p : SetP w h a es ep t) (m : MemS S es) : SetR w h a S es.size := by
  obtain ⟨o, ho, hex, hd⟩ := p.ob
  exact ⟨o, es, ep, t, ho, hex, hd, p.good, p.nd, m, p.few, p.fits, rfl, p.ris, p.led⟩
theorem SetP.at (p : SetP w h a es ep t) (k : ∀ o, h.get? a = some o → h'.get? a = some o) : SetP w h' a es ep t := by
  obtain ⟨o, ho, hex, hd⟩ := p.ob
  exact ⟨⟨o, k o ho, hex, hd⟩, p.good, p.nd, p.few, p.fits, p.ris, p.led⟩
theorem SetP.lt (p : SetP w h a es ep t) : a < h.objs.size := by
  obtain ⟨o, ho, _⟩ := p.ob
  exact Heap.lt_size ho
theorem SetP.state (p : SetP w s.heap a es ep t) {Q : (Array (Int × Value) × Nat × SetTable) → Shared → Prop} (q : Q (es, ep, t) s) : wpAny (model P w) A (setState a) Q E s := by
  obtain ⟨o, ho, hex, hd⟩ := p.ob
  exact wpAny_setState_of ho hd p.fits q
theorem SetP.epoch (p : SetP w s.heap a es ep t) {Q : Nat → Shared → Prop} (q : Q ep s) : wpAny (model P w) A (setEpoch a) Q E s := by
  obtain ⟨o, ho, hex, hd⟩ := p.ob
  exact wpAny_setEpoch_of ho hd p.fits q
theorem SetP.entries (p : SetP w s.heap a es ep t) {Q : Array (Int × Value) → Shared → Prop} (q : Q es s) : wpAny (model P w) A (setEntries a) Q E s := by
  obtain ⟨o, ho, hex, hd⟩ := p.ob
  exact wpAny_setEntries_of ho hd p.fits q
theorem SetP.typeIs (p : SetP w s.heap a es ep t) : s.TypeIs (.ref a) "set" := by
  obtain ⟨o, ho, hex, hd⟩ := p.ob
  exact ⟨o, ho, hex.1⟩
/-- another table and order, stored -/
theorem SetP.store (p : SetP w s.heap a es ep t) {es' : Array (Int × Value)} {t' : SetTable} (g : ∀ e ∈ es'.toList, GoodE e) (nd : (es'.toList.map keyOf).Nodup) (few : es'.size < scanBound) (hf : t'.fits es'.size = true)
    (hr : Ris t'.place.toList) (hl : w.params.followText "set-order" = true ∨ t'.led = true) {Q : Unit → Shared → Prop} (q : ∀ h', Heap.SameBut a s.heap h' → SetP w h' a es' (ep + 1) t' → Q () { s with heap := h' }) :
    wpAny (model P w) A (storeSet a es' t') Q E s := by
  obtain ⟨o, ho, hex, hd⟩ := p.ob
  exact wpAny_storeSet_of ho hd (q _ (Heap.SameBut.update s.heap a _) ⟨⟨_, store_at ho hd, hex, rfl⟩, g, nd, few, hf, hr, hl⟩) (fits_of_scanBound few)
theorem SetP.room (p : SetP w h a es ep t) : es.size ≤ t.fill ∧ t.fill ≤ t.mask ∧ t.place.size = es.size := by
  have h := p.fits
  unfold SetTable.fits at h
  rw [Bool.and_eq_true, beq_iff_eq, decide_eq_true_eq] at h
  unfold SetTable.fill at h ⊢
  omega
/-- the table laid anew -/
theorem relay_any (p : SetP w s.heap a es ep t) {wanted : Nat} (hw : wanted < 1000000) (hn : es.size ≤ wanted) {Q : Unit → Shared → Prop}
    (q : ∀ h' es' t', Heap.SameBut a s.heap h' → SetP w h' a es' (ep + 1) t' → es'.toList.Perm es.toList → MaskG t'.mask → wanted ≤ t'.mask → t'.dummies = #[] → Q () { s with heap := h' }) : wpAny (model P w) A (setRelay a wanted) Q E s := by
  obtain ⟨k, e1, e2, e3⟩ := sizeAbove_ok wanted (Nat.lt_of_lt_of_le hw (by decide))
  have hM : MaskG (SetTable.sizeAbove wanted - 1) := ⟨k, by omega⟩
  obtain ⟨t', order, el, pm, r, f, em, ld, dm⟩ := laid_any t.finger (t.movedTo (SetTable.sizeAbove wanted - 1)) t.led t.plain hM (hs := es.map (·.1)) (by rw [Array.size_map]; omega)
  rw [Array.size_map] at pm f
  have po := order_perm es pm
  have sz : (order.filterMap (es[·]?)).size = es.size := by rw [← Array.length_toList, po.length_eq, Array.length_toList]
  have er : t.relaid (es.map (·.1)) wanted = some (t', order) := el
  rw [setRelay_eq]
  refine wpAny_bind (p.state ?_)
  dsimp only
  refine wp_if_neg (by rw [sizeLine_eq]; omega) ?_
  try refine wpAny_bind (wpAny_pure ?_)
  rw [er]
  dsimp only
  refine wpAny_bind ?_
  refine wp_if_neg (by rw [sz]; simp) ?_
  try refine wpAny_bind (wpAny_pure ?_)
  refine wpAny_pure ?_
  dsimp only
  refine p.store (fun e he => p.good e (po.mem_iff.mp he)) ((po.map keyOf).nodup_iff.mpr p.nd) (by rw [sz]; exact p.few) (by rw [sz]; exact f) r (p.led.imp id fun z => by rw [ld]; exact z) fun h' sb p' => ?_
  exact q h' _ t' sb p' po (by rw [em]; exact hM) (by rw [em]; omega) dm
theorem roomFor_any (p : SetP w s.heap a es ep t) {more : Nat} (hm : more < 4096) {Q : Unit → Shared → Prop}
    (q : ∀ h' es' ep' t', Heap.SameBut a s.heap h' → SetP w h' a es' ep' t' → es'.toList.Perm es.toList → (MaskG t.mask → MaskG t'.mask) → es.size + more ≤ t'.mask → (t.dummies = #[] → t'.dummies = #[]) → Q () { s with heap := h' }) : wpAny (model P w) A (setRoomFor a more) Q E s := by
  have hr := p.room
  have hf := p.few
  unfold scanBound at hf
  unfold setRoomFor
  refine wpAny_bind (p.state ?_)
  unfold SetTable.roomFor
  dsimp only
  by_cases c : (t.fill + more) * 5 ≥ t.mask * 3
  · rw [if_pos c]
    dsimp only
    refine relay_any p (by omega) (by omega) fun h' es' t' sb p' pm mg wm dm => ?_
    exact q h' es' _ t' sb p' pm (fun _ => mg) (by omega) fun _ => dm
  · rw [if_neg c]
    refine wpAny_pure ?_
    exact q s.heap es ep t (Heap.SameBut.refl a s.heap) p (.refl _) id (by omega) id
theorem setMerge_eq (s o : Addr) (each : Sem Unit) : setMerge s o each = (do
    if s == o then return
    let (eo, epoch, to) ← setState o
    if eo.isEmpty then return
    setRoomFor s eo.size
    let (_, _, ts) ← setState s
    match ts.road to with
    | .slotForSlot => storeSet s eo { to with finger := ts.finger, led := ts.led && to.led, moves := ts.moves, plain := ts.plain && to.plain }
    | .clean =>
      let (es, t) ← (do
        let some (t, order) := SetTable.laid ts.mask ts.finger ts.moves (led := ts.led && to.led) (plain := ts.plain && to.plain) (eo.map (·.1)) | unsupported "internal:set-table-without-room"
        let es' := order.filterMap (eo[·]?)
        if es'.size != eo.size then unsupported "internal:set-table-lost-an-element"
        pure (es', t) : Sem (Array (Int × Value) × SetTable))
      storeSet s es t
    | .oneByOne =>
      for (h, x) in ← setWalkUnseen o [s] (some s) do
        let _ ← holding [x] (setAddHashed s x h)
        each
        if (← setState o).2.1 != epoch then unsupported "set.changed-during-merge") := by rfl
variable {epo : Nat} {to : SetTable}
theorem SetP.keepBut (p : SetP w h b eo epo to) (sb : Heap.SameBut a h h') (hne : b ≠ a) : SetP w h' b eo epo to := p.at fun o e => (sb.2 b hne).trans e
/-- merged into an empty set -/
theorem merge_fresh {each : Sem Unit} (p : SetP w s.heap a #[] ep t) (dm : t.dummies = #[]) (mg : MaskG t.mask) (po : SetP w s.heap b eo epo to) (hne : b ≠ a) {Q : Unit → Shared → Prop}
    (q : ∀ h' es' ep' t', Heap.SameBut a s.heap h' → SetP w h' a es' ep' t' → es'.toList.Perm eo.toList → Q () { s with heap := h' }) : wpAny (model P w) A (setMerge a b each) Q E s := by
  rw [setMerge_eq]
  refine wp_if_neg (by simpa using Ne.symm hne) ?_
  try refine wpAny_bind (wpAny_pure ?_)
  refine wpAny_bind (po.state ?_)
  dsimp only
  have hfo := po.few
  unfold scanBound at hfo
  by_cases c : eo.isEmpty = true
  · refine wp_if_pos c (wpAny_pure ?_)
    have : eo = #[] := by simpa using c
    subst this
    exact q s.heap _ ep t (Heap.SameBut.refl a s.heap) p (.refl _)
  refine wp_if_neg c ?_
  try refine wpAny_bind (wpAny_pure ?_)
  refine wpAny_bind (roomFor_any p hfo fun h1 es1 ep1 t1 sb p1 pm m1 rm dm1 => ?_)
  have e1 : es1 = #[] := by
    have := pm.length_eq
    simpa using this
  subst e1
  have mg1 := m1 mg
  have dm1 := dm1 dm
  have po1 := po.keepBut sb hne
  refine wpAny_bind (p1.state ?_)
  dsimp only
  have fill0 : t1.fill = 0 := by
    have h3 : t1.place.size = 0 := p1.room.2.2
    unfold SetTable.fill
    rw [dm1, h3] <;> rfl
  unfold SetTable.road
  rw [if_neg (by rw [fill0]; simp)]
  have led1 : w.params.followText "set-order" = true ∨ (t1.led && to.led) = true := by
    rcases p1.led with z | z
    · exact .inl z
    · rcases po.led with y | y
      · exact .inl y
      · exact .inr (by rw [z, y] <;> rfl)
  by_cases c2 : (t1.mask == to.mask && to.dummies.isEmpty) = true
  · rw [if_pos c2]
    dsimp only
    refine p1.store (s := { s with heap := h1 }) (t' := { to with finger := t1.finger, led := t1.led && to.led, moves := t1.moves, plain := t1.plain && to.plain }) po.good po.nd po.few (by have := po.fits; exact this) po.ris led1 fun h' sb' p' => ?_
    exact q h' _ _ _ (sb.trans sb') p' (.refl _)
  · rw [if_neg c2]
    dsimp only
    obtain ⟨t', order, el, pm2, r, f, em, ld, dm⟩ := laid_any t1.finger t1.moves (t1.led && to.led) (t1.plain && to.plain) mg1 (hs := eo.map (·.1)) (by rw [Array.size_map]; simp at rm; omega)
    rw [Array.size_map] at pm2 f
    have pe := order_perm eo pm2
    have sz : (order.filterMap (eo[·]?)).size = eo.size := by rw [← Array.length_toList, pe.length_eq, Array.length_toList]
    rw [el]
    dsimp only
    refine wpAny_bind ?_
    refine wp_if_neg (by rw [sz]; simp) ?_
    try refine wpAny_bind (wpAny_pure ?_)
    refine wpAny_pure ?_
    dsimp only
    refine p1.store (s := { s with heap := h1 }) (fun e he => po.good e (pe.mem_iff.mp he)) ((pe.map keyOf).nodup_iff.mpr po.nd) (by rw [sz]; exact po.few) (by rw [sz]; exact f) r (led1.imp id fun z => by rw [ld]; exact z) fun h' sb' p' => ?_
    exact q h' _ _ _ (sb.trans sb') p' pe
end
end DL
set_option Elab.async false
set_option linter.all false
set_option maxRecDepth 100000
set_option maxHeartbeats 4000000
namespace DL
open PySem PySem.Spec PyProof.Rows L2
section
variable {P : Program} {w : World} {A : Around} {E : Value → Shared → Prop} {s : Shared} {h h' : Heap} {a b : Addr} {S T : Int → Bool} {n : Nat} {es eo : Array (Int × Value)} {ep epo : Nat} {t to : SetTable}
/-- the members, in some order -/
theorem walk_any (p : SetP w s.heap a es ep t) {Q : Array (Int × Value) → Shared → Prop} (q : ∀ (xs : Array (Int × Value)) d, xs.toList.Perm es.toList → Q xs { s with drawn := d }) : wpAny (model P w) A (setWalk a) Q E s := by
  have q0 : ∀ xs : Array (Int × Value), xs.toList.Perm es.toList → Q xs s := fun xs h => q xs s.drawn h
  unfold setWalk
  refine wpAny_bind (p.state ?_)
  dsimp only
  refine wpAny_bind (wpAny_byText ?_)
  cases hb : w.params.followText "set-order" with
  | true =>
    refine wp_if_pos rfl ?_
    first | exact wpAny_bind (wpAny_askSetting (wpAny_pure (q0 _ (pick_perm _ _)))) | exact wpAny_bind (wpAny_askSetting (wpAny_pure (wpAny_pure (q0 _ (pick_perm _ _)))))
  | false =>
    have hled : t.led = true := p.led.resolve_left (by rw [hb]; exact Bool.false_ne_true)
    refine wp_if_neg (by simp) ?_
    try refine wpAny_bind (wpAny_pure ?_)
    by_cases hdr : (!t.plain && decide (es.size > 1)) = true
    · refine wp_if_pos (by exact hdr) ?_
      refine wpAny_bind (drawOrder_at _ _ _ _ (Nat.le_of_eq Array.length_toList) fun ys d hp => ?_)
      exact wpAny_pure (q _ d (by simpa using hp))
    · refine wp_if_neg (by exact hdr) ?_
      try refine wpAny_bind (wpAny_pure ?_)
      refine wpAny_bind (wpAny_of_eq (a := ()) ?_ ?_)
      · show (if (!t.led && decide (es.size > 1)) = true then unsupported "set:maker-not-led" else pure ()) = pure ()
        rw [hled] <;> rfl
      · exact wpAny_pure (q0 _ (.refl _))
theorem quiet_any {sets : List Addr} (hs : ∀ x ∈ sets, ∃ es ep t, SetP w s.heap x es ep t) {Q : Bool → Shared → Prop} (q : Q true s) : wpAny (model P w) A (setsQuiet sets) Q E s := by
  unfold setsQuiet
  refine wpAny_bind (wpAny_forIn_list _ (fun rest r s' => r.fst = none ∧ s' = s ∧ ∀ x ∈ rest, ∃ es ep t, SetP w s.heap x es ep t) _ ?_ ?_ _ _ ⟨rfl, rfl, hs⟩)
  · rintro x rest r s' ⟨hr, rfl, hx⟩
    obtain ⟨es, ep, t, p⟩ := hx x List.mem_cons_self
    refine wpAny_bind (p.entries ?_)
    refine wpAny_bind (wpAny_forIn_array' _ (fun rest' r s'' => r.fst = none ∧ s'' = s' ∧ ∀ e ∈ rest', GoodE e) _ ?_ ?_ _ _ ⟨rfl, rfl, p.good⟩)
    · rintro ⟨h1, x1⟩ rest' r' s'' ⟨hr', rfl, hg⟩
      obtain ⟨k, tk, e1, _⟩ := hg _ List.mem_cons_self
      have e1' : x1 = .int k tk := e1
      subst e1'
      try dsimp only
      first
        | exact wpAny_pure ⟨rfl, rfl, fun e he => hg e (List.mem_cons_of_mem _ he)⟩
        | exact wpAny_bind (wpAny_pure (wpAny_pure ⟨rfl, rfl, fun e he => hg e (List.mem_cons_of_mem _ he)⟩))
    · rintro r' s'' ⟨hr', rfl, _⟩
      obtain ⟨r1, r2⟩ := r'
      have hr1 : r1 = none := hr'
      subst hr1
      dsimp only
      exact wpAny_pure ⟨rfl, rfl, fun x hx' => hx x (List.mem_cons_of_mem _ hx')⟩
  · rintro r s' ⟨hr, rfl, _⟩
    obtain ⟨r1, r2⟩ := r
    have hr1 : r1 = none := hr
    subst hr1
    dsimp only
    exact wpAny_pure q
/-- b's members, to be put into a -/
theorem unseen_any (p : SetP w s.heap b eo epo to) (pa : SetP w s.heap a es ep t) (hne : b ≠ a) {Q : Array (Int × Value) → Shared → Prop}
    (q : ∀ (xs : Array (Int × Value)) d h' ep' t', xs.toList.Perm eo.toList → Heap.SameBut a s.heap h' → SetP w h' a es ep' t' → Q xs { s with heap := h', drawn := d }) : wpAny (model P w) A (setWalkUnseen b [a] (some a)) Q E s := by
  have q0 : ∀ (xs : Array (Int × Value)) d, xs.toList.Perm eo.toList → Q xs { s with drawn := d } := fun xs d h => q xs d s.heap ep t h (Heap.SameBut.refl a s.heap) pa
  unfold setWalkUnseen
  refine wpAny_bind (p.state ?_)
  dsimp only
  refine wpAny_bind (wpAny_byText ?_)
  by_cases c : (w.params.followText "set-order" || (to.led && to.plain) || decide (eo.size ≤ 1)) = true
  · refine wp_if_pos (by exact c) ?_
    first | exact walk_any p q0 | exact wpAny_bind (walk_any p fun xs d h => wpAny_pure (q0 xs d h))
  · refine wp_if_neg (by exact c) ?_
    try refine wpAny_bind (wpAny_pure ?_)
    refine wpAny_bind (quiet_any (fun x hx => ?_) ?_)
    · rcases List.mem_cons.mp hx with e | e
      · exact ⟨_, _, _, e ▸ p⟩
      · exact ⟨_, _, _, (List.mem_singleton.mp e) ▸ pa⟩
    refine wp_if_neg (by simp) ?_
    try refine wpAny_bind (wpAny_pure ?_)
    refine wpAny_bind (wpAny_rule ?_)
    have hnt : w.params.followText "set-order" = false := by
      cases z : w.params.followText "set-order" with
      | false => rfl
      | true => rw [z] at c; exact absurd (by simp) c
    have hl : to.led = true := p.led.resolve_left (by rw [hnt]; exact Bool.false_ne_true)
    refine wpAny_bind (pa.state ?_)
    dsimp only
    split
    · refine wpAny_bind (pa.store (t' := { t with led := t.led && to.led, plain := t.plain && to.plain }) pa.good pa.nd pa.few pa.fits pa.ris (pa.led.imp id fun z => by show (t.led && to.led) = true; rw [z, hl] <;> rfl) fun h' sb p' => ?_)
      exact wpAny_pure (q eo s.drawn h' _ _ (.refl _) sb p')
    · first | exact wpAny_pure (q0 eo s.drawn (.refl _)) | exact wpAny_bind (wpAny_pure (wpAny_pure (q0 eo s.drawn (.refl _))))
/-- merged into a set that is not empty: one by one -/
theorem merge_into {each : Sem Unit} (pa : SetP w s.heap a es ep t) (ma : MemS S es) (h0 : 0 < es.size) (po : SetP w s.heap b eo epo to) (mo : MemS T eo) (hne : b ≠ a) (room : es.size + eo.size + 1 < scanBound)
    (he : ∀ (s1 : Shared) (Q : Unit → Shared → Prop), SetP w s1.heap b eo epo to → Q () s1 → wpAny (model P w) A each Q E s1) {Q : Unit → Shared → Prop}
    (q : ∀ h' d n', Heap.SameBut a s.heap h' → SetR w h' a (fun k => S k || T k) n' → Q () { s with heap := h', drawn := d }) : wpAny (model P w) A (setMerge a b each) Q E s := by
  rw [setMerge_eq]
  refine wp_if_neg (by simpa using Ne.symm hne) ?_
  try refine wpAny_bind (wpAny_pure ?_)
  refine wpAny_bind (po.state ?_)
  dsimp only
  have hfo := po.few
  unfold scanBound at hfo
  by_cases c : eo.isEmpty = true
  · refine wp_if_pos c (wpAny_pure ?_)
    have : eo = #[] := by simpa using c
    subst this
    have eT : ∀ k, T k = false := fun k => by
      cases z : T k with
      | false => rfl
      | true =>
        have := (mo k).1 z
        simp at this
    exact q s.heap s.drawn _ (Heap.SameBut.refl a s.heap) ((pa.to ma).congr fun k => by rw [eT k, Bool.or_false])
  refine wp_if_neg c ?_
  try refine wpAny_bind (wpAny_pure ?_)
  refine wpAny_bind (roomFor_any pa hfo fun h1 es1 ep1 t1 sb p1 pm m1 rm dm1 => ?_)
  have ma1 : MemS S es1 := fun k => (ma k).trans (pm.map keyOf).mem_iff.symm
  have sz1 : es1.size = es.size := by rw [← Array.length_toList, pm.length_eq, Array.length_toList]
  have po1 := po.keepBut sb hne
  refine wpAny_bind (p1.state ?_)
  dsimp only
  have fill0 : t1.fill ≠ 0 := by
    have := p1.room.1
    omega
  unfold SetTable.road
  rw [if_pos (by simpa using fill0)]
  dsimp only
  refine wpAny_bind (unseen_any (s := { s with heap := h1 }) po1 p1 hne fun xs d h2 ep2 t2 px sb2 p2 => ?_)
  have po2 := po1.keepBut sb2 hne
  refine wpAny_bind (wpAny_forIn_array' _ (fun rest _ s' => ∃ done h' d n', xs.toList = done ++ rest ∧ s' = { s with heap := h', drawn := d } ∧ Heap.SameBut a s.heap h' ∧ SetP w h' b eo epo to ∧ n' ≤ es.size + done.length ∧
    SetR w h' a (fun k => S k || decide (k ∈ done.map keyOf)) n') _ ?_ ?_ _ _ ⟨[], h2, d, es1.size, rfl, rfl, sb.trans sb2, po2, by simp [sz1], (p2.to ma1).congr fun k => by simp⟩)
  · rintro ⟨hh, x⟩ rest r s' ⟨done, h', d', n', ex, rfl, sb', po', hn, R⟩
    have hx : (hh, x) ∈ eo.toList := px.mem_iff.mp (by rw [ex]; simp)
    obtain ⟨k, tk, e1, e2⟩ := po.good _ hx
    have e1' : x = .int k tk := e1
    have e2' : hh = (intKind P w).hash k := e2
    subst e1'
    subst e2'
    have hlen : done.length + 1 + rest.length = eo.size := by
      have h1 := congrArg List.length ex
      have h2 := px.length_eq
      rw [List.length_append, List.length_cons] at h1
      simp only [Array.length_toList] at h1 h2
      omega
    dsimp only
    refine wpAny_bind (wpAny_holding (setR_add_hashed (s := { s with heap := h', drawn := d' }) R (by unfold scanBound at room ⊢; omega) fun h3 sb3 R3 => ?_))
    have po3 := po'.keepBut sb3 hne
    refine wpAny_bind (he _ _ po3 ?_)
    refine wpAny_bind (po3.state ?_)
    dsimp only
    refine wp_if_neg (by simp) ?_
    try refine wpAny_bind (wpAny_pure ?_)
    refine wpAny_pure ?_
    refine ⟨done ++ [((intKind P w).hash k, .int k tk)], h3, d', _, by rw [ex]; simp, rfl, sb'.trans sb3, po3, ?_, R3.congr fun j => ?_⟩
    · rw [List.length_append, List.length_singleton]
      split <;> omega
    · have : keyOf ((intKind P w).hash k, Value.int k tk) = k := rfl
      rw [List.map_append, List.map_cons, List.map_nil, this]
      rw [Bool.eq_iff_iff]
      simp only [Bool.or_eq_true, decide_eq_true_eq, List.mem_append, List.mem_singleton, or_assoc]
  · rintro r s' ⟨done, h', d', n', ex, rfl, sb', po', hn, R⟩
    rw [List.append_nil] at ex
    refine wpAny_pure (q h' d' n' sb' (R.congr fun k => ?_))
    have : T k = decide (k ∈ done.map keyOf) := by
      rw [Bool.eq_iff_iff, mo k, decide_eq_true_eq, ← ex]
      exact (px.map keyOf).mem_iff.symm
    rw [this]
def unionM (id : String) (l : Addr) (r : Value) : Sem Value := do
  let result ← Builtin.Frozenset.copyOf l
  if r != .ref l then holding [result] (Builtin.Frozenset.updateFrom id (← Builtin.Frozenset.addrOf result) r)
  return result
theorem or_eq (x y : Value) : Builtin.«frozenset.__or__» ⟨[x, y], []⟩ = (do
    let (self, other) ← Builtin.Frozenset.slot1 "__or__" ⟨[x, y], []⟩
    if !(← Builtin.Frozenset.isAnySet self <&&> Builtin.Frozenset.isAnySet other) then rule s!"frozenset.{"__or__"}.declined"; return ← ret .notImplemented
    ret (← unionM s!"frozenset.{"__or__"}" (← Builtin.Frozenset.addrOf self) other)) := by rfl
end
end DL
set_option Elab.async false
set_option linter.all false
set_option maxRecDepth 100000
set_option maxHeartbeats 4000000
namespace DL
open PySem PySem.Spec PyProof.Rows L2
section
variable {P : Program} {w : World} {A : Around} {E : Value → Shared → Prop} {s : Shared} {h h' : Heap} {a b : Addr} {S T : Int → Bool} {n k : Nat} {es eo : Array (Int × Value)} {ep epo : Nat} {t to : SetTable}
theorem entry_s_or : entryFor table "set.__or__" = some Builtin.«frozenset.__or__» :=
  entryFor_alias (id' := "frozenset.__or__") (by kernel_rfl) rfl (by decide +kernel) (by kernel_rfl)
theorem isAny_set (p : SetP w s.heap a es ep t) {Q : Bool → Shared → Prop} (q : Q true s) : wpAny (model P w) A (Builtin.Frozenset.isAnySet (.ref a)) Q E s := by
  unfold Builtin.Frozenset.isAnySet
  refine wpAny_bind (wpAny_isInstance (b := true) p.typeIs sub_set_self ?_)
  exact wpAny_pure q
/-- a new copy -/
theorem copy_any (p : SetP w s.heap a es ep t) {Q : Value → Shared → Prop}
    (q : ∀ h' es' ep' t', (∀ b o, s.heap.get? b = some o → h'.get? b = some o) → SetP w h' s.heap.objs.size es' ep' t' → es'.toList.Perm es.toList → (es.size = 0 → t'.dummies = #[] ∧ MaskG t'.mask) → Q (.ref s.heap.objs.size) { s with heap := h' }) :
    wpAny (model P w) A (Builtin.Frozenset.copyOf a) Q E s := by
  unfold Builtin.Frozenset.copyOf Builtin.Frozenset.baseOf
  refine wpAny_bind (wpAny_bind (wpAny_isInstance (b := true) p.typeIs sub_set_self ?_))
  refine wpAny_pure ?_
  simp only [if_true]
  unfold newSet setsByText
  refine wpAny_bind (wpAny_bind (wpAny_bind (wpAny_askSetting (wpAny_pure ?_))))
  dsimp only
  simp only [newObj]
  refine wpAny_bind (wpAny_alloc (wpAny_pure ?_))
  have hlt := p.lt
  have kp : ∀ b o, s.heap.get? b = some o → (s.heap.push { cls := .type "set", dict := none, data := .set #[] 0 (.fresh 0 0 (!w.params.followText "set-order")) }).get? b = some o := fun b o e => Heap.get?_push_of_some _ e
  have pf : SetP w (s.heap.push { cls := .type "set", dict := none, data := .set #[] 0 (.fresh 0 0 (!w.params.followText "set-order")) }) s.heap.objs.size #[] 0 (.fresh 0 0 (!w.params.followText "set-order")) :=
    ⟨⟨_, Heap.get?_push_size _ rfl, ⟨rfl, rfl, rfl⟩, rfl⟩, fun e he => by simp at he, by simp, by decide, by rfl, List.Pairwise.nil, by
      show _ ∨ (!w.params.followText "set-order") = true
      cases w.params.followText "set-order"
      · exact .inr rfl
      · exact .inl rfl⟩
  unfold Builtin.Frozenset.addrOf
  refine wpAny_bind (wpAny_pure ?_)
  have p1 := p.at (kp a)
  have hne : a ≠ s.heap.objs.size := Nat.ne_of_lt hlt
  by_cases c : es.size = 0
  · have e0 : es = #[] := Array.eq_empty_of_size_eq_zero c
    subst e0
    rw [setMerge_eq]
    refine wpAny_bind ?_
    refine wp_if_neg (by simpa using Ne.symm hne) ?_
    try refine wpAny_bind (wpAny_pure ?_)
    refine wpAny_bind (p1.state ?_)
    dsimp only
    refine wp_if_pos (by rfl) (wpAny_pure ?_)
    exact wpAny_pure (q _ _ _ _ kp pf (.refl _) fun _ => ⟨rfl, ⟨3, rfl⟩⟩)
  refine wpAny_bind (merge_fresh (s := { s with heap := s.heap.push { cls := .type "set", dict := none, data := .set #[] 0 (.fresh 0 0 (!w.params.followText "set-order")) } }) pf rfl ⟨3, rfl⟩ p1 hne fun h' es' ep' t' sb p' pm => ?_)
  exact wpAny_pure (q h' es' ep' t' (fun b o e => (sb.2 b (Nat.ne_of_lt (Heap.lt_size e))).trans (kp b o e)) p' pm fun z => absurd z c)
/-- what the merge is for -/
theorem each_ok {id : String} {was : Nat} (e : epo = was) (s1 : Shared) (Q : Unit → Shared → Prop) (p : SetP w s1.heap b eo epo to) (q : Q () s1) : wpAny (model P w) A (Builtin.Frozenset.unchanged id b was) Q E s1 := by
  unfold Builtin.Frozenset.unchanged
  refine wpAny_bind (p.epoch ?_)
  refine wp_if_neg (by simp [e]) ?_
  first | exact wpAny_pure q | exact wpAny_bind (wpAny_pure (wpAny_pure q))
theorem call_or (R : SetR w s.heap a S n) (R2 : SetR w s.heap b T k) (hne : b ≠ a) (room : n + k + 1 < scanBound) {Q : Value → Shared → Prop}
    (q : ∀ h' d n', (∀ b o, s.heap.get? b = some o → h'.get? b = some o) → SetR w h' s.heap.objs.size (fun i => S i || T i) n' → Q (.ref s.heap.objs.size) { s with heap := h', drawn := d }) :
    wpAny (model P w) A (call (.builtin "set.__or__") [.ref a, .ref b]) (fun v s' => v ≠ .notImplemented ∧ Q v s') E s := by
  obtain ⟨es, ep, t, p, m, z⟩ := setP_of R
  obtain ⟨eo, epo, to, po, mo, zo⟩ := setP_of R2
  refine wpAny_call_entry F.slot_set_or p.typeIs entry_s_or ?_ (F.args_set_or_2 _ _)
  rw [or_eq]
  refine wpAny_bind (m := Builtin.Frozenset.slot1 "__or__" _) (wpAny_of_eq (a := (.ref a, .ref b)) (by rfl) ?_)
  dsimp only
  refine wpAny_bind ?_
  refine wpAny_bind (isAny_set p ?_)
  refine isAny_set po ?_
  refine wp_if_neg (by simp) ?_
  try refine wpAny_bind (wpAny_pure ?_)
  unfold unionM
  refine wpAny_bind (wpAny_bind (copy_any p fun h1 es1 ep1 t1 kp1 p1 pm1 e0 => ?_))
  have hlt := p.lt
  have hltb := po.lt
  have m1 : MemS S es1 := fun j => (m j).trans (pm1.map keyOf).mem_iff.symm
  have z1 : es1.size = es.size := by rw [← Array.length_toList, pm1.length_eq, Array.length_toList]
  have po1 := po.at (kp1 b)
  have hnb : b ≠ s.heap.objs.size := Nat.ne_of_lt hltb
  refine wp_if_pos (by simpa using hne) ?_
  unfold Builtin.Frozenset.addrOf
  refine wpAny_bind (wpAny_pure ?_)
  have fin : ∀ h' d n', Heap.SameBut s.heap.objs.size h1 h' → SetR w h' s.heap.objs.size (fun i => S i || T i) n' → Q (.ref s.heap.objs.size) { s with heap := h', drawn := d } := fun h' d n' sb R' =>
    q h' d n' (fun c o e => (sb.2 c (Nat.ne_of_lt (Heap.lt_size e))).trans (kp1 c o e)) R'
  refine wpAny_bind (wpAny_holding ?_)
  unfold Builtin.Frozenset.updateFrom
  refine wpAny_bind (isAny_set (s := { s with heap := h1 }) po1 ?_)
  refine wp_if_pos rfl ?_
  unfold Builtin.Frozenset.addrOf
  first | refine wpAny_bind (wpAny_pure ?_) | refine wpAny_bind (wpAny_bind (wpAny_pure ?_))
  unfold Builtin.Frozenset.merge
  refine wpAny_bind (po1.epoch (s := { s with heap := h1 }) ?_)
  by_cases c : es.size = 0
  · obtain ⟨dm, mg⟩ := e0 c
    have e1 : es1 = #[] := Array.eq_empty_of_size_eq_zero (by omega)
    subst e1
    have hS : ∀ j, S j = false := fun j => by
      cases y : S j with
      | false => rfl
      | true =>
        have := (m1 j).1 y
        simp at this
    refine merge_fresh (s := { s with heap := h1 }) p1 dm mg po1 hnb fun h2 es2 ep2 t2 sb2 p2 pm2 => ?_
    have R' : SetR w h2 s.heap.objs.size (fun i => S i || T i) es2.size := p2.to fun j => by
      rw [hS j, Bool.false_or, mo j]
      exact (pm2.map keyOf).mem_iff.symm
    refine wpAny_pure ?_
    show wpAny _ _ (ret _) _ _ _
    exact wpAny_pure ⟨_, rfl, fun y => Value.noConfusion y, fin h2 s.drawn _ sb2 R'⟩
  · refine merge_into (s := { s with heap := h1 }) p1 m1 (by omega) po1 mo hnb (by unfold scanBound at *; omega) (fun s1 Q' p' q' => each_ok rfl s1 Q' p' q') fun h2 d n' sb2 R' => ?_
    refine wpAny_pure ?_
    show wpAny _ _ (ret _) _ _ _
    exact wpAny_pure ⟨_, rfl, fun y => Value.noConfusion y, fin h2 d n' sb2 R'⟩
end
section
variable {X : Cx}
def rSetOr (w : World) : V → V → Hp → VK → Prop := fun x y H Q => ∃ (a b : Addr) (ns ms : List Int), x = .ref a ∧ y = .ref b ∧ a ≠ b ∧ ns.length + ms.length < 4000 ∧ H a = some (SetO w a (fun j => decide (j ∈ ns)) (ded ns).length) ∧ H b = some (SetO w b (fun j => decide (j ∈ ms)) (ded ms).length) ∧
  ∀ p, H p = none → Q (.ref p) (upd H p (SetO w p (fun j => decide (j ∈ ns ++ ms)) (ded (ns ++ ms)).length))
theorem or_setor : OpR X (binaryOp .BitOr) (rSetOr X.w) := by
  intro pins s σ H x y v u Q I rx ry ⟨a, b, ns, ms, ex, ey, hne, hz, ha, hb, q⟩
  subst ex ey
  cases rx
  cases ry
  have R := setO_get I ha
  have R2 := setO_get I hb
  have l1 := ded_len ns
  have l2 := ded_len ms
  obtain ⟨es, ep, t, p, _, _⟩ := setP_of R
  obtain ⟨eo, epo, to, po, _, _⟩ := setP_of R2
  refine wpAny_binaryOp_same p.typeIs po.typeIs F.fills_set_or F.slot_set_or (call_or R R2 (Ne.symm hne) (by unfold scanBound; omega) fun h' d n' kp R' => ?_)
  have R3 : SetR X.w h' s.heap.objs.size (fun j => decide (j ∈ ns ++ ms)) n' := R'.congr fun j => by simp [Bool.decide_or]
  have hn : H s.heap.objs.size = none := I.hok.fresh (Nat.le_refl _)
  have ob := setO_new (P := X.prog) (H := upd H s.heap.objs.size (SetO X.w s.heap.objs.size (fun j => decide (j ∈ ns ++ ms)) n')) R3
  have J : Inv X pins σ (upd H s.heap.objs.size (SetO X.w s.heap.objs.size (fun j => decide (j ∈ ns ++ ms)) n')) { s with heap := h', drawn := d } :=
    I.call (ch := []) (Un.laid kp (Nat.le_refl _) hn) (I.hok.laid kp (Nat.le_refl _) (setO_new R3)) I.bare (fun _ z => nomatch z)
  have e := setR_count R3
  subst e
  exact ⟨.ref _, _, J, rfl, q _ hn⟩
end
end DL
set_option Elab.async false
set_option linter.all false
set_option maxRecDepth 100000
set_option maxHeartbeats 4000000
namespace DL
local macro_rules | `(tactic| walk_at "w1") => `(tactic| with_reducible first
  | (refine ws_then ?_; try with_reducible dsimp only [List.set_cons_zero, List.set_cons_succ]) | refine ws_seq ?_ | refine ws_asg ?_ | refine ws_expr ?_ | refine ws_ret ?_ | refine ws_if ?_ | refine ws_asgT ?_ | refine ws_setIx ?_ | refine ws_skip ?_ | refine ws_retN ?_ | refine ws_brk ?_ | refine ws_cont ?_ | refine ws_thenR ?_ | refine ws_thenB ?_ | refine ws_thenC ?_ | refine fq_rt ?_ | refine fq_nx ?_ | refine un_nx ?_ | refine un_ct ?_ | refine un_bk ?_ | refine un_rt ?_ | refine ws_loopN ?_
  | (refine ws_loopC (ρ1 := ?r) ?h ?q; (case h => with_unfolding_all rfl); try with_reducible dsimp only [List.set_cons_zero, List.set_cons_succ])
  | refine wp_c ?_ | refine wp_op2 ?_ | refine wp_fn ?_ | refine wp_cons ?_ | refine wp_nil ?_ | refine wp_call ?_ | refine wp_op1 ?_
  | (refine wp_var (d := ?d) ?h ?q; (case h => with_unfolding_all rfl))
  | (refine ws_aug (d := ?d) ?h ?q; (case h => with_unfolding_all rfl))
  | refine wp_tup ?_ | refine wp_lst ?_ | refine wp_lstM ?_ | refine wp_listM ?_
  | refine wp_sl0 ?_ | refine wp_sl1 ?_ | refine wp_sl2 ?_ | refine wp_sl3 ?_
  | refine wp_tval ?_ | refine wp_tnot ?_ | refine wp_tand ?_ | refine wp_tor ?_ | refine wp_tyes ?_ | refine wp_and ?_ | refine wp_or ?_ | refine wp_not ?_ | refine wp_ifx ?_ | refine wp_chain ?_ | refine wp_meth ?_ | refine wp_meth0 ?_
  | refine wp_isi ?_ | refine wp_isis ?_ | refine wp_repr ?_ | refine wp_maxD ?_ | refine wi_rng3 ?_
  | refine wi_seq ?_ | refine wi_rng1 ?_ | refine wi_rng2 ?_ | refine wi_zip2 ?_ | refine wi_zipS ?_
  | (refine wp_fnB (ρ := ?ρ) ?he ?_; (case he => (simp only [List.map_cons, List.map_nil, List.length_cons, List.length_nil, List.replicate, List.cons_append, List.nil_append, Nat.reduceAdd, Nat.reduceSub]; rfl))))
local macro_rules | `(tactic| walk_at "w2") => `(tactic| ((with_reducible refine wo_id ?_); with_reducible first
  | refine vo_sub ?_ | refine vo_add ?_ | refine vo_lt ?_ | refine vo_le ?_ | refine vo_gt ?_ | refine vo_ge ?_ | refine vo_eq ?_ | refine vo_ne ?_ | refine vo_eqS ?_ | refine vo_neS ?_ | refine vo_eqB ?_ | refine vo_neB ?_ | refine vo_neg ?_ | refine vo_slT ?_ | refine vo_slL ?_ | refine vo_slS ?_ | refine vo_lenT ?_ | refine vo_lenL ?_ | refine vo_lenS ?_ | refine vo_revT ?_ | refine vo_revL ?_ | refine vo_min ?_ | refine vo_max ?_ | refine vo_tupL ?_ | refine vo_tupT ?_ | refine vo_lisL ?_ | refine vo_lisT ?_
  | refine vo_igAdd ?_ | refine vo_igMulR (by omega) ?_ | refine vo_igMulL (by omega) ?_ | refine vo_mod (by omega) ?_ | refine vo_div (by omega) ?_ | refine vo_mulR (by omega) ?_ | refine vo_mulL (by omega) ?_
  | refine vo_ixL0 ?_ | refine vo_ixL1 ?_ | refine vo_ixL2 ?_ | refine vo_ixL3 ?_ | refine vo_ixL4 ?_ | refine vo_ixL5 ?_ | refine vo_ixL6 ?_ | refine vo_ixT0 ?_ | refine vo_ixT1 ?_ | refine vo_ixT2 ?_ | refine vo_ixT3 ?_ | refine vo_ixT4 ?_ | refine vo_ixT5 ?_ | refine vo_ixT6 ?_
  | refine wo_vw1 (by assumption) ?_ | refine wo_vw2 (by assumption) ?_ | refine vo_vwc (by assumption) ?_
  | (refine vo_isi (c := ?c) ?h ?q; (case h => with_unfolding_all rfl)) | (refine vo_isis (c := ?c) ?h ?q; (case h => with_unfolding_all rfl))))
local macro_rules | `(tactic| walk_at "w3") => `(tactic| first
  | with_reducible refine ite_f ?_ | with_reducible refine ite_nt ?_ | with_reducible refine ite_nf ?_ | with_reducible refine ite_t ?_
  | ((with_reducible refine ex_id ?_); refine ⟨_, rfl, ?_⟩) | ((with_reducible refine and_id ?_); refine ⟨Nat.le_of_ble_eq_true rfl, ?_⟩))
local macro_rules | `(tactic| walk_at "w") => `(tactic| repeat (first | walk_at "w1" | walk_at "w2" | walk_at "w3"))
open PySem PySem.Spec PyProof.Rows L2
def eSortUn (fa fb : Ex) : Ex := fun ρ S => (fa ρ S).bind fun d S => match sqI (view S d) with
  | some ns => if ns.length < 2000 then ((fb ρ S).nox).bind fun d2 S2 => match sqI (view S2 d2) with
    | some ms => if ms.length < 2000 then .ok (D.lst ((suI (ns ++ ms)).map D.int)) S2 else .bad
    | none => .bad
    else .bad
  | none => .bad
section
variable {X : Cx} {W : WX} {ea eb : Expr} {fa fb : Ex} {p p2 p3 p4 q q3 pos : Pos}
theorem sq_main {K : PySem.W.Frag} {mg : Str → Option Value} {H : Hp} {B : Addr → Prop} {m : List Addr} {S : Sto} {x : V} {d : D} {ns : List Int} (r : Rl K mg B m H S) (rx : Rep K H (Fo B m S) m x d) (e0 : sqI (view S d) = some ns) :
    ∃ a, x = .ref a ∧ (SqL K H a (ns.map V.int) ∨ SqT K H a (ns.map V.int)) := by
  have vx := vw r rx
  generalize view S d = dd at e0 vx
  cases dd with
  | lst xs =>
    obtain ⟨a, vs, rfl, h1, z1, q1⟩ := vx.asL
    have hvs := asIs_vals (show asIs xs = some ns from e0) q1
    subst hvs
    exact ⟨a, rfl, .inl (SqL.of h1)⟩
  | tup xs =>
    obtain ⟨a, vs, rfl, h1, z1, q1⟩ := vx.asT
    have hvs := asIs_vals (show asIs xs = some ns from e0) q1
    subst hvs
    exact ⟨a, rfl, .inr h1⟩
  | _ => cases e0
theorem ev_sortUn (hc : X.calm = true) (hg : Gl X "sorted") (hm : X.mg "sorted" = none) (hg2 : Gl X "set") (hm2 : X.mg "set" = none) (ha : EV X W ea fa) (hb : EV X W eb fb) (hv : bootBuiltins "sorted" = some (.builtin "sorted") := by decide +kernel) (hv2 : bootBuiltins "set" = some (.type "set") := by decide +kernel)
    (na : starEach [ea] X.env = (false, eval ea X.env) :: starEach [] X.env := by rfl) (na2 : starEach [eb] X.env = (false, eval eb X.env) :: starEach [] X.env := by rfl)
    (nb : starEach [.BinOp (.Call (.Name "set" p2) [ea] [] q) .BitOr (.Call (.Name "set" p3) [eb] [] q3) p4] X.env = (false, eval (.BinOp (.Call (.Name "set" p2) [ea] [] q) .BitOr (.Call (.Name "set" p3) [eb] [] q3) p4) X.env) :: starEach [] X.env := by rfl)
    (h1 : (backTo pos (starEach [] X.env)).any (·.1) = false := by rfl) (h2 : (backTo q (starEach [] X.env)).any (·.1) = false := by rfl) (h3 : (backTo q3 (starEach [] X.env)).any (·.1) = false := by rfl) :
    EV X W (.Call (.Name "sorted" p) [.BinOp (.Call (.Name "set" p2) [ea] [] q) .BitOr (.Call (.Name "set" p3) [eb] [] q3) p4] [] pos) (eSortUn fa fb) := by
  refine pe_imp (pe_callB (cr_sortedSetB hc) hg hm hv (pa_cons (pe_op or_setor (pe_callTy (cr_setL hc) hg2 hm2 hv2 (pa_cons ha pa_nil na) (by decide) (by decide) na h2) (pe_callTy (cr_setL hc) hg2 hm2 hv2 (pa_cons hb pa_nil na2) (by decide) (by decide) na2 h3)) pa_nil nb) (by decide) (by decide) nb h1) fun σ H Q h => ?_
  obtain ⟨B, m, ρ, S, r, re, f⟩ := up_one (g := fun d ρ S => match sqI (view S d) with
    | some ns => if ns.length < 2000 then ((fb ρ S).nox).bind fun d2 S2 => match sqI (view S2 d2) with
      | some ms => if ms.length < 2000 then .ok (D.lst ((suI (ns ++ ms)).map D.int)) S2 else .bad
      | none => .bad
      else .bad
    | none => .bad) h
  refine ⟨B, m, ρ, S, r, re, f.mono fun x H1 => ?_⟩
  rintro ⟨B, m, ρ, S, d, r, re, rx, f⟩
  cases e0 : sqI (view S d) with
  | none => rw [e0] at f; exact f.elim
  | some ns =>
    rw [e0] at f
    dsimp only at f
    split at f
    · rename_i hl
      obtain ⟨a, rfl, hsq⟩ := sq_main r rx e0
      refine ⟨a, ns, rfl, hsq, by omega, fun p0 c hp0 hcn => ?_⟩
      subst hcn
      refine ⟨BD B p0, m, ρ, S, r.aside hp0, re.kp (kp_aside hp0), ?_⟩
      rcases R.nox_ok (r := fb ρ S) (g := fun d2 S2 => match sqI (view S2 d2) with
        | some ms => if ms.length < 2000 then .ok (D.lst ((suI (ns ++ ms)).map D.int)) S2 else .bad
        | none => .bad) with ⟨d2, S2, e1, e2⟩ | e2
      · rw [e2] at f
        rw [e1]
        intro m2 H2 v2 pp rv
        cases e3 : sqI (view S2 d2) with
        | none => rw [e3] at f; exact f.elim
        | some ms =>
          rw [e3] at f
          dsimp only at f
          split at f
          · rename_i hl2
            obtain ⟨b, rfl, hsq2⟩ := sq_main pp.rl rv e3
            refine ⟨b, ms, rfl, hsq2, by omega, fun p1 c1 hp1 hcn1 => ?_⟩
            subst hcn1
            have hk0 : H2 p0 = some (SetO X.w p0 (fun j => decide (j ∈ ns)) (ded ns).length) := pp.keep _ _ upd_same fun z => (r.aside (o := SetO X.w p0 (fun j => decide (j ∈ ns)) (ded ns).length) hp0).nb _ z (.inr rfl)
            have hne : p0 ≠ p1 := fun z => by rw [← z, hk0] at hp1; cases hp1
            refine ⟨p0, p1, ns, ms, rfl, rfl, hne, by omega, by rw [upd_ne hne]; exact hk0, upd_same, fun p3 hp3 => ?_⟩
            refine ⟨p3, _, _, rfl, upd_same, fun ks p4 hpw hmem hlen hle hp4 => ?_⟩
            have hms : ks = suI (ns ++ ms) := su_uniq hpw fun k => by rw [hmem, decide_eq_true_eq]
            subst hms
            have rl2 : Rl X.K X.mg B m2 H2 S2 := pp.rl.less fun a z => .inl z
            have pc : Pc m S H1 m2 S2 H2 := ((Post.refl r).pc.over hp0).trans pp.pc
            have sm : Same H2 (upd (upd (upd H2 p1 (SetO X.w p1 (fun j => decide (j ∈ ms)) (ded ms).length)) p3 (SetO X.w p3 (fun j => decide (j ∈ ns ++ ms)) (ded (ns ++ ms)).length)) p4 (.lst ((suI (ns ++ ms)).map V.int))) :=
              fun b o eb => same_upd hp4 b o (same_upd hp3 b o (same_upd hp1 b o eb))
            have hfr : H2 p4 = none := by
              cases z : H2 p4 with
              | none => rfl
              | some o => rw [same_upd hp3 _ _ (same_upd hp1 _ _ z)] at hp4; cases hp4
            refine f m2 _ _ ((post_of_pc pc rl2).trans (Post.grow rl2 sm)) (.lst upd_same (fr_of rl2 p4 hfr) ?_ (repA_ints _))
            have := su_len (ns ++ ms)
            rw [List.length_append] at this
            rw [List.length_map, sizeLine_eq]
            omega
          · exact f.elim
      · rw [e2] at f; exact f.elim
    · exact f.elim
theorem wp_sortUn {Q : D → Sto → Prop} {E : Px} {ρ : Ev} {S : Sto} {f g : Ex}
    (h : Wp (f ρ S) (fun d S1 => ∃ ns : List Int, (view S1 d = .lst (ns.map .int) ∨ view S1 d = .tup (ns.map .int)) ∧ ns.length < 2000 ∧
      Wp (g ρ S1) (fun d2 S2 => ∃ ms : List Int, (view S2 d2 = .lst (ms.map .int) ∨ view S2 d2 = .tup (ms.map .int)) ∧ ms.length < 2000 ∧ Q (.lst ((suI (ns ++ ms)).map .int)) S2) noX) E) : Wp (eSortUn f g ρ S) Q E := wp_bind (h.mono fun d S1 ⟨ns, e, hl, k⟩ => by
  have e0 : sqI (view S1 d) = some ns := by rcases e with e | e <;> rw [e] <;> exact asIs_I ns
  rw [e0]
  dsimp only
  rw [if_pos hl]
  refine wp_bind (wp_nox (k.mono fun d2 S2 ⟨ms, e2, hl2, q⟩ => ?_))
  have e3 : sqI (view S2 d2) = some ms := by rcases e2 with e | e <;> rw [e] <;> exact asIs_I ms
  rw [e3]
  dsimp only
  rw [if_pos hl2]
  exact ⟨q⟩)
end
end DL
set_option Elab.async false
set_option linter.all false
set_option maxRecDepth 100000
set_option maxHeartbeats 4000000
namespace DL
local macro_rules | `(tactic| walk_at "w1") => `(tactic| with_reducible first
  | (refine ws_then ?_; try with_reducible dsimp only [List.set_cons_zero, List.set_cons_succ]) | refine ws_seq ?_ | refine ws_asg ?_ | refine ws_expr ?_ | refine ws_ret ?_ | refine ws_if ?_ | refine ws_asgT ?_ | refine ws_setIx ?_ | refine ws_skip ?_ | refine ws_retN ?_ | refine ws_brk ?_ | refine ws_cont ?_ | refine ws_thenR ?_ | refine ws_thenB ?_ | refine ws_thenC ?_ | refine fq_rt ?_ | refine fq_nx ?_ | refine un_nx ?_ | refine un_ct ?_ | refine un_bk ?_ | refine un_rt ?_ | refine ws_loopN ?_
  | (refine ws_loopC (ρ1 := ?r) ?h ?q; (case h => with_unfolding_all rfl); try with_reducible dsimp only [List.set_cons_zero, List.set_cons_succ])
  | refine wp_c ?_ | refine wp_op2 ?_ | refine wp_fn ?_ | refine wp_cons ?_ | refine wp_nil ?_ | refine wp_call ?_ | refine wp_op1 ?_
  | (refine wp_var (d := ?d) ?h ?q; (case h => with_unfolding_all rfl))
  | (refine ws_aug (d := ?d) ?h ?q; (case h => with_unfolding_all rfl))
  | refine wp_tup ?_ | refine wp_lst ?_ | refine wp_lstM ?_ | refine wp_listM ?_
  | refine wp_sl0 ?_ | refine wp_sl1 ?_ | refine wp_sl2 ?_ | refine wp_sl3 ?_
  | refine wp_tval ?_ | refine wp_tnot ?_ | refine wp_tand ?_ | refine wp_tor ?_ | refine wp_tyes ?_ | refine wp_and ?_ | refine wp_or ?_ | refine wp_not ?_ | refine wp_ifx ?_ | refine wp_chain ?_ | refine wp_meth ?_ | refine wp_meth0 ?_
  | refine wp_isi ?_ | refine wp_isis ?_ | refine wp_repr ?_ | refine wp_maxD ?_ | refine wi_rng3 ?_
  | refine wi_seq ?_ | refine wi_rng1 ?_ | refine wi_rng2 ?_ | refine wi_zip2 ?_ | refine wi_zipS ?_
  | (refine wp_fnB (ρ := ?ρ) ?he ?_; (case he => (simp only [List.map_cons, List.map_nil, List.length_cons, List.length_nil, List.replicate, List.cons_append, List.nil_append, Nat.reduceAdd, Nat.reduceSub]; rfl))))
local macro_rules | `(tactic| walk_at "w2") => `(tactic| ((with_reducible refine wo_id ?_); with_reducible first
  | refine vo_sub ?_ | refine vo_add ?_ | refine vo_lt ?_ | refine vo_le ?_ | refine vo_gt ?_ | refine vo_ge ?_ | refine vo_eq ?_ | refine vo_ne ?_ | refine vo_eqS ?_ | refine vo_neS ?_ | refine vo_eqB ?_ | refine vo_neB ?_ | refine vo_neg ?_ | refine vo_slT ?_ | refine vo_slL ?_ | refine vo_slS ?_ | refine vo_lenT ?_ | refine vo_lenL ?_ | refine vo_lenS ?_ | refine vo_revT ?_ | refine vo_revL ?_ | refine vo_min ?_ | refine vo_max ?_ | refine vo_tupL ?_ | refine vo_tupT ?_ | refine vo_lisL ?_ | refine vo_lisT ?_
  | refine vo_igAdd ?_ | refine vo_igMulR (by omega) ?_ | refine vo_igMulL (by omega) ?_ | refine vo_mod (by omega) ?_ | refine vo_div (by omega) ?_ | refine vo_mulR (by omega) ?_ | refine vo_mulL (by omega) ?_
  | refine vo_ixL0 ?_ | refine vo_ixL1 ?_ | refine vo_ixL2 ?_ | refine vo_ixL3 ?_ | refine vo_ixL4 ?_ | refine vo_ixL5 ?_ | refine vo_ixL6 ?_ | refine vo_ixT0 ?_ | refine vo_ixT1 ?_ | refine vo_ixT2 ?_ | refine vo_ixT3 ?_ | refine vo_ixT4 ?_ | refine vo_ixT5 ?_ | refine vo_ixT6 ?_
  | refine wo_vw1 (by assumption) ?_ | refine wo_vw2 (by assumption) ?_ | refine vo_vwc (by assumption) ?_
  | (refine vo_isi (c := ?c) ?h ?q; (case h => with_unfolding_all rfl)) | (refine vo_isis (c := ?c) ?h ?q; (case h => with_unfolding_all rfl))))
local macro_rules | `(tactic| walk_at "w3") => `(tactic| first
  | with_reducible refine ite_f ?_ | with_reducible refine ite_nt ?_ | with_reducible refine ite_nf ?_ | with_reducible refine ite_t ?_
  | ((with_reducible refine ex_id ?_); refine ⟨_, rfl, ?_⟩) | ((with_reducible refine and_id ?_); refine ⟨Nat.le_of_ble_eq_true rfl, ?_⟩))
local macro_rules | `(tactic| walk_at "w") => `(tactic| repeat (first | walk_at "w1" | walk_at "w2" | walk_at "w3"))
open PySem PySem.Spec PyProof.Rows L2
mutual
def flatR : D → Bool
  | .non => true
  | .bl _ => true
  | .int _ => true
  | .str _ => true
  | .raw _ => true
  | .ref _ => true
  | .tup xs => flatRs xs
  | _ => false
def flatRs : List D → Bool
  | [] => true
  | x :: xs => flatR x && flatRs xs
end
mutual
def shR (n : Nat) : D → D
  | .ref k => .ref (n + k)
  | .tup xs => .tup (shRs n xs)
  | d => d
def shRs (n : Nat) : List D → List D
  | [] => []
  | x :: xs => shR n x :: shRs n xs
end
def newO : Option Ob → Bool
  | none => true
  | some (.lst xs) => flats xs
  | _ => false
def fnN (F : Fn) : Fn := fun ds S => if noRefs (ds.map (frz S)) = true then match F (ds.map (frz S)) [] with
  | .ok d S' => if (flatR d && S'.all newO) = true then .ok (shR S.length d) (S ++ S') else .bad
  | _ => .bad else .bad
section
variable {K : PySem.W.Frag} {mg : Str → Option Value} {H : Hp} {Fb Fb' : Addr → Prop} {m m' : List Addr}
mutual
theorem Rep.flatR {n : Nat} (hm : ∀ k a, m[k]? = some a → m'[n + k]? = some a) : ∀ {v : V} {d : D}, Rep K H Fb m v d → DL.flatR d = true → Rep K H Fb' m' v (shR n d)
  | _, _, .non, _ => .non
  | _, _, .bl b, _ => .bl b
  | _, _, .int i, _ => .int i
  | _, _, .str x, _ => .str x
  | _, _, .tup h z r, e => .tup h z (RepA.flatR hm r (by simpa [DL.flatR] using e))
  | _, _, .lst h f z r, e => by simp [DL.flatR] at e
  | _, _, .dK h z q r, e => by simp [DL.flatR] at e
  | _, _, .dT h z q r, e => by simp [DL.flatR] at e
  | _, _, .ref h, e => .ref (hm _ _ h)
  | _, _, .raw v, _ => .raw v
  | _, _, .scr h z, e => by simp [DL.flatR] at e
  | _, _, .exn h f, e => by simp [DL.flatR] at e
  | _, _, .exp h f h2 f2 n r, e => by simp [DL.flatR] at e
theorem RepA.flatR {n : Nat} (hm : ∀ k a, m[k]? = some a → m'[n + k]? = some a) : ∀ {vs : List V} {ds : List D}, RepA K H Fb m vs ds → flatRs ds = true → RepA K H Fb' m' vs (shRs n ds)
  | _, _, .nil, _ => .nil
  | _, _, .cons h r, e => .cons (Rep.flatR hm h (by simp [flatRs] at e; exact e.1)) (RepA.flatR hm r (by simp [flatRs] at e; exact e.2))
end
theorem post_new {B : Addr → Prop} {S S' : Sto} {H' : Hp} (r : Rl K mg B m H S) (p : Post K mg (fun _ => False) [] [] H m' S' H') (hS : S'.all newO = true) : Post K mg B m S H (m ++ m') (S ++ S') H' := by
  have n0 : ∀ a, ¬ Liv [] [] a := fun a ⟨n, o, e1, e2⟩ => by simp at e1
  have sm : Same H H' := fun a o e => p.keep a o e (n0 a)
  have lv : ∀ a, Liv m' S' a → H a = none := fun a h => (p.liv a h).elim (fun z => absurd z (n0 a)) id
  obtain ⟨l, el, hl⟩ := p.ext
  have el : m' = l := by simpa using el
  subst el
  have sp : ∀ a, Liv (m ++ m') (S ++ S') a → Liv m S a ∨ Liv m' S' a := fun a ⟨n, o, e1, e2⟩ => by
    rcases Nat.lt_or_ge n m.length with c | c
    · rw [List.getElem?_append_left c] at e1
      rw [List.getElem?_append_left (by rw [← r.len]; exact c)] at e2
      exact .inl ⟨n, o, e1, e2⟩
    · rw [List.getElem?_append_right c] at e1
      rw [List.getElem?_append_right (by rw [← r.len]; exact c), ← r.len] at e2
      exact .inr ⟨n - m.length, o, e1, e2⟩
  have kp : Kp H H' (Fo B m S) (Fo B (m ++ m') (S ++ S')) m (m ++ m') := by
    refine ⟨fun a xs h _ => sm _ _ h, fun a u h _ => h.elim (fun h => .inl (sm _ _ h)) fun ⟨o, h⟩ => .inr ⟨o, sm _ _ h⟩, fun a o _ h => sm _ _ h, fun a u h f z => ?_, fun n a h => ?_⟩
    · rcases z with z | z
      · exact f (.inl z)
      · rcases sp a z with z | z
        · exact f (.inr z)
        · obtain ⟨o, e⟩ := rd_some h
          rw [lv a z] at e; cases e
    · rw [List.getElem?_append_left (List.getElem?_eq_some_iff.mp h).1]; exact h
  have smm : ∀ a, H a ≠ none → H' a ≠ none := fun a h => p.smm a h
  refine ⟨⟨m', rfl, hl⟩, fun a o e _ => sm a o e, smm, ⟨?_, ?_, fun a h hb => ?_, fun a h => smm a (r.bt a h), fun a h => ?_, fun n a o e1 e2 => ?_⟩, fun a h => (sp a h).imp id (lv a)⟩
  · rw [List.length_append, List.length_append, r.len, p.rl.len]
  · exact List.nodup_append.mpr ⟨r.nod, p.rl.nod, fun a h b h2 e => r.mt a h (by rw [e]; exact hl b h2)⟩
  · rcases sp a h with z | z
    · exact r.nb a z hb
    · exact r.bt a hb (lv a z)
  · rcases List.mem_append.mp h with z | z
    · exact smm a (r.mt a z)
    · exact p.rl.mt a z
  · rcases Nat.lt_or_ge n m.length with c | c
    · rw [List.getElem?_append_left c] at e1
      rw [List.getElem?_append_left (by rw [← r.len]; exact c)] at e2
      cases r.obj n a o e1 e2 with
      | lst h z q => exact .lst (sm _ _ h) z (q.kp kp)
      | dK h z e q => exact .dK (sm _ _ h) z e (q.kp kp)
      | dT h z e q => exact .dT (sm _ _ h) z e (q.kp kp)
      | ins g h e q => exact .ins g (sm _ _ h) e (q.kp kp)
    · rw [List.getElem?_append_right c] at e1
      rw [List.getElem?_append_right (by rw [← r.len]; exact c), ← r.len] at e2
      have hn := List.all_eq_true.mp hS _ (List.mem_of_getElem? e2)
      cases p.rl.obj _ a o e1 e2 with
      | lst h z q => exact .lst h z (q.flat hn)
      | dK h z e q => exact absurd hn (by simp [newO])
      | dT h z e q => exact absurd hn (by simp [newO])
      | ins g h e q => exact absurd hn (by simp [newO])
theorem spN_of {n : Nat} {F : Fn} (vs : List V) (H : Hp) (Q : VK) (E : XK) (h : spD K mg n (fnN F) vs H Q E) : spD K mg n F vs H Q E := by
  obtain ⟨B, m, S, ds, r, q, e, g⟩ := h
  unfold fnN at g
  split at g
  · rename_i hd
    have e0 : ∀ a, Fo (fun _ => False) [] [] a → False := fun a z => z.elim id fun ⟨n, o, e1, e2⟩ => by simp at e1
    refine ⟨fun _ => False, [], [], ds.map (frz S), ⟨rfl, List.nodup_nil, fun a ⟨n, o, e1, e2⟩ => by simp at e1, fun a z => z.elim, fun a z => by simp at z, fun n a o e1 e2 => by simp at e1⟩, (RepA.frz r q hd).noRef (fun a z => e0 a z) hd, e, ?_⟩
    cases e1 : F (ds.map (frz S)) [] with
    | bad => rw [e1] at g; exact g.elim
    | exc c pl S' => rw [e1] at g; exact g.elim
    | ok d S' =>
      rw [e1] at g
      dsimp only at g
      split at g
      · rename_i hn
        rw [Bool.and_eq_true] at hn
        intro m' H' v p rv
        have po := post_new r p hn.2
        exact g (m ++ m') H' v po (rv.flatR (fun k a hk => by rw [← r.len, List.getElem?_append_right (Nat.le_add_right _ _), Nat.add_sub_cancel_left]; exact hk) hn.1)
      · exact g.elim
  · exact g.elim
end
section
variable {P : Program} {w : World} {K : PySem.W.Frag} {mg : Str → Option Value} {base : Heap}
theorem fn_N {k n : Nat} {f : Addr} {fd : FuncData} {ps : List Str} {F : Fn} (h : DL.FnOk P w K mg base (L2.CX P w) k f fd ps (spD K mg n F)) : DL.FnOk P w K mg base (L2.CX P w) k f fd ps (spD K mg n (fnN F)) := h.imp spN_of
end
section
variable {P : Program} {w : World} {K : PySem.W.Frag} {mg : Str → Option Value} {base : Heap} {x name qual : Str} {params : Arguments} {body : List Stmt} {scope : Scope} {f : Addr} {N ps : List Str} {k : Nat} {b : Sx} {F : Fn}
theorem okF_M (h : ∃ fd, FunD K name qual params body scope [] [] (He.fAd K (x, none)) fd) (hm : mg x = some (.ref (He.ga K x))) (sc : FnScope N ps scope)
    (hbind : ∀ (kV doc pm : Value) (an : Option Addr) (cdv ct : Value) (us : List Value), us.length = ps.length → bindArgs (PySem.W.fnOf name qual params body scope .none kV doc pm an cdv ct) ⟨us, []⟩ = pure (ps.zip us))
    (hb : BodyOk P w K mg base x qual body scope N k b) : OkF P w K mg base x ps (k + 1) (fnN (fnB N.length b)) :=
  okF_mk h hm hbind fun fd g => fn_N (fn_denD g sc hb)
end
theorem wp_fnN {F : Fn} {ds ds' : List D} {S : Sto} {Q : D → Sto → Prop} {E : Px} (h1 : ds.map (frz S) = ds') (h0 : noRefs ds' = true) (h : Wp (F ds' []) (fun d S' => (flatR d && S'.all newO) = true ∧ Q (shR S.length d) (S ++ S')) noX) : Wp (fnN F ds S) Q E := by
  unfold fnN
  rw [h1, if_pos h0]
  obtain ⟨d, S', e, h2, h3⟩ := h.ok
  rw [e]
  dsimp only
  rw [if_pos h2]
  exact ⟨h3⟩
end DL
set_option Elab.async false
set_option linter.all false
set_option maxRecDepth 100000
set_option maxHeartbeats 4000000
namespace LO
open PySem PySem.Spec PyProof.Rows L2 DL
def i_chain_of_1 : Sx := sIf (tVal (eOp2 isD (eVar 3) (eC .non))) (sFrz 2 (sRet (eVar 2))) sSkip
def lb_chain_of_1 : Sx := (sSeq (sAsg 3 (eOp2 ixD (eOp2 ixD (eVar 0) (eOp2 ixD (eVar 2) (eOp1 negD (eC (.int 1))))) (eC (.int 0))))
    (sSeq i_chain_of_1
    (sExpr (eMeth gAppend (eVar 2) [(eVar 3)]))))
def lt_chain_of_1 : Tx := (tVal (eOp2 inD (eOp2 ixD (eVar 2) (eOp1 negD (eC (.int 1)))) (eVar 0)))
def l_chain_of_1 : Sx := fun ρ S => whileS 100000 lt_chain_of_1 lb_chain_of_1 ρ S
/-- chain_of: 0:books 1:moment 2:found 3:parent -/
def b_chain_of : Sx :=
  (sSeq (sAsg 2 (eLstM [(eVar 1)]))
    (sSeq l_chain_of_1
    sNoRaise))
def d_chain_of : Fn := fnP (fnB 4 b_chain_of)
def i_files_by_1 : Sx := sIf (tVal (eOp2 isD (eVar 5) (eC .non))) (sExpr (ePopD2 (eVar 2) (eVar 4) (eC .non))) (sSetIx (eVar 2) (eVar 4) (eVar 5))
def lb_files_by_1 : Sx := i_files_by_1
def l_files_by_1 : Sx := sFor (iSeq (eOp2 ixD (eOp2 ixD (eVar 0) (eVar 3)) (eC (.int 1)))) (.tp [(.nm 4), (.nm 5)]) lb_files_by_1
def lb_files_by_2 : Sx := l_files_by_1
def l_files_by_2 : Sx := sFor (iSeq (eOp1 revD (eFn d_chain_of [(eVar 0), (eVar 1)]))) (.nm 3) lb_files_by_2
/-- files_by: 0:books 1:moment 2:found 3:one 4:path 5:numbers -/
def b_files_by : Sx :=
  (sSeq (sAsg 2 eDNew)
    (sSeq l_files_by_2
    (sFrz 2 (sRet (eVar 2)))))
def d_files_by : Fn := fnP (fnB 6 b_files_by)
def ce_needed_1 : Ex := (eVar 5)
def ci_needed_1 : Ix := (iVals (eFn d_files_by [(eVar 0), (eVar 4)]))
def c_needed_1 : Ex := eComp2 (iSeq (eVar 1)) (.nm 4) tYesX ci_needed_1 (.nm 5) tYesX ce_needed_1 [4, 5] [5]
def ce_needed_2 : Ex := (eVar 6)
def ci_needed_2 : Ix := (iSeq (eFn d_chain_of [(eVar 0), (eVar 4)]))
def c_needed_2 : Ex := eSortSc2M (iSeq (eVar 1)) (.nm 4) tYesX ci_needed_2 (.nm 6) tYesX ce_needed_2 [4, 6] [6]
def ce_needed_3 : Ex := (eVar 7)
def ci_needed_3 : Ix := (iSeq (eVar 5))
def c_needed_3 : Ex := eSortSc2M (iSeq (eVar 2)) (.nm 5) tYesX ci_needed_3 (.nm 7) tYesX ce_needed_3 [5, 7] [7]
/-- needed: 0:books 1:moments 2:rows 3:held 4:moment 5:some 6:one 7:number -/
def b_needed : Sx :=
  (sSeq (sAsg 2 c_needed_1)
    (sSeq (sAsg 3 c_needed_2)
    (sRet (eTup [(eVar 3), c_needed_3]))))
def d_needed : Fn := fnB 8 b_needed
def i_book_way_1 : Sx := sIf (tVal (eOp2 inD (eVar 2) (eVar 4))) (sRet (eSl (eVar 4) none (some (eOp2 addD (eIdx (eVar 4) [(eVar 2)]) (eC (.int 1)))))) sSkip
def lb_book_way_1 : Sx := (sSeq (sAsg 4 (eFn d_chain_of [(eVar 0), (eVar 3)]))
    i_book_way_1)
def l_book_way_1 : Sx := sFor (iSeq (eVar 1)) (.nm 3) lb_book_way_1
/-- book_way: 0:books 1:moments 2:moment 3:one 4:chain -/
def b_book_way : Sx :=
  (sSeq l_book_way_1
    (sRet (eC .non)))
def d_book_way : Fn := fnP (fnB 5 b_book_way)
def ce_piece_way_1 : Ex := (eVar 5)
def ct_piece_way_1 : Tx := (tVal (eOp2 inD (eVar 2) (eVar 6)))
def c_piece_way_1 : Ex := eComp (iItems (eFn d_files_by [(eVar 0), (eVar 3)])) (.tp [(.nm 5), (.nm 6)]) ct_piece_way_1 ce_piece_way_1 [5, 6]
def i_piece_way_1 : Sx := sIf (tVal (eOp2 neD (eVar 4) (eLst []))) (sRet (eTup [(eVar 3), (eCall minLD [(eVar 4)])])) sSkip
def lb_piece_way_1 : Sx := (sSeq (sAsg 4 c_piece_way_1)
    i_piece_way_1)
def l_piece_way_1 : Sx := sFor (iSeq (eVar 1)) (.nm 3) lb_piece_way_1
/-- piece_way: 0:books 1:moments 2:piece 3:one 4:paths 5:path 6:numbers -/
def b_piece_way : Sx :=
  (sSeq l_piece_way_1
    (sRet (eC .non)))
def d_piece_way : Fn := fnP (fnB 7 b_piece_way)
def lb_bnumbers_1 : Sx := (sSeq (sAsg 4 (eFn LB.d_bdraw [(eVar 0), (eC (.int 3))]))
    (sSeq (sAsg 5 (eFn LB.d_bdraw [(eVar 0), (eOp2 ixD (eLst [(eC (.int 8)), (eC (.int 10000)), (eC (.int 9))]) (eVar 4))]))
    (sExpr (eMeth gAppend (eVar 2) [(eIfX (tVal (eOp2 eqD (eVar 4) (eC (.int 0)))) (eOp2 ixD (eVar 1) (eVar 5)) (eVar 5))]))))
def l_bnumbers_1 : Sx := sFor (iRng1X (eOp2 ixD (eLst [(eC (.int 0)), (eC (.int 1)), (eC (.int 2)), (eC (.int 3)), (eC (.int 1)), (eC (.int 2)), (eC (.int 20))]) (eFn LB.d_bdraw [(eVar 0), (eC (.int 7))]))) (.nm 3) lb_bnumbers_1
/-- _law_bnumbers: 0:_law_tape 1:_law_some 2:_law_found 3:_law_k 4:_law_way 5:_law_number -/
def b_bnumbers : Sx :=
  (sSeq (sAsg 1 (eLst [(eC (.int 0)), (eC (.int 1)), (eC (.int 27)), (eC (.int 28)), (eC (.int 29)), (eC (.int 783)), (eC (.int 784)), (eC (.int 9999))]))
    (sSeq (sAsg 2 (eLstM []))
    (sSeq l_bnumbers_1
    (sRet (eCall tupleD [(eVar 2)])))))
def d_bnumbers : Fn := fnB 6 b_bnumbers
def i_bfiles_1 : Sx := sIf (tAndX (tVal (eOp2 neD (eVar 4) (eLst []))) (tVal (eOp2 gtD (eFn LB.d_bdraw [(eVar 0), (eC (.int 3))]) (eC (.int 0))))) (sAsg 5 (eOp2 ixD (eVar 4) (eFn LB.d_bdraw [(eVar 0), (eCall lenD [(eVar 4)])]))) sSkip
def i_bfiles_2 : Sx := sIf (tOrX (tVal (eOp2 inD (eVar 5) (eVar 2))) (tAndX (tVal (eOp2 ltD (eCall lenD [(eVar 2)]) (eC (.int 8)))) (tVal (eFn LB.d_bis_apart [(eVar 5), (eCall listKD [(eVar 2)])])))) (sSetIx (eVar 2) (eVar 5) (eFn d_bnumbers [(eVar 0)])) sSkip
def i_bfiles_3 : Sx := sIf (tAndX (tVal (eOp2 inD (eVar 5) (eVar 2))) (tVal (eOp2 eqD (eFn LB.d_bdraw [(eVar 0), (eC (.int 2))]) (eC (.int 0))))) (sExpr (ePopD1 (eVar 2) (eVar 5))) i_bfiles_2
def lb_bfiles_1 : Sx := (sSeq (sAsg 4 (eCall sortXD [(eVar 2)]))
    (sSeq (sAsg 5 (eFn LB.d_bpath [(eVar 0)]))
    (sSeq i_bfiles_1
    i_bfiles_3)))
def l_bfiles_1 : Sx := sFor (iRng1X (eFn LB.d_bdraw [(eVar 0), (eC (.int 6))])) (.nm 3) lb_bfiles_1
/-- _law_bfiles: 0:_law_tape 1:_law_elder 2:_law_found 3:_law_k 4:_law_paths 5:_law_path -/
def b_bfiles : Sx :=
  (sSeq (sAsg 2 (eDictM (eVar 1)))
    (sSeq l_bfiles_1
    (sFrz 2 (sRet (eVar 2)))))
def d_bfiles : Fn := fnB 6 b_bfiles
def ce_brows_1 : Ex := (eTup [(eVar 4), (eOp2 ixD (eVar 2) (eVar 4))])
def ct_brows_1 : Tx := (tVal (eOp2 neD (eGet2 (eVar 1) (eVar 4) (eC .non)) (eOp2 ixD (eVar 2) (eVar 4))))
def c_brows_1 : Ex := eComp (iSeq (eVar 2)) (.nm 4) ct_brows_1 ce_brows_1 [4]
def ce_brows_2 : Ex := (eTup [(eVar 4), (eC .non)])
def ct_brows_2 : Tx := (tVal (eOp2 ninD (eVar 4) (eVar 2)))
def c_brows_2 : Ex := eComp (iSeq (eVar 1)) (.nm 4) ct_brows_2 ce_brows_2 [4]
def lb_brows_1 : Sx := (sSetIx (eVar 3) (eVar 4) (eOp2 ixD (eVar 2) (eVar 4)))
def l_brows_1 : Sx := sFor (iSeq (eSl (eCall sortXD [(eVar 2)]) none (some (eFn LB.d_bdraw [(eVar 0), (eC (.int 3))])))) (.nm 4) lb_brows_1
def i_brows_1 : Sx := sIf (tAndX (tVal (eOp2 eqD (eFn LB.d_bdraw [(eVar 0), (eC (.int 3))]) (eC (.int 0)))) (tAndX (tVal (eOp2 ninD (eVar 5) (eVar 2))) (tVal (eOp2 ltD (eCall lenD [(eVar 3)]) (eC (.int 16)))))) (sSetIx (eVar 3) (eVar 5) (eC .non)) sSkip
/-- _law_brows: 0:_law_tape 1:_law_elder 2:_law_found 3:_law_rows 4:_law_path 5:_law_stranger -/
def b_brows : Sx :=
  (sSeq (sAsg 3 (eDictM c_brows_1))
    (sSeq (sExpr (eUpdD (eVar 3) (eDictM c_brows_2)))
    (sSeq l_brows_1
    (sSeq (sAsg 5 (eFn LB.d_bpath [(eVar 0)]))
    (sSeq i_brows_1
    (sRet (eCall tupleD [(eOp1 sortItD (eVar 3))])))))))
def d_brows : Fn := fnB 6 b_brows
def i_bbooks_1 : Sx := sIf (tOrX (tVal (eOp2 eqDE (eVar 2) eDNew)) (tVal (eOp2 eqD (eFn LB.d_bdraw [(eVar 0), (eC (.int 4))]) (eC (.int 0))))) (sSeq (sSetIx (eVar 3) (eVar 4) (eFn d_bfiles [(eVar 0), (eFrz eDNew)]))
    (sSetIx (eVar 2) (eVar 4) (eTup [(eC .non), (eCall tupleD [(eOp1 sortItD (eOp2 ixD (eVar 3) (eVar 4)))])]))) (sSeq (sAsg 6 (eOp2 ixD (eCall sortXD [(eVar 2)]) (eOp2 subD (eOp1 negD (eC (.int 1))) (eFn LB.d_bdraw [(eVar 0), (eCall min2D [(eC (.int 3)), (eCall lenD [(eVar 2)])])]))))
    (sSeq (sSetIx (eVar 3) (eVar 4) (eFn d_bfiles [(eVar 0), (eOp2 ixD (eVar 3) (eVar 6))]))
    (sSetIx (eVar 2) (eVar 4) (eTup [(eVar 6), (eFn d_brows [(eVar 0), (eOp2 ixD (eVar 3) (eVar 6)), (eOp2 ixD (eVar 3) (eVar 4))])]))))
def lb_bbooks_1 : Sx := (sSeq i_bbooks_1
    (sAsg 4 (eOp2 addD (eVar 4) (eOp2 ixD (eLst [(eC (.int 1)), (eC (.int 1)), (eC (.int 2)), (eC (.int 27))]) (eFn LB.d_bdraw [(eVar 0), (eC (.int 4))])))))
def l_bbooks_1 : Sx := sFor (iRng1X (eVar 1)) (.nm 5) lb_bbooks_1
/-- _law_bbooks: 0:_law_tape 1:_law_often 2:_law_books 3:_law_files 4:_law_number 5:_law_k 6:_law_elder -/
def b_bbooks : Sx :=
  (sSeq (sPar 2 3 [eDNew, eDNew])
    (sSeq (sAsg 4 (eOp2 ixD (eLst [(eC (.int 0)), (eC (.int 1)), (eC (.int 27)), (eC (.int 5000))]) (eFn LB.d_bdraw [(eVar 0), (eC (.int 4))])))
    (sSeq l_bbooks_1
    (sRet (eTup [(eVar 2), (eVar 3)])))))
def d_bbooks : Fn := fnB 7 b_bbooks
end LO
set_option Elab.async false
set_option linter.all false
set_option maxRecDepth 100000
set_option maxHeartbeats 4000000
namespace C23
open PySem PySem.Spec PyProof.Rows L2 DL
def ce_needed_1 : Ex := (eVar 5)
def ci_needed_1 : Ix := (iVals (eFn LO.d_files_by [(eVar 0), (eVar 4)]))
def c_needed_1 : Ex := eComp2 (iSeq (eVar 1)) (.nm 4) tYesX ci_needed_1 (.nm 5) tYesX ce_needed_1 [4, 5] [5]
def ce_needed_2 : Ex := (eVar 6)
def ci_needed_2 : Ix := (iSeq (eFn LO.d_chain_of [(eVar 0), (eVar 4)]))
def c_needed_2 : Ex := eSortSc2M (iSeq (eVar 1)) (.nm 4) tYesX ci_needed_2 (.nm 6) tYesX ce_needed_2 [4, 6] [6]
def ce_needed_3 : Ex := (eVar 7)
def ci_needed_3 : Ix := (iSeq (eVar 5))
def c_needed_3 : Ex := eSortSc2M (iSeq (eVar 2)) (.nm 5) tYesX ci_needed_3 (.nm 7) tYesX ce_needed_3 [5, 7] [7]
/-- needed: 0:books 1:moments 2:rows 3:held 4:moment 5:some 6:one 7:number -/
def b_needed : Sx :=
  (sSeq (sAsg 2 c_needed_1)
    (sSeq (sAsg 3 c_needed_2)
    (sRet (eTup [(eVar 3), c_needed_3]))))
def d_needed : Fn := fnN (fnB 8 b_needed)
def lb_bpieces_1 : Sx := (sAsg 2 (eOp2 addD (eVar 2) (eCall listKD [(eVar 3)])))
def l_bpieces_1 : Sx := sFor (iVals (eFn LO.d_files_by [(eVar 0), (eVar 1)])) (.nm 3) lb_bpieces_1
/-- _law_bpieces: 0:_law_books 1:_law_moment 2:_law_found 3:_law_counted -/
def b_bpieces : Sx :=
  (sSeq (sAsg 2 (eLst []))
    (sSeq l_bpieces_1
    (sRet (eSortSetB (eVar 2)))))
def d_bpieces : Fn := fnP (fnB 4 b_bpieces)
def i_bclosed_1 : Sx := sIf (tVal (eOp2 neD (eOp2 isntD (eVar 6) (eC .non)) (eOp2 inD (eVar 5) (eVar 3)))) (sRet (eC (.bl false))) sSkip
def i_bclosed_2 : Sx := sIf (tAndX (tVal (eOp2 isntD (eVar 6) (eC .non))) (tVal (eOp2 ninD (eOp2 ixD (eVar 6) (eC (.int 0))) (eVar 1)))) (sRet (eC (.bl false))) sSkip
def ce_bclosed_1 : Ex := (eVar 9)
def ct_bclosed_1 : Tx := (tVal (eOp2 ninD (eVar 9) (eVar 3)))
def c_bclosed_1 : Ex := eComp (iSeq (eVar 6)) (.nm 9) ct_bclosed_1 ce_bclosed_1 [9]
def i_bclosed_3 : Sx := sIf (tAndX (tVal (eOp2 isntD (eVar 6) (eC .non))) (tVal (eOp2 neD c_bclosed_1 (eLst [])))) (sRet (eC (.bl false))) sSkip
def lb_bclosed_1 : Sx := (sSeq (sAsg 6 (eFn LO.d_book_way [(eVar 0), (eVar 1), (eVar 5)]))
    (sSeq i_bclosed_1
    (sSeq i_bclosed_2
    i_bclosed_3)))
def l_bclosed_1 : Sx := sFor (iSeq (eVar 0)) (.nm 5) lb_bclosed_1
def ce_bclosed_2 : Ex := (eVar 9)
def ct_bclosed_2 : Tx := (tVal (eOp2 ninD (eVar 9) (eVar 3)))
def c_bclosed_2 : Ex := eComp (iSeq (eFn LO.d_chain_of [(eVar 0), (eVar 5)])) (.nm 9) ct_bclosed_2 ce_bclosed_2 [9]
def i_bclosed_4 : Sx := sIf (tVal (eOp2 neD c_bclosed_2 (eLst []))) (sRet (eC (.bl false))) sSkip
def ce_bclosed_3 : Ex := (eVar 7)
def ct_bclosed_3 : Tx := (tVal (eOp2 ninD (eVar 7) (eVar 4)))
def c_bclosed_3 : Ex := eComp (iSeq (eFn d_bpieces [(eVar 0), (eVar 5)])) (.nm 7) ct_bclosed_3 ce_bclosed_3 [7]
def i_bclosed_5 : Sx := sIf (tVal (eOp2 neD c_bclosed_3 (eLst []))) (sRet (eC (.bl false))) sSkip
def lb_bclosed_2 : Sx := (sSeq i_bclosed_4
    i_bclosed_5)
def l_bclosed_2 : Sx := sFor (iSeq (eVar 1)) (.nm 5) lb_bclosed_2
def i_bclosed_6 : Sx := sIf (tOrX (tVal (eOp2 isD (eVar 8) (eC .non))) (tOrX (tVal (eOp2 ninD (eOp2 ixD (eVar 8) (eC (.int 0))) (eVar 1))) (tVal (eOp2 ninD (eVar 7) (eOp2 ixD (eFn LO.d_files_by [(eVar 0), (eOp2 ixD (eVar 8) (eC (.int 0)))]) (eOp2 ixD (eVar 8) (eC (.int 1)))))))) (sRet (eC (.bl false))) sSkip
def lb_bclosed_3 : Sx := (sSeq (sAsg 8 (eFn LO.d_piece_way [(eVar 0), (eVar 1), (eVar 7)]))
    i_bclosed_6)
def l_bclosed_3 : Sx := sFor (iSeq (eSl (eVar 4) none (some (eC (.int 10))))) (.nm 7) lb_bclosed_3
/-- _law_bclosed: 0:_law_books 1:_law_some 2:_law_told 3:_law_held 4:_law_bits 5:_law_moment 6:_law_way 7:_law_piece 8:_law_use 9:_law_one -/
def b_bclosed : Sx :=
  (sSeq (sAsgT (.tp [(.nm 3), (.nm 4)]) (eVar 2))
    (sSeq l_bclosed_1
    (sSeq l_bclosed_2
    (sSeq l_bclosed_3
    (sRet (eOp2 isD (eFn LO.d_piece_way [(eVar 0), (eVar 1), (eOp2 powD (eC (.int 10)) (eC (.int 9)))]) (eC .non)))))))
def d_bclosed : Fn := fnV (fnB 10 b_bclosed)
def i_law_1 : Sx := sIf (tVal (eOp2 neD (eVar 5) (eTup [(eLst []), (eLst [])]))) (sRet (eC (.bl false))) sSkip
def i_law_2 : Sx := sIf (tVal (eOp2 neD (eOp2 ixD (eVar 8) (eVar 10)) (eSortUn (eOp2 ixD (eVar 5) (eVar 10)) (eOp2 ixD (eVar 9) (eVar 10))))) (sRet (eC (.bl false))) sSkip
def lb_law_1 : Sx := i_law_2
def l_law_1 : Sx := sFor (iRng1X (eC (.int 2))) (.nm 10) lb_law_1
def i_law_3 : Sx := sIf (tOrX (tVal (eOp2 neD (eOp2 ixD (eVar 9) (eC (.int 1))) (eFn d_bpieces [(eVar 2), (eVar 7)]))) (tVal (eOp2 neD (eOp2 ixD (eVar 9) (eC (.int 0))) (eCall sortXD [(eFn LO.d_chain_of [(eVar 2), (eVar 7)])])))) (sRet (eC (.bl false))) sSkip
def i_law_4 : Sx := sIf (tNotX (tVal (eFn d_bclosed [(eVar 2), (eVar 4), (eVar 5)]))) (sRet (eC (.bl false))) sSkip
def lb_law_2 : Sx := (sSeq (sAsg 7 (eMeth gPopAt (eVar 3) [(eFn LB.d_bdraw [(eVar 1), (eCall lenD [(eVar 3)])])]))
    (sSeq (sAsg 8 (eFn d_needed [(eVar 2), (eOp2 addD (eVar 4) (eLst [(eVar 7)]))]))
    (sSeq (sAsg 9 (eFn d_needed [(eVar 2), (eLst [(eVar 7)])]))
    (sSeq (sFzV 9 2 (sFzV 8 2 l_law_1))
    (sSeq i_law_3
    (sSeq (sExpr (eMeth gAppend (eVar 4) [(eVar 7)]))
    (sSeq (sAsg 5 (eVar 8))
    i_law_4)))))))
def l_law_2 : Sx := sFor (iRng1X (eCall min2D [(eC (.int 5)), (eCall lenD [(eVar 3)])])) (.nm 6) lb_law_2
/-- law: 0:_law_script 1:_law_tape 2:_law_books 3:_law_left 4:_law_some 5:_law_told 6:_law_k 7:_law_one 8:_law_behind 9:_law_alone 10:_law_at -/
def b_law : Sx :=
  (sSeq (sAsg 1 (eLstM [(eCall listKD [(eSl (eVar 0) none (some (eC (.int 63))))]), (eC (.int 0)), (eC (.int 0))]))
    (sSeq (sAsg 2 (eOp2 ixD (eFn LO.d_bbooks [(eVar 1), (eOp2 addD (eC (.int 1)) (eFn LB.d_bdraw [(eVar 1), (eC (.int 9))]))]) (eC (.int 0))))
    (sSeq (sFrz 2 (sAsg 3 (eListM listKD [(eVar 2)])))
    (sSeq (sAsg 4 (eLstM []))
    (sSeq (sAsg 5 (eFn d_needed [(eVar 2), (eVar 4)]))
    (sSeq (sFzV 5 2 i_law_1)
    (sSeq l_law_2
    (sRet (eC (.bl true))))))))))
def d_law : Fn := fnB 11 b_law
end C23
set_option Elab.async false
set_option linter.all false
set_option maxRecDepth 100000
set_option maxHeartbeats 4000000
namespace LM
open DL PySem LB
local macro_rules | `(tactic| walk_at "w1") => `(tactic| with_reducible first
  | (refine ws_then ?_; try with_reducible dsimp only [List.set_cons_zero, List.set_cons_succ]) | refine ws_seq ?_ | refine ws_asg ?_ | refine ws_expr ?_ | refine ws_ret ?_ | refine ws_if ?_ | refine ws_asgT ?_ | refine ws_skip ?_ | refine ws_retN ?_ | refine ws_brk ?_ | refine ws_cont ?_ | refine ws_thenR ?_ | refine ws_thenB ?_ | refine ws_thenC ?_ | refine fq_rt ?_ | refine fq_nx ?_ | refine un_nx ?_ | refine un_ct ?_ | refine un_bk ?_ | refine un_rt ?_ | refine ws_loopN ?_
  | (refine ws_loopC (ρ1 := ?r) ?h ?q; (case h => with_unfolding_all rfl); try with_reducible dsimp only [List.set_cons_zero, List.set_cons_succ])
  | refine wp_c ?_ | refine wp_op2 ?_ | refine wp_fn ?_ | refine wp_cons ?_ | refine wp_nil ?_ | refine wp_call ?_ | refine wp_op1 ?_
  | (refine wp_var (d := ?d) ?h ?q; (case h => with_unfolding_all rfl))
  | (refine ws_aug (d := ?d) ?h ?q; (case h => with_unfolding_all rfl))
  | refine wp_tup ?_ | refine wp_lst ?_ | refine wp_lstM ?_ | refine wp_listM ?_
  | refine wp_sl0 ?_ | refine wp_sl1 ?_ | refine wp_sl2 ?_ | refine wp_sl3 ?_
  | refine wp_tval ?_ | refine wp_tnot ?_ | refine wp_tand ?_ | refine wp_tor ?_ | refine wp_tyes ?_ | refine wp_and ?_ | refine wp_or ?_ | refine wp_not ?_ | refine wp_ifx ?_ | refine wp_chain ?_ | refine wp_meth ?_ | refine wp_meth0 ?_
  | refine wp_isi ?_ | refine wp_isis ?_ | refine wp_repr ?_ | refine wp_maxD ?_ | refine wi_rng3 ?_
  | refine wp_str1 ?_ | refine ws_par ?_ | refine wp_dnew ?_ | refine wp_get2 ?_ | refine wp_reprQ ?_ | refine wp_fnK ?_ | refine wi_valsI ?_ | refine wi_itemsI ?_ | refine ws_augI ?_
  | refine wi_seq ?_ | refine wi_rng1 ?_ | refine wi_rng2 ?_ | refine wi_zip2 ?_ | refine wi_zipS ?_
  | (refine wp_fnB (ρ := ?ρ) ?he ?_; (case he => (simp only [List.map_cons, List.map_nil, List.length_cons, List.length_nil, List.replicate, List.cons_append, List.nil_append, Nat.reduceAdd, Nat.reduceSub]; rfl))))
local macro_rules | `(tactic| walk_at "w2") => `(tactic| ((with_reducible refine wo_id ?_); with_reducible first
  | refine vo_sub ?_ | refine vo_add ?_ | refine vo_lt ?_ | refine vo_le ?_ | refine vo_gt ?_ | refine vo_ge ?_ | refine vo_eq ?_ | refine vo_ne ?_ | refine vo_eqS ?_ | refine vo_neS ?_ | refine vo_eqB ?_ | refine vo_neB ?_ | refine vo_neg ?_ | refine vo_slT ?_ | refine vo_slL ?_ | refine vo_slS ?_ | refine vo_lenT ?_ | refine vo_lenL ?_ | refine vo_lenS ?_ | refine vo_revT ?_ | refine vo_revL ?_ | refine vo_min ?_ | refine vo_max ?_ | refine vo_tupL ?_ | refine vo_tupT ?_ | refine vo_lisL ?_ | refine vo_lisT ?_
  | refine vo_igAdd ?_ | refine vo_igMulR (by omega) ?_ | refine vo_igMulL (by omega) ?_ | refine vo_mod (by omega) ?_ | refine vo_div (by omega) ?_ | refine vo_mulR (by omega) ?_ | refine vo_mulL (by omega) ?_
  | refine vo_ixL0 ?_ | refine vo_ixL1 ?_ | refine vo_ixL2 ?_ | refine vo_ixL3 ?_ | refine vo_ixL4 ?_ | refine vo_ixL5 ?_ | refine vo_ixL6 ?_ | refine vo_ixT0 ?_ | refine vo_ixT1 ?_ | refine vo_ixT2 ?_ | refine vo_ixT3 ?_ | refine vo_ixT4 ?_ | refine vo_ixT5 ?_ | refine vo_ixT6 ?_
  | refine vo_starts ?_ | refine vo_isBN ?_ | refine vo_isSN ?_ | refine vo_isLN ?_ | refine vo_isDN ?_ | refine vo_slX (by first | assumption | omega) ?_ | refine vo_lenX (by first | assumption | omega) ?_ | refine vo_addS (by first | assumption | omega) ?_
  | refine vo_inT ?_ | refine vo_ninT ?_ | refine vo_inL ?_ | refine vo_ninL ?_ | refine vo_inI ?_ | refine vo_ninI ?_ | refine vo_sortI (by first | assumption | omega) ?_ | refine vo_sortL ?_ | refine vo_lenI ?_ | refine vo_lt3 ?_ | refine vo_isNN ?_ | refine vo_is3N ?_ | refine vo_isTN ?_ | refine vo_isIN ?_ | refine vo_igAddI ?_ | refine vo_ixI (by assumption) ?_
  | refine vo_vwD1 (by assumption) ?_ | refine vo_vwDc (by assumption) ?_
  | refine wo_vw1 (by assumption) ?_ | refine wo_vw2 (by assumption) ?_ | refine vo_vwc (by assumption) ?_
  | (refine vo_isi (c := ?c) ?h ?q; (case h => with_unfolding_all rfl)) | (refine vo_isis (c := ?c) ?h ?q; (case h => with_unfolding_all rfl))))
local macro_rules | `(tactic| walk_at "w3") => `(tactic| first
  | with_reducible refine nb_ff ?_ | with_reducible refine nb_tt ?_ | with_reducible refine nb_ft ?_ | with_reducible refine nb_tf ?_
  | with_reducible refine ite_f ?_ | with_reducible refine ite_nt ?_ | with_reducible refine ite_nf ?_ | with_reducible refine ite_t ?_
  | ((with_reducible refine ex_id ?_); refine ⟨_, rfl, ?_⟩) | ((with_reducible refine and_id ?_); refine ⟨Nat.le_of_ble_eq_true rfl, ?_⟩))
local macro_rules | `(tactic| walk_at "w") => `(tactic| repeat (first | walk_at "w1" | walk_at "w2" | walk_at "w3"))
theorem txts_sd {k : Nat} {xs : List Str} (h : ∀ x ∈ xs, TxtT k x) : sds (xs.map .str) = true ∧ dpDs (xs.map D.str) ≤ 1 := by
  refine ⟨sds_map D.str xs fun x hx => ?_, dpDs_le fun d hd => ?_⟩
  · simp only [sd]; exact (h x hx).ok
  · obtain ⟨x, _, rfl⟩ := List.mem_map.mp hd
    simp [dpD]
end LM
set_option Elab.async false
set_option linter.all false
set_option maxRecDepth 100000
set_option maxHeartbeats 4000000
namespace LM
open DL PySem LB
local macro_rules | `(tactic| walk_at "w1") => `(tactic| with_reducible first
  | (refine ws_then ?_; try with_reducible dsimp only [List.set_cons_zero, List.set_cons_succ]) | refine ws_seq ?_ | refine ws_asg ?_ | refine ws_expr ?_ | refine ws_ret ?_ | refine ws_if ?_ | refine ws_asgT ?_ | refine ws_skip ?_ | refine ws_retN ?_ | refine ws_brk ?_ | refine ws_cont ?_ | refine ws_thenR ?_ | refine ws_thenB ?_ | refine ws_thenC ?_ | refine fq_rt ?_ | refine fq_nx ?_ | refine un_nx ?_ | refine un_ct ?_ | refine un_bk ?_ | refine un_rt ?_ | refine ws_loopN ?_
  | (refine ws_loopC (ρ1 := ?r) ?h ?q; (case h => with_unfolding_all rfl); try with_reducible dsimp only [List.set_cons_zero, List.set_cons_succ])
  | refine wp_c ?_ | refine wp_op2 ?_ | refine wp_fn ?_ | refine wp_cons ?_ | refine wp_nil ?_ | refine wp_call ?_ | refine wp_op1 ?_
  | (refine wp_var (d := ?d) ?h ?q; (case h => with_unfolding_all rfl))
  | (refine ws_aug (d := ?d) ?h ?q; (case h => with_unfolding_all rfl))
  | refine wp_tup ?_ | refine wp_lst ?_ | refine wp_lstM ?_ | refine wp_listM ?_
  | refine wp_sl0 ?_ | refine wp_sl1 ?_ | refine wp_sl2 ?_ | refine wp_sl3 ?_
  | refine wp_tval ?_ | refine wp_tnot ?_ | refine wp_tand ?_ | refine wp_tor ?_ | refine wp_tyes ?_ | refine wp_and ?_ | refine wp_or ?_ | refine wp_not ?_ | refine wp_ifx ?_ | refine wp_chain ?_ | refine wp_meth ?_ | refine wp_meth0 ?_
  | refine wp_isi ?_ | refine wp_isis ?_ | refine wp_repr ?_ | refine wp_maxD ?_ | refine wi_rng3 ?_
  | refine wp_str1 ?_ | refine ws_par ?_ | refine wp_dnew ?_ | refine wp_get2 ?_ | refine wp_reprQ ?_ | refine wp_fnK ?_ | refine wi_valsI ?_ | refine wi_itemsI ?_ | refine ws_augI ?_
  | refine wi_seq ?_ | refine wi_rng1 ?_ | refine wi_rng2 ?_ | refine wi_zip2 ?_ | refine wi_zipS ?_
  | (refine wp_fnB (ρ := ?ρ) ?he ?_; (case he => (simp only [List.map_cons, List.map_nil, List.length_cons, List.length_nil, List.replicate, List.cons_append, List.nil_append, Nat.reduceAdd, Nat.reduceSub]; rfl))))
local macro_rules | `(tactic| walk_at "w2") => `(tactic| ((with_reducible refine wo_id ?_); with_reducible first
  | refine vo_sub ?_ | refine vo_add ?_ | refine vo_lt ?_ | refine vo_le ?_ | refine vo_gt ?_ | refine vo_ge ?_ | refine vo_eq ?_ | refine vo_ne ?_ | refine vo_eqS ?_ | refine vo_neS ?_ | refine vo_eqB ?_ | refine vo_neB ?_ | refine vo_neg ?_ | refine vo_slT ?_ | refine vo_slL ?_ | refine vo_slS ?_ | refine vo_lenT ?_ | refine vo_lenL ?_ | refine vo_lenS ?_ | refine vo_revT ?_ | refine vo_revL ?_ | refine vo_min ?_ | refine vo_max ?_ | refine vo_tupL ?_ | refine vo_tupT ?_ | refine vo_lisL ?_ | refine vo_lisT ?_
  | refine vo_igAdd ?_ | refine vo_igMulR (by omega) ?_ | refine vo_igMulL (by omega) ?_ | refine vo_mod (by omega) ?_ | refine vo_div (by omega) ?_ | refine vo_mulR (by omega) ?_ | refine vo_mulL (by omega) ?_
  | refine vo_ixL0 ?_ | refine vo_ixL1 ?_ | refine vo_ixL2 ?_ | refine vo_ixL3 ?_ | refine vo_ixL4 ?_ | refine vo_ixL5 ?_ | refine vo_ixL6 ?_ | refine vo_ixT0 ?_ | refine vo_ixT1 ?_ | refine vo_ixT2 ?_ | refine vo_ixT3 ?_ | refine vo_ixT4 ?_ | refine vo_ixT5 ?_ | refine vo_ixT6 ?_
  | refine vo_starts ?_ | refine vo_isBN ?_ | refine vo_isSN ?_ | refine vo_isLN ?_ | refine vo_isDN ?_ | refine vo_slX (by first | assumption | omega) ?_ | refine vo_lenX (by first | assumption | omega) ?_ | refine vo_addS (by first | assumption | omega) ?_
  | refine vo_inT ?_ | refine vo_ninT ?_ | refine vo_inL ?_ | refine vo_ninL ?_ | refine vo_inI ?_ | refine vo_ninI ?_ | refine vo_sortI (by first | assumption | omega) ?_ | refine vo_sortL ?_ | refine vo_lenI ?_ | refine vo_lt3 ?_ | refine vo_isNN ?_ | refine vo_is3N ?_ | refine vo_isTN ?_ | refine vo_isIN ?_ | refine vo_igAddI ?_ | refine vo_ixI (by assumption) ?_
  | refine vo_vwD1 (by assumption) ?_ | refine vo_vwDc (by assumption) ?_
  | refine wo_vw1 (by assumption) ?_ | refine wo_vw2 (by assumption) ?_ | refine vo_vwc (by assumption) ?_
  | (refine vo_isi (c := ?c) ?h ?q; (case h => with_unfolding_all rfl)) | (refine vo_isis (c := ?c) ?h ?q; (case h => with_unfolding_all rfl))))
local macro_rules | `(tactic| walk_at "w3") => `(tactic| first
  | with_reducible refine nb_ff ?_ | with_reducible refine nb_tt ?_ | with_reducible refine nb_ft ?_ | with_reducible refine nb_tf ?_
  | with_reducible refine ite_f ?_ | with_reducible refine ite_nt ?_ | with_reducible refine ite_nf ?_ | with_reducible refine ite_t ?_
  | ((with_reducible refine ex_id ?_); refine ⟨_, rfl, ?_⟩) | ((with_reducible refine and_id ?_); refine ⟨Nat.le_of_ble_eq_true rfl, ?_⟩))
local macro_rules | `(tactic| walk_at "w") => `(tactic| repeat (first | walk_at "w1" | walk_at "w2" | walk_at "w3"))
end LM
set_option Elab.async false
set_option linter.all false
set_option maxRecDepth 100000
set_option maxHeartbeats 4000000
namespace LM
open DL PySem LB
local macro_rules | `(tactic| walk_at "w1") => `(tactic| with_reducible first
  | (refine ws_then ?_; try with_reducible dsimp only [List.set_cons_zero, List.set_cons_succ]) | refine ws_seq ?_ | refine ws_asg ?_ | refine ws_expr ?_ | refine ws_ret ?_ | refine ws_if ?_ | refine ws_asgT ?_ | refine ws_skip ?_ | refine ws_retN ?_ | refine ws_brk ?_ | refine ws_cont ?_ | refine ws_thenR ?_ | refine ws_thenB ?_ | refine ws_thenC ?_ | refine fq_rt ?_ | refine fq_nx ?_ | refine un_nx ?_ | refine un_ct ?_ | refine un_bk ?_ | refine un_rt ?_ | refine ws_loopN ?_
  | (refine ws_loopC (ρ1 := ?r) ?h ?q; (case h => with_unfolding_all rfl); try with_reducible dsimp only [List.set_cons_zero, List.set_cons_succ])
  | refine wp_c ?_ | refine wp_op2 ?_ | refine wp_fn ?_ | refine wp_cons ?_ | refine wp_nil ?_ | refine wp_call ?_ | refine wp_op1 ?_
  | (refine wp_var (d := ?d) ?h ?q; (case h => with_unfolding_all rfl))
  | (refine ws_aug (d := ?d) ?h ?q; (case h => with_unfolding_all rfl))
  | refine wp_tup ?_ | refine wp_lst ?_ | refine wp_lstM ?_ | refine wp_listM ?_
  | refine wp_sl0 ?_ | refine wp_sl1 ?_ | refine wp_sl2 ?_ | refine wp_sl3 ?_
  | refine wp_tval ?_ | refine wp_tnot ?_ | refine wp_tand ?_ | refine wp_tor ?_ | refine wp_tyes ?_ | refine wp_and ?_ | refine wp_or ?_ | refine wp_not ?_ | refine wp_ifx ?_ | refine wp_chain ?_ | refine wp_meth ?_ | refine wp_meth0 ?_
  | refine wp_isi ?_ | refine wp_isis ?_ | refine wp_repr ?_ | refine wp_maxD ?_ | refine wi_rng3 ?_
  | refine wp_str1 ?_ | refine ws_par ?_ | refine wp_dnew ?_ | refine wp_get2 ?_ | refine wp_reprQ ?_ | refine wp_fnK ?_ | refine wi_valsI ?_ | refine wi_itemsI ?_ | refine ws_augI ?_
  | refine wi_seq ?_ | refine wi_rng1 ?_ | refine wi_rng2 ?_ | refine wi_zip2 ?_ | refine wi_zipS ?_
  | (refine wp_fnB (ρ := ?ρ) ?he ?_; (case he => (simp only [List.map_cons, List.map_nil, List.length_cons, List.length_nil, List.replicate, List.cons_append, List.nil_append, Nat.reduceAdd, Nat.reduceSub]; rfl))))
local macro_rules | `(tactic| walk_at "w2") => `(tactic| ((with_reducible refine wo_id ?_); with_reducible first
  | refine vo_sub ?_ | refine vo_add ?_ | refine vo_lt ?_ | refine vo_le ?_ | refine vo_gt ?_ | refine vo_ge ?_ | refine vo_eq ?_ | refine vo_ne ?_ | refine vo_eqS ?_ | refine vo_neS ?_ | refine vo_eqB ?_ | refine vo_neB ?_ | refine vo_neg ?_ | refine vo_slT ?_ | refine vo_slL ?_ | refine vo_slS ?_ | refine vo_lenT ?_ | refine vo_lenL ?_ | refine vo_lenS ?_ | refine vo_revT ?_ | refine vo_revL ?_ | refine vo_min ?_ | refine vo_max ?_ | refine vo_tupL ?_ | refine vo_tupT ?_ | refine vo_lisL ?_ | refine vo_lisT ?_
  | refine vo_igAdd ?_ | refine vo_igMulR (by omega) ?_ | refine vo_igMulL (by omega) ?_ | refine vo_mod (by omega) ?_ | refine vo_div (by omega) ?_ | refine vo_mulR (by omega) ?_ | refine vo_mulL (by omega) ?_
  | refine vo_ixL0 ?_ | refine vo_ixL1 ?_ | refine vo_ixL2 ?_ | refine vo_ixL3 ?_ | refine vo_ixL4 ?_ | refine vo_ixL5 ?_ | refine vo_ixL6 ?_ | refine vo_ixT0 ?_ | refine vo_ixT1 ?_ | refine vo_ixT2 ?_ | refine vo_ixT3 ?_ | refine vo_ixT4 ?_ | refine vo_ixT5 ?_ | refine vo_ixT6 ?_
  | refine vo_starts ?_ | refine vo_isBN ?_ | refine vo_isSN ?_ | refine vo_isLN ?_ | refine vo_isDN ?_ | refine vo_slX (by first | assumption | omega) ?_ | refine vo_lenX (by first | assumption | omega) ?_ | refine vo_addS (by first | assumption | omega) ?_
  | refine vo_inT ?_ | refine vo_ninT ?_ | refine vo_inL ?_ | refine vo_ninL ?_ | refine vo_inI ?_ | refine vo_ninI ?_ | refine vo_sortI (by first | assumption | omega) ?_ | refine vo_sortL ?_ | refine vo_lenI ?_ | refine vo_lt3 ?_ | refine vo_isNN ?_ | refine vo_is3N ?_ | refine vo_isTN ?_ | refine vo_isIN ?_ | refine vo_igAddI ?_ | refine vo_ixI (by assumption) ?_
  | refine vo_vwD1 (by assumption) ?_ | refine vo_vwDc (by assumption) ?_
  | refine wo_vw1 (by assumption) ?_ | refine wo_vw2 (by assumption) ?_ | refine vo_vwc (by assumption) ?_
  | (refine vo_isi (c := ?c) ?h ?q; (case h => with_unfolding_all rfl)) | (refine vo_isis (c := ?c) ?h ?q; (case h => with_unfolding_all rfl))))
local macro_rules | `(tactic| walk_at "w3") => `(tactic| first
  | with_reducible refine nb_ff ?_ | with_reducible refine nb_tt ?_ | with_reducible refine nb_ft ?_ | with_reducible refine nb_tf ?_
  | with_reducible refine ite_f ?_ | with_reducible refine ite_nt ?_ | with_reducible refine ite_nf ?_ | with_reducible refine ite_t ?_
  | ((with_reducible refine ex_id ?_); refine ⟨_, rfl, ?_⟩) | ((with_reducible refine and_id ?_); refine ⟨Nat.le_of_ble_eq_true rfl, ?_⟩))
local macro_rules | `(tactic| walk_at "w") => `(tactic| repeat (first | walk_at "w1" | walk_at "w2" | walk_at "w3"))
/-- only n and what is new has changed -/
structure Keep (n : Nat) (S S' : Sto) : Prop where
  le : S.length ≤ S'.length
  eq : ∀ m, m < S.length → m ≠ n → S'[m]? = S[m]?
theorem Keep.refl {n : Nat} {S : Sto} : Keep n S S := ⟨Nat.le_refl _, fun _ _ _ => rfl⟩
theorem Keep.trans {n : Nat} {S S1 S2 : Sto} (h : Keep n S S1) (h2 : Keep n S1 S2) : Keep n S S2 := ⟨Nat.le_trans h.le h2.le, fun m h1 h3 => (h2.eq m (Nat.lt_of_lt_of_le h1 h.le) h3).trans (h.eq m h1 h3)⟩
theorem Keep.only {n : Nat} {S S' : Sto} (h : Only n S S') : Keep n S S' := ⟨Nat.le_of_eq h.1.symm, fun m _ h1 => h.2 m h1⟩
theorem Keep.ext {n : Nat} {S S' : Sto} (h : Ext S S') : Keep n S S' := ⟨h.1, fun m h1 _ => h.2 m h1⟩
theorem Keep.set {n m : Nat} {S S' : Sto} {o : Option Ob} (h : Keep n S S') (hm : S.length ≤ m) : Keep n S (S'.set m o) := ⟨by simpa using h.le, fun k h1 h2 => by rw [List.getElem?_set_ne (by omega)]; exact h.eq k h1 h2⟩
theorem Keep.app {n : Nat} {S S' : Sto} {l : List (Option Ob)} (h : Keep n S S') : Keep n S (S' ++ l) := h.trans (.ext .app)
theorem JarS.set {S : Sto} {n m : Nat} {k : Int} {o : Option Ob} (h : JarS S n k) (hm : n ≠ m) : JarS (S.set m o) n k := h.only .set hm
theorem JarS.app {S : Sto} {n : Nat} {k : Int} {l : List (Option Ob)} (h : JarS S n k) : JarS (S ++ l) n k := h.ext .app
theorem pick_of {zs : List Int} (lo hi : Int) (hz : ∀ z ∈ zs, lo ≤ z ∧ z ≤ hi) {w : Int} (h : 0 ≤ w ∧ w < zs.length) : ∃ z : Int, L2.atI (zs.map D.int) w = some (.int z) ∧ lo ≤ z ∧ z ≤ hi := by
  obtain ⟨z, h1, h2⟩ := LB.pick_lt h
  exact ⟨z, h2, hz z h1⟩
end LM
set_option Elab.async false
set_option linter.all false
set_option maxRecDepth 100000
set_option maxHeartbeats 4000000
namespace LM
open DL PySem LB
local macro_rules | `(tactic| walk_at "w1") => `(tactic| with_reducible first
  | (refine ws_then ?_; try with_reducible dsimp only [List.set_cons_zero, List.set_cons_succ]) | refine ws_seq ?_ | refine ws_asg ?_ | refine ws_expr ?_ | refine ws_ret ?_ | refine ws_if ?_ | refine ws_asgT ?_ | refine ws_skip ?_ | refine ws_retN ?_ | refine ws_brk ?_ | refine ws_cont ?_ | refine ws_thenR ?_ | refine ws_thenB ?_ | refine ws_thenC ?_ | refine fq_rt ?_ | refine fq_nx ?_ | refine un_nx ?_ | refine un_ct ?_ | refine un_bk ?_ | refine un_rt ?_ | refine ws_loopN ?_
  | (refine ws_loopC (ρ1 := ?r) ?h ?q; (case h => with_unfolding_all rfl); try with_reducible dsimp only [List.set_cons_zero, List.set_cons_succ])
  | refine wp_c ?_ | refine wp_op2 ?_ | refine wp_fn ?_ | refine wp_cons ?_ | refine wp_nil ?_ | refine wp_call ?_ | refine wp_op1 ?_
  | (refine wp_var (d := ?d) ?h ?q; (case h => with_unfolding_all rfl))
  | (refine ws_aug (d := ?d) ?h ?q; (case h => with_unfolding_all rfl))
  | refine wp_tup ?_ | refine wp_lst ?_ | refine wp_lstM ?_ | refine wp_listM ?_
  | refine wp_sl0 ?_ | refine wp_sl1 ?_ | refine wp_sl2 ?_ | refine wp_sl3 ?_
  | refine wp_tval ?_ | refine wp_tnot ?_ | refine wp_tand ?_ | refine wp_tor ?_ | refine wp_tyes ?_ | refine wp_and ?_ | refine wp_or ?_ | refine wp_not ?_ | refine wp_ifx ?_ | refine wp_chain ?_ | refine wp_meth ?_ | refine wp_meth0 ?_
  | refine wp_isi ?_ | refine wp_isis ?_ | refine wp_repr ?_ | refine wp_maxD ?_ | refine wi_rng3 ?_
  | refine wp_str1 ?_ | refine ws_par ?_ | refine wp_dnew ?_ | refine wp_get2 ?_ | refine wp_reprQ ?_ | refine wp_fnK ?_ | refine wi_valsI ?_ | refine wi_itemsI ?_ | refine ws_augI ?_
  | refine wi_seq ?_ | refine wi_rng1 ?_ | refine wi_rng2 ?_ | refine wi_zip2 ?_ | refine wi_zipS ?_
  | (refine wp_fnB (ρ := ?ρ) ?he ?_; (case he => (simp only [List.map_cons, List.map_nil, List.length_cons, List.length_nil, List.replicate, List.cons_append, List.nil_append, Nat.reduceAdd, Nat.reduceSub]; rfl))))
local macro_rules | `(tactic| walk_at "w2") => `(tactic| ((with_reducible refine wo_id ?_); with_reducible first
  | refine vo_sub ?_ | refine vo_add ?_ | refine vo_lt ?_ | refine vo_le ?_ | refine vo_gt ?_ | refine vo_ge ?_ | refine vo_eq ?_ | refine vo_ne ?_ | refine vo_eqS ?_ | refine vo_neS ?_ | refine vo_eqB ?_ | refine vo_neB ?_ | refine vo_neg ?_ | refine vo_slT ?_ | refine vo_slL ?_ | refine vo_slS ?_ | refine vo_lenT ?_ | refine vo_lenL ?_ | refine vo_lenS ?_ | refine vo_revT ?_ | refine vo_revL ?_ | refine vo_min ?_ | refine vo_max ?_ | refine vo_tupL ?_ | refine vo_tupT ?_ | refine vo_lisL ?_ | refine vo_lisT ?_
  | refine vo_igAdd ?_ | refine vo_igMulR (by omega) ?_ | refine vo_igMulL (by omega) ?_ | refine vo_mod (by omega) ?_ | refine vo_div (by omega) ?_ | refine vo_mulR (by omega) ?_ | refine vo_mulL (by omega) ?_
  | refine vo_ixL0 ?_ | refine vo_ixL1 ?_ | refine vo_ixL2 ?_ | refine vo_ixL3 ?_ | refine vo_ixL4 ?_ | refine vo_ixL5 ?_ | refine vo_ixL6 ?_ | refine vo_ixT0 ?_ | refine vo_ixT1 ?_ | refine vo_ixT2 ?_ | refine vo_ixT3 ?_ | refine vo_ixT4 ?_ | refine vo_ixT5 ?_ | refine vo_ixT6 ?_
  | refine vo_starts ?_ | refine vo_isBN ?_ | refine vo_isSN ?_ | refine vo_isLN ?_ | refine vo_isDN ?_ | refine vo_slX (by first | assumption | omega) ?_ | refine vo_lenX (by first | assumption | omega) ?_ | refine vo_addS (by first | assumption | omega) ?_
  | refine vo_inT ?_ | refine vo_ninT ?_ | refine vo_inL ?_ | refine vo_ninL ?_ | refine vo_inI ?_ | refine vo_ninI ?_ | refine vo_sortI (by first | assumption | omega) ?_ | refine vo_sortL ?_ | refine vo_lenI ?_ | refine vo_lt3 ?_ | refine vo_isNN ?_ | refine vo_is3N ?_ | refine vo_isTN ?_ | refine vo_isIN ?_ | refine vo_igAddI ?_ | refine vo_ixI (by assumption) ?_
  | refine vo_vwD1 (by assumption) ?_ | refine vo_vwDc (by assumption) ?_
  | refine wo_vw1 (by assumption) ?_ | refine wo_vw2 (by assumption) ?_ | refine vo_vwc (by assumption) ?_
  | (refine vo_isi (c := ?c) ?h ?q; (case h => with_unfolding_all rfl)) | (refine vo_isis (c := ?c) ?h ?q; (case h => with_unfolding_all rfl))))
local macro_rules | `(tactic| walk_at "w3") => `(tactic| first
  | with_reducible refine nb_ff ?_ | with_reducible refine nb_tt ?_ | with_reducible refine nb_ft ?_ | with_reducible refine nb_tf ?_
  | with_reducible refine ite_f ?_ | with_reducible refine ite_nt ?_ | with_reducible refine ite_nf ?_ | with_reducible refine ite_t ?_
  | ((with_reducible refine ex_id ?_); refine ⟨_, rfl, ?_⟩) | ((with_reducible refine and_id ?_); refine ⟨Nat.le_of_ble_eq_true rfl, ?_⟩))
local macro_rules | `(tactic| walk_at "w") => `(tactic| repeat (first | walk_at "w1" | walk_at "w2" | walk_at "w3"))
theorem PathOf.take {p : Str} {ns : List Str} (h : PathOf p ns) {k : Nat} (hk : 0 < k) : PathT (Txt.join ("/" : Str) (ns.take k)) := by
  obtain ⟨⟨h1, h2⟩, h3, rfl⟩ := h
  exact ⟨ns.take k, ⟨by rw [List.length_take]; omega, by rw [List.length_take]; omega⟩, fun x hx => h3 x (List.mem_of_mem_take hx), rfl⟩
theorem popH {α : Type} (f : α → D) {L : List α} {v : Int} (h : 0 ≤ v ∧ v < L.length) (hl : L.length ≤ 1000000) : ∃ (A B : List α) (x : α), L = A ++ x :: B ∧ gPopAt (L.map f) [.int v] = some ((A ++ B).map f, f x) := by
  have hv : v.toNat < L.length := by omega
  refine ⟨L.take v.toNat, L.drop (v.toNat + 1), L[v.toNat], ?_, ?_⟩
  · rw [← List.drop_eq_getElem_cons hv, List.take_append_drop]
  have e1 : PySem.seqIndex? v (L.map f).length = some v.toNat := by
    unfold PySem.seqIndex?
    rw [List.length_map]
    simp [show ¬ v < 0 by omega, h.1, h.2]
  have e2 : (L.map f)[v.toNat]? = some (f L[v.toNat]) := by rw [List.getElem?_map, List.getElem?_eq_getElem hv]; rfl
  have e3 : (L.map f).eraseIdx v.toNat = (L.take v.toNat ++ L.drop (v.toNat + 1)).map f := by
    rw [List.eraseIdx_eq_take_drop_succ, List.map_append, List.map_take, List.map_drop]
  unfold gPopAt
  dsimp only
  rw [if_pos (by omega), e1]
  dsimp only
  rw [e2]
  dsimp only
  rw [e3]
end LM
set_option Elab.async false
set_option linter.all false
set_option maxRecDepth 100000
set_option maxHeartbeats 4000000
namespace LB
open DL PySem
end LB
namespace LM
open DL PySem LB
theorem ints_sd (xs : List Int) : sd (.lst (xs.map .int)) = true ∧ dpD (.lst (xs.map D.int)) ≤ 1 := by
  refine ⟨by simp only [sd]; exact sds_map D.int xs fun _ _ => rfl, ?_⟩
  have : dpDs (xs.map D.int) ≤ 0 := dpDs_le fun d hd => by
    obtain ⟨x, _, rfl⟩ := List.mem_map.mp hd
    simp [dpD]
  simp only [dpD]
  omega
end LM
set_option Elab.async false
set_option linter.all false
set_option maxRecDepth 100000
set_option maxHeartbeats 4000000
namespace LM
open DL PySem LB
theorem vo_sortXI {S : Sto} {xs : List Int} {Q : D → Prop} (q : Q (.lst ((isI xs).map .int))) : Wo (sortXD (List.map (view S) [.lst (xs.map .int)])) Q := by
  cases xs with
  | nil => exact .of (d := .lst []) rfl (by simpa [isI] using q)
  | cons x xs =>
    refine .of ?_ q
    show (asIs ((x :: xs).map .int)).map _ = _
    rw [asIs_map]
    rfl
/-- nothing later in its period -/
def Lst (ms : List Mom) (m : Mom) (r : Int × Int) : Prop := ∀ x ∈ ms, m.num < x.num → x.day / r.1 ≠ m.day / r.1
theorem Rs.nil : Rs [] := ⟨by simp, fun r h => by simp at h⟩
theorem Hs.nil : Hs [] := ⟨by simp, fun r h => by simp at h, .nil⟩
theorem Hs.one {hs : List Hol} (hh : Hs hs) {h : Hol} (hm : h ∈ hs) : Hs [h] := ⟨by simp, fun x hx => by rw [List.mem_singleton.mp hx]; exact hh.ok h hm, by simp⟩
end LM
set_option Elab.async false
set_option linter.all false
set_option maxRecDepth 100000
set_option maxHeartbeats 4000000
namespace LM
open DL PySem LB
theorem Ms.sub {ms l : List Mom} (h : Ms ms) (hs : l.Sublist ms) : Ms l := ⟨Nat.le_trans hs.length_le h.len, fun m hm => h.ok m (hs.subset hm), h.nums.sublist hs, h.days.sublist hs⟩
theorem Lst.sub {ms l : List Mom} (hs : l.Sublist ms) {m : Mom} {r : Int × Int} (h : Lst ms m r) : Lst l m r := fun x hx => h x (hs.subset hx)
end LM
set_option Elab.async false
set_option linter.all false
set_option maxRecDepth 100000
set_option maxHeartbeats 4000000
namespace LO
open DL PySem LB LM
local macro_rules | `(tactic| walk_at "w1") => `(tactic| with_reducible first
  | (refine ws_then ?_; try with_reducible dsimp only [List.set_cons_zero, List.set_cons_succ]) | refine ws_seq ?_ | refine ws_asg ?_ | refine ws_expr ?_ | refine ws_ret ?_ | refine ws_if ?_ | refine ws_asgT ?_ | refine ws_skip ?_ | refine ws_retN ?_ | refine ws_brk ?_ | refine ws_cont ?_ | refine ws_thenR ?_ | refine ws_thenB ?_ | refine ws_thenC ?_ | refine fq_rt ?_ | refine fq_nx ?_ | refine un_nx ?_ | refine un_ct ?_ | refine un_bk ?_ | refine un_rt ?_ | refine ws_loopN ?_
  | (refine ws_loopC (ρ1 := ?r) ?h ?q; (case h => with_unfolding_all rfl); try with_reducible dsimp only [List.set_cons_zero, List.set_cons_succ])
  | refine wp_c ?_ | refine wp_op2 ?_ | refine wp_fn ?_ | refine wp_cons ?_ | refine wp_nil ?_ | refine wp_call ?_ | refine wp_op1 ?_
  | (refine wp_var (d := ?d) ?h ?q; (case h => with_unfolding_all rfl))
  | (refine ws_aug (d := ?d) ?h ?q; (case h => with_unfolding_all rfl))
  | refine wp_tup ?_ | refine wp_lst ?_ | refine wp_lstM ?_ | refine wp_listM ?_
  | refine wp_sl0 ?_ | refine wp_sl1 ?_ | refine wp_sl2 ?_ | refine wp_sl3 ?_
  | refine wp_tval ?_ | refine wp_tnot ?_ | refine wp_tand ?_ | refine wp_tor ?_ | refine wp_tyes ?_ | refine wp_and ?_ | refine wp_or ?_ | refine wp_not ?_ | refine wp_ifx ?_ | refine wp_chain ?_ | refine wp_meth ?_ | refine wp_meth0 ?_
  | refine wp_isi ?_ | refine wp_isis ?_ | refine wp_repr ?_ | refine wp_maxD ?_ | refine wi_rng3 ?_
  | refine wp_str1 ?_ | refine ws_par ?_ | refine wp_dnew ?_ | refine wp_get2 ?_ | refine wp_reprQ ?_ | refine wp_fnK ?_ | refine wi_valsI ?_ | refine wi_itemsI ?_ | refine ws_augI ?_
  | refine wi_seq ?_ | refine wi_rng1 ?_ | refine wi_rng2 ?_ | refine wi_zip2 ?_ | refine wi_zipS ?_
  | (refine wp_fnB (ρ := ?ρ) ?he ?_; (case he => (simp only [List.map_cons, List.map_nil, List.length_cons, List.length_nil, List.replicate, List.cons_append, List.nil_append, Nat.reduceAdd, Nat.reduceSub]; rfl))))
local macro_rules | `(tactic| walk_at "w2") => `(tactic| ((with_reducible refine wo_id ?_); with_reducible first
  | refine vo_sub ?_ | refine vo_add ?_ | refine vo_lt ?_ | refine vo_le ?_ | refine vo_gt ?_ | refine vo_ge ?_ | refine vo_eq ?_ | refine vo_ne ?_ | refine vo_eqS ?_ | refine vo_neS ?_ | refine vo_eqB ?_ | refine vo_neB ?_ | refine vo_neg ?_ | refine vo_slT ?_ | refine vo_slL ?_ | refine vo_slS ?_ | refine vo_lenT ?_ | refine vo_lenL ?_ | refine vo_lenS ?_ | refine vo_revT ?_ | refine vo_revL ?_ | refine vo_min ?_ | refine vo_max ?_ | refine vo_tupL ?_ | refine vo_tupT ?_ | refine vo_lisL ?_ | refine vo_lisT ?_
  | refine vo_igAdd ?_ | refine vo_igMulR (by omega) ?_ | refine vo_igMulL (by omega) ?_ | refine vo_mod (by omega) ?_ | refine vo_div (by omega) ?_ | refine vo_mulR (by omega) ?_ | refine vo_mulL (by omega) ?_
  | refine vo_ixL0 ?_ | refine vo_ixL1 ?_ | refine vo_ixL2 ?_ | refine vo_ixL3 ?_ | refine vo_ixL4 ?_ | refine vo_ixL5 ?_ | refine vo_ixL6 ?_ | refine vo_ixT0 ?_ | refine vo_ixT1 ?_ | refine vo_ixT2 ?_ | refine vo_ixT3 ?_ | refine vo_ixT4 ?_ | refine vo_ixT5 ?_ | refine vo_ixT6 ?_
  | refine vo_starts ?_ | refine vo_isBN ?_ | refine vo_isSN ?_ | refine vo_isLN ?_ | refine vo_isDN ?_ | refine vo_slX (by first | assumption | omega) ?_ | refine vo_lenX (by first | assumption | omega) ?_ | refine vo_addS (by first | assumption | omega) ?_
  | refine vo_inT ?_ | refine vo_ninT ?_ | refine vo_inL ?_ | refine vo_ninL ?_ | refine vo_inI ?_ | refine vo_ninI ?_ | refine vo_sortI (by first | assumption | omega) ?_ | refine vo_sortL ?_ | refine vo_lenI ?_ | refine vo_lt3 ?_ | refine vo_isNN ?_ | refine vo_is3N ?_ | refine vo_isTN ?_ | refine vo_isIN ?_ | refine vo_igAddI ?_ | refine vo_ixI (by assumption) ?_
  | refine vo_vwD1 (by assumption) ?_ | refine vo_vwDc (by assumption) ?_
  | refine wo_vw1 (by assumption) ?_ | refine wo_vw2 (by assumption) ?_ | refine vo_vwc (by assumption) ?_
  | (refine vo_isi (c := ?c) ?h ?q; (case h => with_unfolding_all rfl)) | (refine vo_isis (c := ?c) ?h ?q; (case h => with_unfolding_all rfl))))
local macro_rules | `(tactic| walk_at "w3") => `(tactic| first
  | with_reducible refine nb_ff ?_ | with_reducible refine nb_tt ?_ | with_reducible refine nb_ft ?_ | with_reducible refine nb_tf ?_
  | with_reducible refine ite_f ?_ | with_reducible refine ite_nt ?_ | with_reducible refine ite_nf ?_ | with_reducible refine ite_t ?_
  | ((with_reducible refine ex_id ?_); refine ⟨_, rfl, ?_⟩) | ((with_reducible refine and_id ?_); refine ⟨Nat.le_of_ble_eq_true rfl, ?_⟩))
local macro_rules | `(tactic| walk_at "w") => `(tactic| repeat (first | walk_at "w1" | walk_at "w2" | walk_at "w3"))
abbrev FT := List (Str × List Int)
abbrev RT := List (Str × Option (List Int))
abbrev numD (ns : List Int) : D := .tup (ns.map .int)
def optD : Option (List Int) → D
  | none => .non
  | some ns => .tup (ns.map .int)
def parD : Option Int → D
  | none => .non
  | some p => .int p
abbrev filD (f : FT) : D := dT numD f
structure Bk where
  num : Int
  par : Option Int
  rows : RT
  fil : FT
abbrev rowsD (rs : RT) : D := .tup (rs.map fun p => .tup [.str p.1, optD p.2])
abbrev bookD (b : Bk) : D := .tup [parD b.par, rowsD b.rows]
/-- the latest first -/
def bookL (R : List Bk) : List (Int × Bk) := R.reverse.map fun b => (b.num, b)
abbrev booksD (R : List Bk) : D := dA bookD (bookL R)
structure NumsOk (ns : List Int) : Prop where
  len : ns.length ≤ 20
  ok : ∀ n ∈ ns, 0 ≤ n ∧ n ≤ 9999
/-- no path lies beneath another one -/
def ApT (ps : List Str) : Prop := ∀ a ∈ ps, ∀ b ∈ ps, Txt.startswith b (a ++ "/") = false
theorem ApT.sub {ps qs : List Str} (h : ApT ps) (hs : ∀ q ∈ qs, q ∈ ps) : ApT qs := fun a ha b hb => h a (hs a ha) b (hs b hb)
theorem beneath_no {p o : Str} (h : beneath p o = false) : Txt.startswith o (p ++ "/") = false := by
  cases e : Txt.startswith o (p ++ "/") with
  | false => rfl
  | true =>
    rw [starts_iff] at e
    have : Txt.startswith (o ++ "/") (p ++ "/") = true := starts_iff.mpr (by
      rw [TL.tl_append o]
      exact e.trans (List.prefix_append _ _))
    unfold beneath at h
    rw [this] at h
    cases h
theorem self_no (p : Str) : Txt.startswith p (p ++ "/") = false := by
  cases e : Txt.startswith p (p ++ "/") with
  | false => rfl
  | true =>
    rw [starts_iff, TL.tl_append] at e
    have := e.length_le
    have h1 : (TL.tl ("/" : Str)).length = 1 := by decide
    rw [List.length_append, h1] at this
    omega
theorem ApT.put {ps : List Str} {p : Str} (h : ApT ps) (ha : apart p ps = true) : ApT (p :: ps) := by
  have key : ∀ o ∈ ps, Txt.startswith o (p ++ "/") = false ∧ Txt.startswith p (o ++ "/") = false := fun o ho => by
    have := List.all_eq_true.mp ha o ho
    rw [Bool.not_eq_true', Bool.or_eq_false_iff] at this
    exact ⟨beneath_no this.1, beneath_no this.2⟩
  intro a hA b hB
  rcases List.mem_cons.mp hA with h1 | h1 <;> rcases List.mem_cons.mp hB with h2 | h2
  · rw [h1, h2]; exact self_no _
  · rw [h1]; exact (key b h2).1
  · rw [h2]; exact (key a h1).2
  · exact h a h1 b h2
structure FilOk (f : FT) : Prop where
  nd : (f.map (·.1)).Nodup
  len : f.length ≤ 8
  ok : ∀ p ∈ f, PathT p.1 ∧ NumsOk p.2
  ap : ApT (f.map (·.1))
structure RowOk (r : RT) : Prop where
  nd : (r.map (·.1)).Nodup
  len : r.length ≤ 16
  ok : ∀ p ∈ r, PathT p.1 ∧ ∀ ns, p.2 = some ns → NumsOk ns
  so : (r.map (·.1)).Pairwise fun a b => ltKb (.inr b) (.inr a) = false
/-- files behind a row of changes -/
def look (rows : RT) (e : FT) (p : Str) : Option (List Int) := match getT rows p with
  | none => getT e p
  | some v => v
def Step (e : FT) (rows : RT) (f : FT) : Prop := ∀ p, look rows e p = getT f p
def filOf : List Bk → Int → FT
  | [], _ => []
  | b :: R, n => if b.num = n then b.fil else filOf R n
def parF (R : List Bk) : Option Int → FT
  | none => []
  | some p => filOf R p
inductive BksOk : List Bk → Prop
  | nil : BksOk []
  | cons {b : Bk} {R : List Bk} : BksOk R → (∀ c ∈ R, c.num < b.num) → 0 ≤ b.num ∧ b.num ≤ 1000000 → FilOk b.fil → RowOk b.rows → Step (parF R b.par) b.rows b.fil → (∀ p, b.par = some p → ∃ c ∈ R, c.num = p) → BksOk (b :: R)
/-- of a book the chain, itself first -/
def chain : List Bk → Int → List Bk
  | [], _ => []
  | b :: R, n => if b.num = n then b :: (match b.par with
    | none => []
    | some p => chain R p) else chain R n
theorem chain_len (R : List Bk) (n : Int) : (chain R n).length ≤ R.length := by
  induction R generalizing n with
  | nil => simp [chain]
  | cons b R ih =>
    unfold chain
    split
    · cases b.par with
      | none => simp
      | some p => have := ih p; simp; exact this
    · have := ih n; simp; omega
theorem chain_mem {R : List Bk} {n : Int} {b : Bk} (h : b ∈ chain R n) : b ∈ R := by
  induction R generalizing n with
  | nil => simp [chain] at h
  | cons c R ih =>
    unfold chain at h
    split at h
    · rcases List.mem_cons.mp h with rfl | h
      · simp
      · cases hp : c.par with
        | none => rw [hp] at h; simp at h
        | some p => rw [hp] at h; exact List.mem_cons_of_mem _ (ih h)
    · exact List.mem_cons_of_mem _ (ih h)
theorem chain_skip {b : Bk} {R : List Bk} {n : Int} (h : b.num ≠ n) : chain (b :: R) n = chain R n := by
  show (if b.num = n then _ else _) = _
  rw [if_neg h]
/-- of a book in the list: itself, then its parent's chain -/
theorem chain_at {R : List Bk} (h : BksOk R) {b : Bk} (hb : b ∈ R) : chain R b.num = b :: (match b.par with
    | none => []
    | some p => chain R p) := by
  induction h with
  | nil => simp at hb
  | @cons c R h hlt hn hf hr hs hp ih =>
    have skip : ∀ {a : Bk}, a ∈ c :: R → ∀ p, a.par = some p → (a ∈ R → ∃ d ∈ R, d.num = p) → (a = c → ∃ d ∈ R, d.num = p) → c.num ≠ p := by
      intro a _ p _ h1 h2 e
      rename_i ha _
      rcases List.mem_cons.mp ha with h0 | h0
      · obtain ⟨d, hd, e2⟩ := h2 h0
        have := hlt d hd; omega
      · obtain ⟨d, hd, e2⟩ := h1 h0
        have := hlt d hd; omega
    have parIn : ∀ {R : List Bk}, BksOk R → ∀ a ∈ R, ∀ p, a.par = some p → ∃ d ∈ R, d.num = p := by
      intro R h
      induction h with
      | nil => intro a ha; simp at ha
      | @cons c R h hlt hn hf hr hs hp ih =>
        intro a ha p e
        rcases List.mem_cons.mp ha with rfl | ha
        · obtain ⟨d, hd, e⟩ := hp p e
          exact ⟨d, List.mem_cons_of_mem _ hd, e⟩
        · obtain ⟨d, hd, e⟩ := ih a ha p e
          exact ⟨d, List.mem_cons_of_mem _ hd, e⟩
    rcases List.mem_cons.mp hb with rfl | hb'
    · show (if b.num = b.num then _ else _) = _
      rw [if_pos rfl]
      cases hpar : b.par with
      | none => rfl
      | some p =>
        obtain ⟨d, hd, e⟩ := hp p hpar
        have := hlt d hd
        show b :: chain R p = b :: chain (b :: R) p
        rw [chain_skip (by omega)]
    · have h1 := hlt b hb'
      rw [chain_skip (by omega), ih hb']
      cases hpar : b.par with
      | none => rfl
      | some p =>
        obtain ⟨d, hd, e⟩ := parIn h b hb' p hpar
        have := hlt d hd
        show b :: chain R p = b :: chain (c :: R) p
        rw [chain_skip (by omega)]
theorem par_in {R : List Bk} (h : BksOk R) : ∀ a ∈ R, ∀ p, a.par = some p → ∃ d ∈ R, d.num = p := by
  induction h with
  | nil => intro a ha; simp at ha
  | @cons c R h hlt hn hf hr hs hp ih =>
    intro a ha p e
    rcases List.mem_cons.mp ha with rfl | ha
    · obtain ⟨d, hd, e⟩ := hp p e
      exact ⟨d, List.mem_cons_of_mem _ hd, e⟩
    · obtain ⟨d, hd, e⟩ := ih a ha p e
      exact ⟨d, List.mem_cons_of_mem _ hd, e⟩
/-- rows done to files -/
def row1 (T : FT) (p : Str × Option (List Int)) : FT := match p.2 with
  | none => dropT T p.1
  | some ns => putT T p.1 ns
def applyRows (T : FT) (rows : RT) : FT := rows.foldl row1 T
def fb (R : List Bk) (n : Int) : FT := (chain R n).reverse.foldl (fun T b => applyRows T b.rows) []
theorem apply_get : ∀ (rows : RT) (T : FT) (p : Str), (rows.map (·.1)).Nodup → getT (applyRows T rows) p = look rows T p
  | [], T, p, _ => rfl
  | (q, v) :: rows, T, p, h => by
    rw [List.map_cons, List.nodup_cons] at h
    show getT (applyRows (row1 T (q, v)) rows) p = _
    rw [apply_get rows _ p h.2]
    unfold look
    show _ = match (if q = p then some v else getT rows p) with
      | none => getT T p
      | some v => v
    by_cases e : q = p
    · subst e
      rw [if_pos rfl, getT_none.mpr h.1]
      cases v with
      | none => simp [row1, get_dropT]
      | some ns => simp [row1, get_putT]
    · rw [if_neg e]
      cases getT rows p with
      | some w => rfl
      | none => cases v with
        | none => simp [row1, get_dropT, e]
        | some ns => simp [row1, get_putT, e]
theorem apply_nd : ∀ (rows : RT) (T : FT), (T.map (·.1)).Nodup → ((applyRows T rows).map (·.1)).Nodup
  | [], T, h => h
  | (q, v) :: rows, T, h => by
    show ((applyRows (row1 T (q, v)) rows).map (·.1)).Nodup
    cases v with
    | none => exact apply_nd rows _ (dropT_nd h)
    | some ns => exact apply_nd rows _ (putT_nd h)
theorem fb_at {R : List Bk} (h : BksOk R) {b : Bk} (hb : b ∈ R) : fb R b.num = applyRows (match b.par with
    | none => []
    | some p => fb R p) b.rows := by
  unfold fb
  rw [chain_at h hb]
  cases b.par with
  | none => rfl
  | some p =>
    show ((b :: chain R p).reverse.foldl _ _) = _
    rw [List.reverse_cons, List.foldl_append]
    rfl
theorem filOf_skip {b : Bk} {R : List Bk} {n : Int} (h : b.num ≠ n) : filOf (b :: R) n = filOf R n := by
  show (if b.num = n then _ else _) = _
  rw [if_neg h]
theorem filOf_at {R : List Bk} (h : BksOk R) {b : Bk} (hb : b ∈ R) : filOf R b.num = b.fil := by
  induction h with
  | nil => simp at hb
  | @cons c R h hlt hn hf hr hs hp ih =>
    rcases List.mem_cons.mp hb with rfl | hb'
    · show (if b.num = b.num then _ else _) = _
      rw [if_pos rfl]
    · have := hlt b hb'
      rw [filOf_skip (by omega), ih hb']
theorem fb_skip {b : Bk} {R : List Bk} {n : Int} (h : b.num ≠ n) : fb (b :: R) n = fb R n := by
  unfold fb
  rw [chain_skip h]
/-- files_by tells the files, in some order -/
theorem fb_get {R : List Bk} (h : BksOk R) : ∀ b ∈ R, (∀ p, getT (fb R b.num) p = getT b.fil p) ∧ ((fb R b.num).map (·.1)).Nodup := by
  induction h with
  | nil => intro b hb; simp at hb
  | @cons c R h hlt hn hf hr hs hp ih =>
    have hall : BksOk (c :: R) := .cons h hlt hn hf hr hs hp
    intro b hb
    rcases List.mem_cons.mp hb with rfl | hb'
    · rw [fb_at hall hb]
      cases hpar : b.par with
      | none =>
        rw [hpar] at hs
        exact ⟨fun p => by rw [apply_get _ _ _ hr.nd]; exact hs p, apply_nd _ _ (by simp)⟩
      | some q =>
        obtain ⟨d, hd, rfl⟩ := hp q hpar
        have hlt' := hlt d hd
        rw [hpar] at hs
        obtain ⟨h1, h2⟩ := ih d hd
        dsimp only
        rw [fb_skip (by omega)]
        refine ⟨fun p => ?_, apply_nd _ _ h2⟩
        rw [apply_get _ _ _ hr.nd, ← hs p]
        unfold look
        show _ = match getT b.rows p with
          | none => getT (filOf R d.num) p
          | some v => v
        rw [filOf_at h hd]
        cases getT b.rows p with
        | none => exact h1 p
        | some v => rfl
    · have := hlt b hb'
      rw [fb_skip (by omega)]
      exact ih b hb'
theorem fb_mem {R : List Bk} (h : BksOk R) {b : Bk} (hb : b ∈ R) {p : Str × List Int} : p ∈ fb R b.num ↔ p ∈ b.fil := by
  obtain ⟨h1, h2⟩ := fb_get h b hb
  have hf : FilOk b.fil := by
    clear h1 h2
    induction h with
    | nil => simp at hb
    | @cons c R h hlt hn hf hr hs hp ih =>
      rcases List.mem_cons.mp hb with rfl | hb'
      · exact hf
      · exact ih hb'
  constructor
  · intro hp
    have := mem_getT h2 (k := p.1) (v := p.2) hp
    rw [h1] at this
    exact getT_mem this
  · intro hp
    have := mem_getT hf.nd (k := p.1) (v := p.2) hp
    rw [← h1] at this
    exact getT_mem this
end LO
set_option Elab.async false
set_option linter.all false
set_option maxRecDepth 100000
set_option maxHeartbeats 4000000
namespace LO
open DL PySem LB LM
local macro_rules | `(tactic| walk_at "w1") => `(tactic| with_reducible first
  | (refine ws_then ?_; try with_reducible dsimp only [List.set_cons_zero, List.set_cons_succ]) | refine ws_seq ?_ | refine ws_asg ?_ | refine ws_expr ?_ | refine ws_ret ?_ | refine ws_if ?_ | refine ws_asgT ?_ | refine ws_skip ?_ | refine ws_retN ?_ | refine ws_brk ?_ | refine ws_cont ?_ | refine ws_thenR ?_ | refine ws_thenB ?_ | refine ws_thenC ?_ | refine fq_rt ?_ | refine fq_nx ?_ | refine un_nx ?_ | refine un_ct ?_ | refine un_bk ?_ | refine un_rt ?_ | refine ws_loopN ?_
  | (refine ws_loopC (ρ1 := ?r) ?h ?q; (case h => with_unfolding_all rfl); try with_reducible dsimp only [List.set_cons_zero, List.set_cons_succ])
  | refine wp_c ?_ | refine wp_op2 ?_ | refine wp_fn ?_ | refine wp_cons ?_ | refine wp_nil ?_ | refine wp_call ?_ | refine wp_op1 ?_
  | (refine wp_var (d := ?d) ?h ?q; (case h => with_unfolding_all rfl))
  | (refine ws_aug (d := ?d) ?h ?q; (case h => with_unfolding_all rfl))
  | refine wp_tup ?_ | refine wp_lst ?_ | refine wp_lstM ?_ | refine wp_listM ?_
  | refine wp_sl0 ?_ | refine wp_sl1 ?_ | refine wp_sl2 ?_ | refine wp_sl3 ?_
  | refine wp_tval ?_ | refine wp_tnot ?_ | refine wp_tand ?_ | refine wp_tor ?_ | refine wp_tyes ?_ | refine wp_and ?_ | refine wp_or ?_ | refine wp_not ?_ | refine wp_ifx ?_ | refine wp_chain ?_ | refine wp_meth ?_ | refine wp_meth0 ?_
  | refine wp_isi ?_ | refine wp_isis ?_ | refine wp_repr ?_ | refine wp_maxD ?_ | refine wi_rng3 ?_
  | refine wp_str1 ?_ | refine ws_par ?_ | refine wp_dnew ?_ | refine wp_get2 ?_ | refine wp_reprQ ?_ | refine wp_fnK ?_ | refine wi_valsI ?_ | refine wi_itemsI ?_ | refine ws_augI ?_
  | refine wi_seq ?_ | refine wi_rng1 ?_ | refine wi_rng2 ?_ | refine wi_zip2 ?_ | refine wi_zipS ?_
  | (refine wp_fnB (ρ := ?ρ) ?he ?_; (case he => (simp only [List.map_cons, List.map_nil, List.length_cons, List.length_nil, List.replicate, List.cons_append, List.nil_append, Nat.reduceAdd, Nat.reduceSub]; rfl))))
local macro_rules | `(tactic| walk_at "w2") => `(tactic| ((with_reducible refine wo_id ?_); with_reducible first
  | refine vo_sub ?_ | refine vo_add ?_ | refine vo_lt ?_ | refine vo_le ?_ | refine vo_gt ?_ | refine vo_ge ?_ | refine vo_eq ?_ | refine vo_ne ?_ | refine vo_eqS ?_ | refine vo_neS ?_ | refine vo_eqB ?_ | refine vo_neB ?_ | refine vo_neg ?_ | refine vo_slT ?_ | refine vo_slL ?_ | refine vo_slS ?_ | refine vo_lenT ?_ | refine vo_lenL ?_ | refine vo_lenS ?_ | refine vo_revT ?_ | refine vo_revL ?_ | refine vo_min ?_ | refine vo_max ?_ | refine vo_tupL ?_ | refine vo_tupT ?_ | refine vo_lisL ?_ | refine vo_lisT ?_
  | refine vo_igAdd ?_ | refine vo_igMulR (by omega) ?_ | refine vo_igMulL (by omega) ?_ | refine vo_mod (by omega) ?_ | refine vo_div (by omega) ?_ | refine vo_mulR (by omega) ?_ | refine vo_mulL (by omega) ?_
  | refine vo_ixL0 ?_ | refine vo_ixL1 ?_ | refine vo_ixL2 ?_ | refine vo_ixL3 ?_ | refine vo_ixL4 ?_ | refine vo_ixL5 ?_ | refine vo_ixL6 ?_ | refine vo_ixT0 ?_ | refine vo_ixT1 ?_ | refine vo_ixT2 ?_ | refine vo_ixT3 ?_ | refine vo_ixT4 ?_ | refine vo_ixT5 ?_ | refine vo_ixT6 ?_
  | refine vo_starts ?_ | refine vo_isBN ?_ | refine vo_isSN ?_ | refine vo_isLN ?_ | refine vo_isDN ?_ | refine vo_slX (by first | assumption | omega) ?_ | refine vo_lenX (by first | assumption | omega) ?_ | refine vo_addS (by first | assumption | omega) ?_
  | refine vo_inT ?_ | refine vo_ninT ?_ | refine vo_inL ?_ | refine vo_ninL ?_ | refine vo_inI ?_ | refine vo_ninI ?_ | refine vo_sortI (by first | assumption | omega) ?_ | refine vo_sortL ?_ | refine vo_lenI ?_ | refine vo_lt3 ?_ | refine vo_isNN ?_ | refine vo_is3N ?_ | refine vo_isTN ?_ | refine vo_isIN ?_ | refine vo_igAddI ?_ | refine vo_ixI (by assumption) ?_
  | refine vo_vwD1 (by assumption) ?_ | refine vo_vwDc (by assumption) ?_
  | refine wo_vw1 (by assumption) ?_ | refine wo_vw2 (by assumption) ?_ | refine vo_vwc (by assumption) ?_
  | (refine vo_isi (c := ?c) ?h ?q; (case h => with_unfolding_all rfl)) | (refine vo_isis (c := ?c) ?h ?q; (case h => with_unfolding_all rfl))))
local macro_rules | `(tactic| walk_at "w3") => `(tactic| first
  | with_reducible refine nb_ff ?_ | with_reducible refine nb_tt ?_ | with_reducible refine nb_ft ?_ | with_reducible refine nb_tf ?_
  | with_reducible refine ite_f ?_ | with_reducible refine ite_nt ?_ | with_reducible refine ite_nf ?_ | with_reducible refine ite_t ?_
  | ((with_reducible refine ex_id ?_); refine ⟨_, rfl, ?_⟩) | ((with_reducible refine and_id ?_); refine ⟨Nat.le_of_ble_eq_true rfl, ?_⟩))
local macro_rules | `(tactic| walk_at "w") => `(tactic| repeat (first | walk_at "w1" | walk_at "w2" | walk_at "w3"))
theorem wp_bnumbers {S : Sto} {n : Nat} {k : Int} {Q : D → Sto → Prop} {E : Px} (h : JarS S n k) (hk : k ≤ 700000000)
    (q : ∀ ns S', NumsOk ns → JarS S' n (k + 100) → Keep n S S' → Q (numD ns) S') : Wp (d_bnumbers [.ref n] S) Q E := by
  have hn := h.lt
  unfold d_bnumbers b_bnumbers
  walk_at "w"
  unfold l_bnumbers_1
  have h1 : (S ++ [some (.lst [])])[S.length]? = some (some (.lst [])) := app_at
  have j0 := JarS.app (l := [some (.lst [])]) h
  have k0 : Keep n S (S ++ [some (.lst [])]) := Keep.refl.app
  generalize S ++ [some (.lst [])] = S0 at h1 j0 k0
  have hf : n ≠ S.length := by omega
  have hSle : S.length ≤ S.length := Nat.le_refl _
  generalize hfd : S.length = f at h1 hf
  refine ws_for [3, 4, 5] ?_
  walk_at "w"
  refine wp_bdraw j0 (by omega) (by omega) fun v S1 v0 v1 j1 o1 => ?_
  have h2 := (o1.2 f (Ne.symm hf)).trans h1
  obtain ⟨z, ez, z0, z1⟩ := pick_of (zs := [0, 1, 2, 3, 1, 2, 20]) 0 20 (by simp) (w := v) ⟨v0, by simpa using v1⟩
  refine wo_ixL ez ?_
  walk_at "w"
  refine ⟨by omega, ?_⟩
  refine ⟨fun j vs S' => ∃ (a b c : Option D) (ns : List Int), vs = [a, b, c] ∧ S'[f]? = some (some (.lst (ns.map .int))) ∧ ns.length = j ∧ (∀ x ∈ ns, 0 ≤ x ∧ x ≤ 9999) ∧ JarS S' n (k + 1 + j * 2) ∧ Keep n S S', [none, none, none], rfl, rfl, ⟨none, none, none, [], rfl, h2, rfl, fun r hr => by simp at hr, j1.mono (by omega), k0.trans (.only o1)⟩, ?_, ?_⟩
  · rintro j d vs S2 hj hv ⟨a, b, c, ns, rfl, h3, hl, hok, j2, k2⟩
    have hj' := (List.getElem?_eq_some_iff.mp hj).1
    rw [iRng_len] at hj'
    refine ⟨_, rfl, ?_⟩
    unfold lb_bnumbers_1
    dsimp only [putAll, List.set_cons_zero, List.set_cons_succ]
    walk_at "w"
    refine wp_bdraw j2 (by omega) (by omega) fun w S3 w0 w1 j3 o3 => ?_
    walk_at "w"
    have fin : ∀ (x : Int) (S4 : Sto) (ρ : Ev), 0 ≤ x → x ≤ 9999 → JarS S4 n (k + 1 + j * 2 + 1 + 1) → Only n S3 S4 → ∀ (vs : List (Option D)) (z : Sto), vs.length = 3 → z = S4.set f (some (.lst (ns.map D.int ++ [.int x]))) → ∃ (a b c : Option D) (ns' : List Int), vs = [a, b, c] ∧ z[f]? = some (some (.lst (ns'.map .int))) ∧ ns'.length = j + 1 ∧ (∀ x ∈ ns', 0 ≤ x ∧ x ≤ 9999) ∧ JarS z n (k + 1 + (j + 1 : Nat) * 2) ∧ Keep n S z := by
      intro x S4 ρ hx0 hx1 j4 o4 vs z hvs hz
      subst hz
      obtain ⟨a, b, c, rfl⟩ := len3 hvs
      have h4 := (o4.2 f (Ne.symm hf)).trans ((o3.2 f (Ne.symm hf)).trans h3)
      refine ⟨a, b, c, ns ++ [x], rfl, by rw [set_at h4, List.map_append]; rfl, by simp [hl], fun y hy => ?_, JarS.set (j4.mono (by omega)) hf, ((k2.trans (.only o3)).trans (.only o4)).set (by omega)⟩
      rcases List.mem_append.mp hy with hy | hy
      · exact hok y hy
      · rw [List.mem_singleton.mp hy]; exact ⟨hx0, hx1⟩
    have h4' := (o3.2 f (Ne.symm hf)).trans h3
    have hw : w = 0 ∨ w = 1 ∨ w = 2 := by omega
    rcases hw with rfl | rfl | rfl
    · refine wo_ixL (d := .int 8) rfl ?_
      walk_at "w"
      refine wp_bdraw j3 (by omega) (by omega) fun x S4 x0 x1 j4 o4 => ?_
      have h4 := (o4.2 f (Ne.symm hf)).trans h4'
      obtain ⟨y, ey, y0, y1⟩ := pick_of (zs := [0, 1, 27, 28, 29, 783, 784, 9999]) 0 9999 (by simp) (w := x) ⟨x0, by simpa using x1⟩
      walk_at "w"
      refine ⟨lst_some h4, ?_⟩
      walk_at "w"
      refine ⟨fun _ => ?_, fun z => by simp at z⟩
      walk_at "w"
      refine wo_ixL ey ?_
      walk_at "w"
      refine ⟨_, _, _, h4, gApp (by rw [List.length_map]; omega), ?_⟩
      walk_at "w"
      exact ⟨[_, _, _], rfl, rfl, fin y S4 [] y0 y1 j4 o4 _ _ rfl rfl⟩
    · refine wo_ixL (d := .int 10000) rfl ?_
      walk_at "w"
      refine wp_bdraw j3 (by omega) (by omega) fun x S4 x0 x1 j4 o4 => ?_
      have h4 := (o4.2 f (Ne.symm hf)).trans h4'
      walk_at "w"
      refine ⟨lst_some h4, ?_⟩
      walk_at "w"
      refine ⟨fun z => by simp at z, fun _ => ?_⟩
      walk_at "w"
      refine ⟨_, _, _, h4, gApp (by rw [List.length_map]; omega), ?_⟩
      walk_at "w"
      exact ⟨[_, _, _], rfl, rfl, fin x S4 [] x0 (by omega) j4 o4 _ _ rfl rfl⟩
    · refine wo_ixL (d := .int 9) rfl ?_
      walk_at "w"
      refine wp_bdraw j3 (by omega) (by omega) fun x S4 x0 x1 j4 o4 => ?_
      have h4 := (o4.2 f (Ne.symm hf)).trans h4'
      walk_at "w"
      refine ⟨lst_some h4, ?_⟩
      walk_at "w"
      refine ⟨fun z => by simp at z, fun _ => ?_⟩
      walk_at "w"
      refine ⟨_, _, _, h4, gApp (by rw [List.length_map]; omega), ?_⟩
      walk_at "w"
      exact ⟨[_, _, _], rfl, rfl, fin x S4 [] x0 (by omega) j4 o4 _ _ rfl rfl⟩
  · rintro vs S2 hv ⟨a, b, c, ns, rfl, h3, hl, hok, j2, k2⟩
    rw [iRng_len] at hl j2
    walk_at "w"
    refine q ns S2 ⟨by omega, hok⟩ (j2.mono (by omega)) k2
end LO
set_option Elab.async false
set_option linter.all false
set_option maxRecDepth 100000
set_option maxHeartbeats 4000000
namespace LO
open DL PySem LB LM
local macro_rules | `(tactic| walk_at "w1") => `(tactic| with_reducible first
  | (refine ws_then ?_; try with_reducible dsimp only [List.set_cons_zero, List.set_cons_succ]) | refine ws_seq ?_ | refine ws_asg ?_ | refine ws_expr ?_ | refine ws_ret ?_ | refine ws_if ?_ | refine ws_asgT ?_ | refine ws_skip ?_ | refine ws_retN ?_ | refine ws_brk ?_ | refine ws_cont ?_ | refine ws_thenR ?_ | refine ws_thenB ?_ | refine ws_thenC ?_ | refine fq_rt ?_ | refine fq_nx ?_ | refine un_nx ?_ | refine un_ct ?_ | refine un_bk ?_ | refine un_rt ?_ | refine ws_loopN ?_
  | (refine ws_loopC (ρ1 := ?r) ?h ?q; (case h => with_unfolding_all rfl); try with_reducible dsimp only [List.set_cons_zero, List.set_cons_succ])
  | refine wp_c ?_ | refine wp_op2 ?_ | refine wp_fn ?_ | refine wp_cons ?_ | refine wp_nil ?_ | refine wp_call ?_ | refine wp_op1 ?_
  | (refine wp_var (d := ?d) ?h ?q; (case h => with_unfolding_all rfl))
  | (refine ws_aug (d := ?d) ?h ?q; (case h => with_unfolding_all rfl))
  | refine wp_tup ?_ | refine wp_lst ?_ | refine wp_lstM ?_ | refine wp_listM ?_
  | refine wp_sl0 ?_ | refine wp_sl1 ?_ | refine wp_sl2 ?_ | refine wp_sl3 ?_
  | refine wp_tval ?_ | refine wp_tnot ?_ | refine wp_tand ?_ | refine wp_tor ?_ | refine wp_tyes ?_ | refine wp_and ?_ | refine wp_or ?_ | refine wp_not ?_ | refine wp_ifx ?_ | refine wp_chain ?_ | refine wp_meth ?_ | refine wp_meth0 ?_
  | refine wp_isi ?_ | refine wp_isis ?_ | refine wp_repr ?_ | refine wp_maxD ?_ | refine wi_rng3 ?_
  | refine wp_str1 ?_ | refine ws_par ?_ | refine wp_dnew ?_ | refine wp_get2 ?_ | refine wp_reprQ ?_ | refine wp_fnK ?_ | refine wi_valsI ?_ | refine wi_itemsI ?_ | refine ws_augI ?_
  | refine wi_seq ?_ | refine wi_rng1 ?_ | refine wi_rng2 ?_ | refine wi_zip2 ?_ | refine wi_zipS ?_
  | (refine wp_fnB (ρ := ?ρ) ?he ?_; (case he => (simp only [List.map_cons, List.map_nil, List.length_cons, List.length_nil, List.replicate, List.cons_append, List.nil_append, Nat.reduceAdd, Nat.reduceSub]; rfl))))
local macro_rules | `(tactic| walk_at "w2") => `(tactic| ((with_reducible refine wo_id ?_); with_reducible first
  | refine vo_sub ?_ | refine vo_add ?_ | refine vo_lt ?_ | refine vo_le ?_ | refine vo_gt ?_ | refine vo_ge ?_ | refine vo_eq ?_ | refine vo_ne ?_ | refine vo_eqS ?_ | refine vo_neS ?_ | refine vo_eqB ?_ | refine vo_neB ?_ | refine vo_neg ?_ | refine vo_slT ?_ | refine vo_slL ?_ | refine vo_slS ?_ | refine vo_lenT ?_ | refine vo_lenL ?_ | refine vo_lenS ?_ | refine vo_revT ?_ | refine vo_revL ?_ | refine vo_min ?_ | refine vo_max ?_ | refine vo_tupL ?_ | refine vo_tupT ?_ | refine vo_lisL ?_ | refine vo_lisT ?_
  | refine vo_igAdd ?_ | refine vo_igMulR (by omega) ?_ | refine vo_igMulL (by omega) ?_ | refine vo_mod (by omega) ?_ | refine vo_div (by omega) ?_ | refine vo_mulR (by omega) ?_ | refine vo_mulL (by omega) ?_
  | refine vo_ixL0 ?_ | refine vo_ixL1 ?_ | refine vo_ixL2 ?_ | refine vo_ixL3 ?_ | refine vo_ixL4 ?_ | refine vo_ixL5 ?_ | refine vo_ixL6 ?_ | refine vo_ixT0 ?_ | refine vo_ixT1 ?_ | refine vo_ixT2 ?_ | refine vo_ixT3 ?_ | refine vo_ixT4 ?_ | refine vo_ixT5 ?_ | refine vo_ixT6 ?_
  | refine vo_starts ?_ | refine vo_isBN ?_ | refine vo_isSN ?_ | refine vo_isLN ?_ | refine vo_isDN ?_ | refine vo_slX (by first | assumption | omega) ?_ | refine vo_lenX (by first | assumption | omega) ?_ | refine vo_addS (by first | assumption | omega) ?_
  | refine vo_inT ?_ | refine vo_ninT ?_ | refine vo_inL ?_ | refine vo_ninL ?_ | refine vo_inI ?_ | refine vo_ninI ?_ | refine vo_sortI (by first | assumption | omega) ?_ | refine vo_sortL ?_ | refine vo_lenI ?_ | refine vo_lt3 ?_ | refine vo_isNN ?_ | refine vo_is3N ?_ | refine vo_isTN ?_ | refine vo_isIN ?_ | refine vo_igAddI ?_ | refine vo_ixI (by assumption) ?_
  | refine vo_vwD1 (by assumption) ?_ | refine vo_vwDc (by assumption) ?_
  | refine wo_vw1 (by assumption) ?_ | refine wo_vw2 (by assumption) ?_ | refine vo_vwc (by assumption) ?_
  | (refine vo_isi (c := ?c) ?h ?q; (case h => with_unfolding_all rfl)) | (refine vo_isis (c := ?c) ?h ?q; (case h => with_unfolding_all rfl))))
local macro_rules | `(tactic| walk_at "w3") => `(tactic| first
  | with_reducible refine nb_ff ?_ | with_reducible refine nb_tt ?_ | with_reducible refine nb_ft ?_ | with_reducible refine nb_tf ?_
  | with_reducible refine ite_f ?_ | with_reducible refine ite_nt ?_ | with_reducible refine ite_nf ?_ | with_reducible refine ite_t ?_
  | ((with_reducible refine ex_id ?_); refine ⟨_, rfl, ?_⟩) | ((with_reducible refine and_id ?_); refine ⟨Nat.le_of_ble_eq_true rfl, ?_⟩))
local macro_rules | `(tactic| walk_at "w") => `(tactic| repeat (first | walk_at "w1" | walk_at "w2" | walk_at "w3"))
theorem dic_some {S : Sto} {n : Nat} {kvs : List (D × D)} (h : S[n]? = some (some (.dic false kvs))) : (dicOf S (.ref n)).isSome = true := by simp only [dicOf, h]; rfl
theorem FilOk.drop {f : FT} (h : FilOk f) (p : Str) : FilOk (dropT f p) := ⟨dropT_nd h.nd, Nat.le_trans (dropT_len f p) h.len, fun x hx => h.ok x (dropT_mem hx), h.ap.sub fun q hq => by
  obtain ⟨x, hx, rfl⟩ := List.mem_map.mp hq
  exact List.mem_map.mpr ⟨x, dropT_mem hx, rfl⟩⟩
theorem FilOk.put {f : FT} (h : FilOk f) {p : Str} {ns : List Int} (hp : PathT p) (hn : NumsOk ns) (hl : p ∈ f.map (·.1) ∨ (f.length < 8 ∧ apart p (f.map (·.1)) = true)) : FilOk (putT f p ns) := by
  refine ⟨putT_nd h.nd, ?_, fun x hx => ?_, ?_⟩
  · rcases hl with hl | hl
    · have := congrArg List.length (putT_keys (v := ns) hl)
      rw [List.length_map, List.length_map] at this
      rw [this]; exact h.len
    · have := putT_len f p ns; omega
  · rcases putT_mem hx with hx | rfl
    · exact h.ok x hx
    · exact ⟨hp, hn⟩
  · rcases hl with hl | hl
    · rw [putT_keys hl]; exact h.ap
    · refine (h.ap.put hl.2).sub fun q hq => ?_
      obtain ⟨x, hx, rfl⟩ := List.mem_map.mp hq
      rcases putT_mem hx with hx | rfl
      · exact List.mem_cons_of_mem _ (List.mem_map.mpr ⟨x, hx, rfl⟩)
      · exact List.mem_cons_self
theorem sS_mem {ts : List Str} {x : Str} : x ∈ sS ts ↔ x ∈ ts := sortBy_mem
theorem wp_bfiles {S : Sto} {n : Nat} {k : Int} {e : FT} {Q : D → Sto → Prop} {E : Px} (h : JarS S n k) (hk : k ≤ 600000000) (he : FilOk e)
    (q : ∀ f S', FilOk f → JarS S' n (k + 2000) → Keep n S S' → Q (filD f) S') : Wp (d_bfiles [.ref n, filD e] S) Q E := by
  have hn := h.lt
  unfold d_bfiles b_bfiles
  walk_at "w"
  refine wp_dictMD numD ?_
  walk_at "w"
  unfold l_bfiles_1
  have h1 : (S ++ [some (.dic false (kT numD e))])[S.length]? = some (some (.dic false (kT numD e))) := app_at
  have j0 := JarS.app (l := [some (.dic false (kT numD e))]) h
  have k0 : Keep n S (S ++ [some (.dic false (kT numD e))]) := Keep.refl.app
  generalize S ++ [some (.dic false (kT numD e))] = S0 at h1 j0 k0
  have hf : n ≠ S.length := by omega
  have hSle : S.length ≤ S.length := Nat.le_refl _
  generalize hfd : S.length = f at h1 hf
  refine ws_for [3, 4, 5] ?_
  walk_at "w"
  refine wp_bdraw j0 (by omega) (by omega) fun v S1 v0 v1 j1 o1 => ?_
  have h2 := (o1.2 f (Ne.symm hf)).trans h1
  walk_at "w"
  refine ⟨by omega, ?_⟩
  refine ⟨fun j vs S' => ∃ (a b c : Option D) (T : FT), vs = [a, b, c] ∧ S'[f]? = some (some (.dic false (kT numD T))) ∧ FilOk T ∧ JarS S' n (k + 1 + j * 300) ∧ Keep n S S', [none, none, none], rfl, rfl, ⟨none, none, none, e, rfl, h2, he, j1.mono (by omega), k0.trans (.only o1)⟩, ?_, ?_⟩
  · rintro j d vs S2 hj hv ⟨a, b, c, T, rfl, h3, hT, j2, k2⟩
    have hj' := (List.getElem?_eq_some_iff.mp hj).1
    rw [iRng_len] at hj'
    have hTl := hT.len
    refine ⟨_, rfl, ?_⟩
    unfold lb_bfiles_1
    dsimp only [putAll, List.set_cons_zero, List.set_cons_succ]
    walk_at "w"
    refine vo_vwTc h3 (vo_sortTb (by omega) ?_)
    walk_at "w"
    refine wp_bpath j2 (by omega) fun p0 S3 hp0 j3 o3 => ?_
    have h4 := (o3.2 f (Ne.symm hf)).trans h3
    have k3 := k2.trans (.only o3)
    walk_at "w"
    refine ws_midT (fun fl S' => ∃ p : Str, PathT p ∧ fl = .nx [some (.ref n), some (filD e), some (.ref f), some d, some (.lst ((sS (T.map (·.1))).map .str)), some (.str p)] ∧ S'[f]? = some (some (.dic false (kT numD T))) ∧ JarS S' n (k + 1 + (j : Int) * 300 + 110) ∧ Keep n S S') ?_ ?_
    · unfold i_bfiles_1
      walk_at "w"
      have hts := txts_sd (k := 27) (xs := sS (T.map (·.1))) fun x hx => by
        obtain ⟨y, hy, rfl⟩ := List.mem_map.mp (sS_mem.mp hx)
        exact (hT.ok y hy).1.txt
      refine vo_neNil hts.1 (by omega) ?_
      refine ⟨_, rfl, fun hne => ?_, fun _ => ?_⟩
      · have hl0 : (sS (T.map (·.1))).length ≠ 0 := fun e => by
          rw [List.length_eq_zero_iff] at e
          rw [e] at hne
          simp at hne
        have hl8 : (sS (T.map (·.1))).length ≤ 8 := by unfold sS; rw [sortBy_len, List.length_map]; exact hTl
        walk_at "w"
        refine wp_bdraw j3 (by omega) (by omega) fun w S4 w0 w1 j4 o4 => ?_
        walk_at "w"
        refine ite_d (fun _ => ?_) (fun _ => ?_)
        · walk_at "w"
          rw [List.length_map]
          refine wp_bdraw j4 (by omega) (by omega) fun u S5 u0 u1 j5 o5 => ?_
          have eu : L2.atI ((sS (T.map (·.1))).map D.str) u = some (.str ((sS (T.map (·.1)))[u.toNat]'(by omega))) := by rw [atI_in u0 (by rw [List.length_map]; omega), List.getElem_map]
          have hpu : PathT ((sS (T.map (·.1)))[u.toNat]'(by omega)) := by
            obtain ⟨y, hy, e⟩ := List.mem_map.mp (sS_mem.mp (List.getElem_mem (l := sS (T.map (·.1))) (n := u.toNat) (by omega)))
            rw [← e]
            exact (hT.ok y hy).1
          refine wo_ixL eu ?_
          exact ⟨_, hpu, rfl, (o5.2 f (Ne.symm hf)).trans ((o4.2 f (Ne.symm hf)).trans h4), j5.mono (by omega), (k3.trans (.only o4)).trans (.only o5)⟩
        · walk_at "w"
          exact ⟨p0, hp0, rfl, (o4.2 f (Ne.symm hf)).trans h4, j4.mono (by omega), k3.trans (.only o4)⟩
      · walk_at "w"
        exact ⟨p0, hp0, rfl, h4, j3.mono (by omega), k3⟩
    rintro fl S4 ⟨p, hp, rfl, h5, j5, k5⟩
    walk_at "w"
    unfold i_bfiles_3
    walk_at "w"
    refine vo_vwT2 h5 (vo_inTb ?_)
    have els : ∀ {S5 : Sto} {EX : Xs}, S5[f]? = some (some (.dic false (kT numD T))) → JarS S5 n (k + 1 + (j : Int) * 300 + 120) → Keep n S S5 → Ws (i_bfiles_2 [some (.ref n), some (filD e), some (.ref f), some d, some (.lst ((sS (T.map (·.1))).map .str)), some (.str p)] S5) (fun fl S' => ∃ (T' : FT), fl = .nx [some (.ref n), some (filD e), some (.ref f), some d, some (.lst ((sS (T.map (·.1))).map .str)), some (.str p)] ∧ S'[f]? = some (some (.dic false (kT numD T'))) ∧ FilOk T' ∧ JarS S' n (k + 1 + (j : Int) * 300 + 250) ∧ Keep n S S') EX := by
      intro S5 EX h6 j6 k6
      unfold i_bfiles_2
      have put : (p ∈ T.map (·.1) ∨ (T.length < 8 ∧ apart p (T.map (·.1)) = true)) → Ws (sSetIx (eVar 2) (eVar 5) (eFn d_bnumbers [eVar 0]) [some (.ref n), some (filD e), some (.ref f), some d, some (.lst ((sS (T.map (·.1))).map .str)), some (.str p)] S5) (fun fl S' => ∃ (T' : FT), fl = .nx [some (.ref n), some (filD e), some (.ref f), some d, some (.lst ((sS (T.map (·.1))).map .str)), some (.str p)] ∧ S'[f]? = some (some (.dic false (kT numD T'))) ∧ FilOk T' ∧ JarS S' n (k + 1 + (j : Int) * 300 + 250) ∧ Keep n S S') EX := by
        intro hc
        refine ws_setTb numD ?_
        walk_at "w"
        refine wp_bnumbers j6 (by omega) fun ns S6 hns j7 k7 => ?_
        have hlt : f < S5.length := (List.getElem?_eq_some_iff.mp h6).1
        have h7 := (k7.eq f hlt (Ne.symm hf)).trans h6
        walk_at "w"
        refine ⟨f, T, p, ns, rfl, rfl, rfl, h7, by omega, putT T p ns, rfl, set_at h7, hT.put hp hns hc, JarS.set (j7.mono (by omega)) hf, (k6.trans k7).set (by omega)⟩
      walk_at "w"
      refine vo_vwT2 h6 (vo_inTb ?_)
      refine ⟨_, rfl, fun hin => ?_, fun hin => ?_⟩
      · exact ⟨fun _ => put (.inl (of_decide_eq_true hin)), fun z => (by cases z)⟩
      · walk_at "w"
        refine vo_vwTc h6 (vo_lenTb ?_)
        walk_at "w"
        refine ite_d (fun hl => ?_) (fun hl => ?_)
        · walk_at "w"
          refine vo_vwTc h6 (vo_listTb ?_)
          walk_at "w"
          refine wp_bis_apart (Nat.le_trans hp.len (by omega)) (fun o ho => ?_) ?_
          · obtain ⟨y, hy, rfl⟩ := List.mem_map.mp ho
            exact Nat.le_trans (hT.ok y hy).1.len (by omega)
          walk_at "w"
          refine ⟨fun hap => put (.inr ⟨by omega, hap⟩), fun _ => ?_⟩
          walk_at "w"
          exact ⟨T, rfl, h6, hT, j6.mono (by omega), k6⟩
        · walk_at "w"
          exact ⟨T, rfl, h6, hT, j6.mono (by omega), k6⟩
    refine ⟨_, rfl, fun hin => ?_, fun hin => ?_⟩
    · obtain ⟨ns, hns⟩ := getT_has (of_decide_eq_true hin)
      walk_at "w"
      refine wp_bdraw j5 (by omega) (by omega) fun w S5 w0 w1 j6 o6 => ?_
      have h6 := (o6.2 f (Ne.symm hf)).trans h5
      have k6 := k5.trans (.only o6)
      walk_at "w"
      refine ite_d (fun _ => ?_) (fun _ => ?_)
      · walk_at "w"
        refine wp_popD1T numD ?_
        walk_at "w"
        refine ⟨dic_some h6, ?_⟩
        walk_at "w"
        refine ⟨f, T, p, ns, rfl, rfl, h6, hns, ?_⟩
        walk_at "w"
        exact ⟨[_, _, _], rfl, rfl, _, _, _, dropT T p, rfl, set_at h6, hT.drop p, JarS.set (j6.mono (by omega)) hf, k6.set (by omega)⟩
      · refine (els h6 (j6.mono (by omega)) k6).mono fun fl S' ⟨T', e, a1, a2, a3, a4⟩ => ?_
        subst e
        walk_at "w"
        exact ⟨[_, _, _], rfl, rfl, _, _, _, T', rfl, a1, a2, a3.mono (by omega), a4⟩
    · refine ⟨fun z => (by cases z), fun _ => ?_⟩
      refine (els h5 (j5.mono (by omega)) k5).mono fun fl S' ⟨T', e, a1, a2, a3, a4⟩ => ?_
      subst e
      walk_at "w"
      exact ⟨[_, _, _], rfl, rfl, _, _, _, T', rfl, a1, a2, a3.mono (by omega), a4⟩
  · rintro vs S2 hv ⟨a, b, c, T, rfl, h3, hT, j2, k2⟩
    rw [iRng_len] at j2
    refine ws_frzA rfl h3 ?_
    dsimp only [putAll, List.set_cons_zero, List.set_cons_succ]
    walk_at "w"
    exact q T _ hT (JarS.set (j2.mono (by omega)) hf) (k2.set (by omega))
end LO
set_option Elab.async false
set_option linter.all false
set_option maxRecDepth 100000
set_option maxHeartbeats 4000000
namespace LO
open DL PySem LB LM
local macro_rules | `(tactic| walk_at "w1") => `(tactic| with_reducible first
  | (refine ws_then ?_; try with_reducible dsimp only [List.set_cons_zero, List.set_cons_succ]) | refine ws_seq ?_ | refine ws_asg ?_ | refine ws_expr ?_ | refine ws_ret ?_ | refine ws_if ?_ | refine ws_asgT ?_ | refine ws_skip ?_ | refine ws_retN ?_ | refine ws_brk ?_ | refine ws_cont ?_ | refine ws_thenR ?_ | refine ws_thenB ?_ | refine ws_thenC ?_ | refine fq_rt ?_ | refine fq_nx ?_ | refine un_nx ?_ | refine un_ct ?_ | refine un_bk ?_ | refine un_rt ?_ | refine ws_loopN ?_
  | (refine ws_loopC (ρ1 := ?r) ?h ?q; (case h => with_unfolding_all rfl); try with_reducible dsimp only [List.set_cons_zero, List.set_cons_succ])
  | refine wp_c ?_ | refine wp_op2 ?_ | refine wp_fn ?_ | refine wp_cons ?_ | refine wp_nil ?_ | refine wp_call ?_ | refine wp_op1 ?_
  | (refine wp_var (d := ?d) ?h ?q; (case h => with_unfolding_all rfl))
  | (refine ws_aug (d := ?d) ?h ?q; (case h => with_unfolding_all rfl))
  | refine wp_tup ?_ | refine wp_lst ?_ | refine wp_lstM ?_ | refine wp_listM ?_
  | refine wp_sl0 ?_ | refine wp_sl1 ?_ | refine wp_sl2 ?_ | refine wp_sl3 ?_
  | refine wp_tval ?_ | refine wp_tnot ?_ | refine wp_tand ?_ | refine wp_tor ?_ | refine wp_tyes ?_ | refine wp_and ?_ | refine wp_or ?_ | refine wp_not ?_ | refine wp_ifx ?_ | refine wp_chain ?_ | refine wp_meth ?_ | refine wp_meth0 ?_
  | refine wp_isi ?_ | refine wp_isis ?_ | refine wp_repr ?_ | refine wp_maxD ?_ | refine wi_rng3 ?_
  | refine wp_str1 ?_ | refine ws_par ?_ | refine wp_dnew ?_ | refine wp_get2 ?_ | refine wp_reprQ ?_ | refine wp_fnK ?_ | refine wi_valsI ?_ | refine wi_itemsI ?_ | refine ws_augI ?_
  | refine wi_seq ?_ | refine wi_rng1 ?_ | refine wi_rng2 ?_ | refine wi_zip2 ?_ | refine wi_zipS ?_
  | (refine wp_fnB (ρ := ?ρ) ?he ?_; (case he => (simp only [List.map_cons, List.map_nil, List.length_cons, List.length_nil, List.replicate, List.cons_append, List.nil_append, Nat.reduceAdd, Nat.reduceSub]; rfl))))
local macro_rules | `(tactic| walk_at "w2") => `(tactic| ((with_reducible refine wo_id ?_); with_reducible first
  | refine vo_sub ?_ | refine vo_add ?_ | refine vo_lt ?_ | refine vo_le ?_ | refine vo_gt ?_ | refine vo_ge ?_ | refine vo_eq ?_ | refine vo_ne ?_ | refine vo_eqS ?_ | refine vo_neS ?_ | refine vo_eqB ?_ | refine vo_neB ?_ | refine vo_neg ?_ | refine vo_slT ?_ | refine vo_slL ?_ | refine vo_slS ?_ | refine vo_lenT ?_ | refine vo_lenL ?_ | refine vo_lenS ?_ | refine vo_revT ?_ | refine vo_revL ?_ | refine vo_min ?_ | refine vo_max ?_ | refine vo_tupL ?_ | refine vo_tupT ?_ | refine vo_lisL ?_ | refine vo_lisT ?_
  | refine vo_igAdd ?_ | refine vo_igMulR (by omega) ?_ | refine vo_igMulL (by omega) ?_ | refine vo_mod (by omega) ?_ | refine vo_div (by omega) ?_ | refine vo_mulR (by omega) ?_ | refine vo_mulL (by omega) ?_
  | refine vo_ixL0 ?_ | refine vo_ixL1 ?_ | refine vo_ixL2 ?_ | refine vo_ixL3 ?_ | refine vo_ixL4 ?_ | refine vo_ixL5 ?_ | refine vo_ixL6 ?_ | refine vo_ixT0 ?_ | refine vo_ixT1 ?_ | refine vo_ixT2 ?_ | refine vo_ixT3 ?_ | refine vo_ixT4 ?_ | refine vo_ixT5 ?_ | refine vo_ixT6 ?_
  | refine vo_starts ?_ | refine vo_isBN ?_ | refine vo_isSN ?_ | refine vo_isLN ?_ | refine vo_isDN ?_ | refine vo_slX (by first | assumption | omega) ?_ | refine vo_lenX (by first | assumption | omega) ?_ | refine vo_addS (by first | assumption | omega) ?_
  | refine vo_inT ?_ | refine vo_ninT ?_ | refine vo_inL ?_ | refine vo_ninL ?_ | refine vo_inI ?_ | refine vo_ninI ?_ | refine vo_sortI (by first | assumption | omega) ?_ | refine vo_sortL ?_ | refine vo_lenI ?_ | refine vo_lt3 ?_ | refine vo_isNN ?_ | refine vo_is3N ?_ | refine vo_isTN ?_ | refine vo_isIN ?_ | refine vo_igAddI ?_ | refine vo_ixI (by assumption) ?_
  | refine vo_vwD1 (by assumption) ?_ | refine vo_vwDc (by assumption) ?_
  | refine wo_vw1 (by assumption) ?_ | refine wo_vw2 (by assumption) ?_ | refine vo_vwc (by assumption) ?_
  | (refine vo_isi (c := ?c) ?h ?q; (case h => with_unfolding_all rfl)) | (refine vo_isis (c := ?c) ?h ?q; (case h => with_unfolding_all rfl))))
local macro_rules | `(tactic| walk_at "w3") => `(tactic| first
  | with_reducible refine nb_ff ?_ | with_reducible refine nb_tt ?_ | with_reducible refine nb_ft ?_ | with_reducible refine nb_tf ?_
  | with_reducible refine ite_f ?_ | with_reducible refine ite_nt ?_ | with_reducible refine ite_nf ?_ | with_reducible refine ite_t ?_
  | ((with_reducible refine ex_id ?_); refine ⟨_, rfl, ?_⟩) | ((with_reducible refine and_id ?_); refine ⟨Nat.le_of_ble_eq_true rfl, ?_⟩))
local macro_rules | `(tactic| walk_at "w") => `(tactic| repeat (first | walk_at "w1" | walk_at "w2" | walk_at "w3"))
theorem toPs_ints (xs : List Int) : toPs (xs.map .int) = some (xs.map PyData.int) := by
  induction xs with
  | nil => rfl
  | cons x xs ih => simp [toPs, toP, ih]
theorem sds_ints (xs : List Int) : sds (xs.map .int) = true ∧ dpDs (xs.map D.int) = 0 := by
  induction xs with
  | nil => exact ⟨rfl, rfl⟩
  | cons x xs ih => simp [sds, sd, dpDs, dpD, ih.1, ih.2]
theorem eqv_ints : ∀ xs ys : List Int, PyData.eqvAll (xs.map PyData.int) (ys.map PyData.int) = decide (xs = ys)
  | [], [] => by simp [PyData.eqvAll]
  | [], y :: ys => by simp [PyData.eqvAll]
  | x :: xs, [] => by simp [PyData.eqvAll]
  | x :: xs, y :: ys => by
    rw [List.map_cons, List.map_cons]
    simp only [PyData.eqvAll, eqv_ints xs ys, List.cons.injEq, Bool.decide_and, PyData.eqv]
    try congr 1
    try (rw [Bool.eq_iff_iff]; simp)
theorem shaped_ints (xs : List Int) : SeqAt.shaped (.tuple (xs.map PyData.int)) = true := by
  obtain ⟨p, h1, h2⟩ := sd_shaped (d := numD xs) (by simp only [sd]; exact (sds_ints xs).1) (by simp only [dpD, (sds_ints xs).2]; omega)
  have : toP (numD xs) = some (.tuple (xs.map PyData.int)) := by simp [toP, toPs_ints]
  rw [this] at h1
  cases h1
  exact h2
theorem eqB_nums (a b : List Int) : eqB (numD a) (numD b) = some (decide (a = b)) := by
  have e1 : eqS (numD a) (numD b) = none := rfl
  unfold eqB
  rw [e1]
  simp only [toP, toPs_ints, Option.map_some, shaped_ints, Bool.and_self, if_true, PyData.eqv, eqv_ints]
theorem eqB_optN (a : Option (List Int)) (b : List Int) : eqB (optD a) (numD b) = some (decide (a = some b)) := by
  cases a with
  | some a => rw [show optD (some a) = numD a from rfl, eqB_nums]; simp
  | none =>
    have e1 : eqS D.non (numD b) = none := rfl
    have s1 : SeqAt.shaped PyData.none = true := by simp [SeqAt.shaped, PyData.canLay0, PyData.depth]
    show eqB D.non (numD b) = _
    unfold eqB
    rw [e1]
    simp only [toP, toPs_ints, Option.map_some, shaped_ints, s1, Bool.and_self, if_true, PyData.eqv]
    try rfl
theorem view_opt {S : Sto} (a : Option (List Int)) : view S (optD a) = optD a := by cases a <;> rfl
theorem vo_neOpt {S : Sto} {Q : D → Prop} {a : Option (List Int)} {b : List Int} (q : Q (.bl (!decide (a = some b)))) : Wo (neD (view S (optD a)) (view S (numD b))) Q := by
  rw [view_opt]
  exact .of (by show (eqB (optD a) (numD b)).map _ = _; rw [eqB_optN]; rfl) q
theorem dkl_T {α : Type} (f : α → D) (l : List (Str × α)) : dkl (dT f l) = some (l.map fun p => .str p.1) := by
  show some ((kT f l).map (·.1)) = _
  unfold kT
  rw [List.map_map]
  rfl
theorem get_fm {α β : Type} {l : List (Str × α)} (h : (l.map (·.1)).Nodup) (c : Str × α → Bool) (g : Str × α → β) (k : Str) : getT ((l.filter c).map fun p => (p.1, g p)) k = match getT l k with
    | some v => if c (k, v) = true then some (g (k, v)) else none
    | none => none := by
  induction l with
  | nil => rfl
  | cons p l ih =>
    rw [List.map_cons, List.nodup_cons] at h
    have ih := ih h.2
    rw [List.filter_cons]
    by_cases e : p.1 = k
    · have e2 : getT (p :: l) k = some p.2 := by show (if p.1 = k then _ else _) = _; rw [if_pos e]
      have e3 : getT l k = none := getT_none.mpr (by rw [← e]; exact h.1)
      rw [e2]
      rw [e3] at ih
      have ep : p = (k, p.2) := by rw [← e]
      dsimp only
      rw [← ep]
      split
      · rw [List.map_cons]
        show (if p.1 = k then _ else _) = _
        rw [if_pos e]
      · exact ih
    · have e2 : getT (p :: l) k = getT l k := by show (if p.1 = k then _ else _) = _; rw [if_neg e]
      rw [e2, ← ih]
      split
      · rw [List.map_cons]
        show (if p.1 = k then _ else _) = _
        rw [if_neg e]
      · rfl
theorem look_put {e f : FT} {rows : RT} (h : Step e rows f) (p : Str) : Step e (putT rows p (getT f p)) f := by
  intro q
  unfold look
  rw [get_putT]
  by_cases hq : p = q
  · rw [if_pos hq, hq]
  · rw [if_neg hq]; exact h q
theorem get_perm {α : Type} {l m : List (Str × α)} (h : (l.map (·.1)).Nodup) (hp : m.Perm l) (k : Str) : getT m k = getT l k := by
  have hm : (m.map (·.1)).Nodup := (hp.map (·.1)).nodup_iff.mpr h
  cases e : getT l k with
  | none =>
    rw [getT_none] at e ⊢
    exact fun z => e ((hp.map (·.1)).mem_iff.mp z)
  | some v => exact mem_getT hm (hp.mem_iff.mpr (getT_mem e))
theorem RowOk.put {r : RT} {n : Nat} (h : (r.map (·.1)).Nodup ∧ r.length ≤ n ∧ ∀ p ∈ r, PathT p.1 ∧ ∀ ns, p.2 = some ns → NumsOk ns) {p : Str} {v : Option (List Int)} (hp : PathT p) (hv : ∀ ns, v = some ns → NumsOk ns) :
    ((putT r p v).map (·.1)).Nodup ∧ (putT r p v).length ≤ n + 1 ∧ ∀ x ∈ putT r p v, PathT x.1 ∧ ∀ ns, x.2 = some ns → NumsOk ns := by
  refine ⟨putT_nd h.1, Nat.le_trans (putT_len r p v) (by omega), fun x hx => ?_⟩
  rcases putT_mem hx with hx | rfl
  · exact h.2.2 x hx
  · exact ⟨hp, hv⟩
theorem sT_pw {α : Type} (f : List (Str × α)) : ((sT f).map (·.1)).Pairwise fun a b => ltKb (.inr b) (.inr a) = false := by
  rw [List.pairwise_map]
  exact sortBy_pw f
/-- all keys are those of the files or of what went -/
def KeysIn (e f : FT) (r : RT) : Prop := ∀ q ∈ r.map (·.1), q ∈ f.map (·.1) ∨ q ∈ (e.filter fun p => !decide (p.1 ∈ f.map (·.1))).map (·.1)
theorem KeysIn.len {e f : FT} {r : RT} (h : KeysIn e f r) (hn : (r.map (·.1)).Nodup) (he : e.length ≤ 8) (hf : f.length ≤ 8) : r.length ≤ 16 := by
  have := hn.length_le_of_subset (l₂ := f.map (·.1) ++ (e.filter fun p => !decide (p.1 ∈ f.map (·.1))).map (·.1)) fun q hq => List.mem_append.mpr (h q hq)
  rw [List.length_append, List.length_map, List.length_map, List.length_map] at this
  have := List.length_filter_le (fun p => !decide (p.1 ∈ f.map (·.1))) e
  omega
theorem KeysIn.put {e f : FT} {r : RT} (h : KeysIn e f r) {p : Str} {v : Option (List Int)} (hp : p ∈ f.map (·.1)) : KeysIn e f (putT r p v) := fun q hq => by
  obtain ⟨x, hx, rfl⟩ := List.mem_map.mp hq
  rcases putT_mem hx with hx | rfl
  · exact h _ (List.mem_map.mpr ⟨x, hx, rfl⟩)
  · exact .inl hp
def rows0 (e f : FT) : RT := (f.filter fun p => !decide (getT e p.1 = some p.2)).map fun p => (p.1, some p.2)
def rows1 (e f : FT) : RT := (e.filter fun p => !decide (p.1 ∈ f.map (·.1))).map fun p => (p.1, none)
theorem rows_nd {e f : FT} (he : FilOk e) (hf : FilOk f) : ((rows0 e f ++ rows1 e f).map (·.1)).Nodup := by
  have m0 : (rows0 e f).map (·.1) = (f.filter fun p => !decide (getT e p.1 = some p.2)).map (·.1) := by unfold rows0; rw [List.map_map]; rfl
  have m1 : (rows1 e f).map (·.1) = (e.filter fun p => !decide (p.1 ∈ f.map (·.1))).map (·.1) := by unfold rows1; rw [List.map_map]; rfl
  rw [List.map_append, m0, m1, List.nodup_append]
  refine ⟨hf.nd.sublist (List.filter_sublist.map _), he.nd.sublist (List.filter_sublist.map _), fun a ha b hb eab => ?_⟩
  subst eab
  obtain ⟨x, hx, rfl⟩ := List.mem_map.mp ha
  obtain ⟨y, hy, e2⟩ := List.mem_map.mp hb
  have h1 := (List.mem_filter.mp hx).1
  have h2 := (List.mem_filter.mp hy).2
  rw [e2] at h2
  have h3 : x.1 ∈ f.map (·.1) := List.mem_map.mpr ⟨x, h1, rfl⟩
  rw [decide_eq_true h3] at h2
  cases h2
theorem rows_step {e f : FT} (he : FilOk e) (hf : FilOk f) : Step e (rows0 e f ++ rows1 e f) f := by
  intro p
  unfold look
  rw [get_app]
  have g0 := get_fm hf.nd (fun p => !decide (getT e p.1 = some p.2)) (fun p => some p.2) p
  have g1 := get_fm he.nd (fun p => !decide (p.1 ∈ f.map (·.1))) (fun _ => (none : Option (List Int))) p
  rw [show getT (rows0 e f) p = _ from g0, show getT (rows1 e f) p = _ from g1]
  dsimp only
  cases ef : getT f p with
  | some v =>
    dsimp only
    have hin : p ∈ f.map (·.1) := List.mem_map.mpr ⟨_, getT_mem ef, rfl⟩
    by_cases hc : getT e p = some v
    · rw [decide_eq_true hc, hc]
      simp [hin]
    · rw [decide_eq_false hc]
      simp
  | none =>
    have hin : p ∉ f.map (·.1) := getT_none.mp ef
    dsimp only
    rw [Option.none_or]
    rcases ee : getT e p with _ | v
    · rfl
    · simp [hin]
theorem rows_keys (e f : FT) : KeysIn e f (rows0 e f ++ rows1 e f) := fun q hq => by
  rw [List.map_append, List.mem_append] at hq
  rcases hq with hq | hq
  · left
    obtain ⟨x, hx, rfl⟩ := List.mem_map.mp hq
    obtain ⟨y, hy, rfl⟩ := List.mem_map.mp hx
    exact List.mem_map.mpr ⟨y, (List.mem_filter.mp hy).1, rfl⟩
  · right
    obtain ⟨x, hx, rfl⟩ := List.mem_map.mp hq
    obtain ⟨y, hy, rfl⟩ := List.mem_map.mp hx
    exact List.mem_map.mpr ⟨y, hy, rfl⟩
end LO
set_option Elab.async false
set_option linter.all false
set_option maxRecDepth 100000
set_option maxHeartbeats 4000000
namespace LO
open DL PySem LB LM
local macro_rules | `(tactic| walk_at "w1") => `(tactic| with_reducible first
  | (refine ws_then ?_; try with_reducible dsimp only [List.set_cons_zero, List.set_cons_succ]) | refine ws_seq ?_ | refine ws_asg ?_ | refine ws_expr ?_ | refine ws_ret ?_ | refine ws_if ?_ | refine ws_asgT ?_ | refine ws_skip ?_ | refine ws_retN ?_ | refine ws_brk ?_ | refine ws_cont ?_ | refine ws_thenR ?_ | refine ws_thenB ?_ | refine ws_thenC ?_ | refine fq_rt ?_ | refine fq_nx ?_ | refine un_nx ?_ | refine un_ct ?_ | refine un_bk ?_ | refine un_rt ?_ | refine ws_loopN ?_
  | (refine ws_loopC (ρ1 := ?r) ?h ?q; (case h => with_unfolding_all rfl); try with_reducible dsimp only [List.set_cons_zero, List.set_cons_succ])
  | refine wp_c ?_ | refine wp_op2 ?_ | refine wp_fn ?_ | refine wp_cons ?_ | refine wp_nil ?_ | refine wp_call ?_ | refine wp_op1 ?_
  | (refine wp_var (d := ?d) ?h ?q; (case h => with_unfolding_all rfl))
  | (refine ws_aug (d := ?d) ?h ?q; (case h => with_unfolding_all rfl))
  | refine wp_tup ?_ | refine wp_lst ?_ | refine wp_lstM ?_ | refine wp_listM ?_
  | refine wp_sl0 ?_ | refine wp_sl1 ?_ | refine wp_sl2 ?_ | refine wp_sl3 ?_
  | refine wp_tval ?_ | refine wp_tnot ?_ | refine wp_tand ?_ | refine wp_tor ?_ | refine wp_tyes ?_ | refine wp_and ?_ | refine wp_or ?_ | refine wp_not ?_ | refine wp_ifx ?_ | refine wp_chain ?_ | refine wp_meth ?_ | refine wp_meth0 ?_
  | refine wp_isi ?_ | refine wp_isis ?_ | refine wp_repr ?_ | refine wp_maxD ?_ | refine wi_rng3 ?_
  | refine wp_str1 ?_ | refine ws_par ?_ | refine wp_dnew ?_ | refine wp_get2 ?_ | refine wp_reprQ ?_ | refine wp_fnK ?_ | refine wi_valsI ?_ | refine wi_itemsI ?_ | refine ws_augI ?_
  | refine wi_seq ?_ | refine wi_rng1 ?_ | refine wi_rng2 ?_ | refine wi_zip2 ?_ | refine wi_zipS ?_
  | (refine wp_fnB (ρ := ?ρ) ?he ?_; (case he => (simp only [List.map_cons, List.map_nil, List.length_cons, List.length_nil, List.replicate, List.cons_append, List.nil_append, Nat.reduceAdd, Nat.reduceSub]; rfl))))
local macro_rules | `(tactic| walk_at "w2") => `(tactic| ((with_reducible refine wo_id ?_); with_reducible first
  | refine vo_sub ?_ | refine vo_add ?_ | refine vo_lt ?_ | refine vo_le ?_ | refine vo_gt ?_ | refine vo_ge ?_ | refine vo_eq ?_ | refine vo_ne ?_ | refine vo_eqS ?_ | refine vo_neS ?_ | refine vo_eqB ?_ | refine vo_neB ?_ | refine vo_neg ?_ | refine vo_slT ?_ | refine vo_slL ?_ | refine vo_slS ?_ | refine vo_lenT ?_ | refine vo_lenL ?_ | refine vo_lenS ?_ | refine vo_revT ?_ | refine vo_revL ?_ | refine vo_min ?_ | refine vo_max ?_ | refine vo_tupL ?_ | refine vo_tupT ?_ | refine vo_lisL ?_ | refine vo_lisT ?_
  | refine vo_igAdd ?_ | refine vo_igMulR (by omega) ?_ | refine vo_igMulL (by omega) ?_ | refine vo_mod (by omega) ?_ | refine vo_div (by omega) ?_ | refine vo_mulR (by omega) ?_ | refine vo_mulL (by omega) ?_
  | refine vo_ixL0 ?_ | refine vo_ixL1 ?_ | refine vo_ixL2 ?_ | refine vo_ixL3 ?_ | refine vo_ixL4 ?_ | refine vo_ixL5 ?_ | refine vo_ixL6 ?_ | refine vo_ixT0 ?_ | refine vo_ixT1 ?_ | refine vo_ixT2 ?_ | refine vo_ixT3 ?_ | refine vo_ixT4 ?_ | refine vo_ixT5 ?_ | refine vo_ixT6 ?_
  | refine vo_starts ?_ | refine vo_isBN ?_ | refine vo_isSN ?_ | refine vo_isLN ?_ | refine vo_isDN ?_ | refine vo_slX (by first | assumption | omega) ?_ | refine vo_lenX (by first | assumption | omega) ?_ | refine vo_addS (by first | assumption | omega) ?_
  | refine vo_inT ?_ | refine vo_ninT ?_ | refine vo_inL ?_ | refine vo_ninL ?_ | refine vo_inI ?_ | refine vo_ninI ?_ | refine vo_sortI (by first | assumption | omega) ?_ | refine vo_sortL ?_ | refine vo_lenI ?_ | refine vo_lt3 ?_ | refine vo_isNN ?_ | refine vo_is3N ?_ | refine vo_isTN ?_ | refine vo_isIN ?_ | refine vo_igAddI ?_ | refine vo_ixI (by assumption) ?_
  | refine vo_vwD1 (by assumption) ?_ | refine vo_vwDc (by assumption) ?_
  | refine wo_vw1 (by assumption) ?_ | refine wo_vw2 (by assumption) ?_ | refine vo_vwc (by assumption) ?_
  | (refine vo_isi (c := ?c) ?h ?q; (case h => with_unfolding_all rfl)) | (refine vo_isis (c := ?c) ?h ?q; (case h => with_unfolding_all rfl))))
local macro_rules | `(tactic| walk_at "w3") => `(tactic| first
  | with_reducible refine nb_ff ?_ | with_reducible refine nb_tt ?_ | with_reducible refine nb_ft ?_ | with_reducible refine nb_tf ?_
  | with_reducible refine ite_f ?_ | with_reducible refine ite_nt ?_ | with_reducible refine ite_nf ?_ | with_reducible refine ite_t ?_
  | ((with_reducible refine ex_id ?_); refine ⟨_, rfl, ?_⟩) | ((with_reducible refine and_id ?_); refine ⟨Nat.le_of_ble_eq_true rfl, ?_⟩))
local macro_rules | `(tactic| walk_at "w") => `(tactic| repeat (first | walk_at "w1" | walk_at "w2" | walk_at "w3"))
theorem wp_brows {S : Sto} {n : Nat} {k : Int} {e f : FT} {Q : D → Sto → Prop} {E : Px} (h : JarS S n k) (hk : k ≤ 600000000) (he : FilOk e) (hf : FilOk f)
    (q : ∀ rows S', RowOk rows → Step e rows f → JarS S' n (k + 200) → Keep n S S' → Q (rowsD rows) S') : Wp (d_brows [.ref n, filD e, filD f] S) Q E := by
  have hn := h.lt
  have hel := he.len
  have hfl := hf.len
  unfold d_brows b_brows
  walk_at "w"
  refine wp_dictMT optD ?_
  unfold c_brows_1
  refine wp_comp_map f (fun p => .str p.1) (fun p => !decide (getT e p.1 = some p.2)) (fun p => .tup [.str p.1, numD p.2]) (by omega) ?_
  walk_at "w"
  refine ⟨_, Or.inr (dkl_T numD f), rfl, fun p hp => ⟨_, rfl, ?_, fun _ => ?_⟩, ?_⟩
  · unfold ct_brows_1
    have gp := mem_getT hf.nd (k := p.1) (v := p.2) hp
    refine wp_tval (wp_op2 (wp_get2T numD ?_))
    walk_at "w"
    refine ⟨rfl, ?_⟩
    walk_at "w"
    refine ⟨e, p.1, rfl, rfl, ?_⟩
    have eo : ((getT e p.1).map numD).getD .non = optD (getT e p.1) := by cases getT e p.1 <;> rfl
    rw [eo]
    walk_at "w"
    refine vo_ixTb gp ?_
    walk_at "w"
    refine vo_neOpt ?_
    exact ⟨_, rfl, rfl, rfl⟩
  · unfold ce_brows_1
    have gp := mem_getT hf.nd (k := p.1) (v := p.2) hp
    walk_at "w"
    refine vo_ixTb gp ?_
    walk_at "w"
    exact ⟨rfl, rfl⟩
  refine ⟨rows0 e f, by unfold rows0; rw [List.map_map]; rfl, ?_⟩
  have hnd := rows_nd he hf
  have hnd0 : ((rows0 e f).map (·.1)).Nodup := by rw [List.map_append, List.nodup_append] at hnd; exact hnd.1
  have hnd1 : ((rows1 e f).map (·.1)).Nodup := by rw [List.map_append, List.nodup_append] at hnd; exact hnd.2.1
  have l0 : (rows0 e f).length ≤ 8 := by
    unfold rows0
    rw [List.length_map]
    exact Nat.le_trans (List.length_filter_le ..) hfl
  have l1 : (rows1 e f).length ≤ 8 := by
    unfold rows1
    rw [List.length_map]
    exact Nat.le_trans (List.length_filter_le ..) hel
  rw [mergT_nil hnd0]
  have h1 : (S ++ [some (Ob.dic false (kT optD (rows0 e f)))])[S.length]? = some (some (Ob.dic false (kT optD (rows0 e f)))) := app_at
  have j0 := JarS.app (l := [some (Ob.dic false (kT optD (rows0 e f)))]) h
  have k0 : Keep n S (S ++ [some (Ob.dic false (kT optD (rows0 e f)))]) := Keep.refl.app
  generalize S ++ [some (Ob.dic false (kT optD (rows0 e f)))] = S0 at h1 j0 k0
  have hfn : n ≠ S.length := by omega
  have hSle : S.length ≤ S.length := Nat.le_refl _
  generalize hfd : S.length = c at h1 hfn
  walk_at "w"
  refine wp_updT optD ?_
  walk_at "w"
  refine ⟨dic_some h1, ?_⟩
  refine wp_dictMT optD ?_
  unfold c_brows_2
  refine wp_comp_map e (fun p => .str p.1) (fun p => !decide (p.1 ∈ f.map (·.1))) (fun p => .tup [.str p.1, .non]) (by omega) ?_
  walk_at "w"
  refine ⟨_, Or.inr (dkl_T numD e), rfl, fun p hp => ⟨_, rfl, ?_, fun _ => ?_⟩, ?_⟩
  · unfold ct_brows_2
    walk_at "w"
    refine vo_ninTb ?_
    exact ⟨_, rfl, rfl, rfl⟩
  · unfold ce_brows_2
    walk_at "w"
    exact ⟨rfl, rfl⟩
  refine ⟨rows1 e f, by unfold rows1; rw [List.map_map]; rfl, ?_⟩
  rw [mergT_nil hnd1]
  have hc : c < S0.length := (List.getElem?_eq_some_iff.mp h1).1
  have h2 : (S0 ++ [some (Ob.dic false (kT optD (rows1 e f)))])[c]? = some (some (Ob.dic false (kT optD (rows0 e f)))) := by rw [List.getElem?_append_left hc]; exact h1
  refine ⟨c, S0.length, rows0 e f, rows1 e f, rfl, rfl, by omega, h2, app_at, by omega, ?_⟩
  rw [mergT_new hnd]
  have j1 := JarS.set (o := some (Ob.dic false (kT optD (rows0 e f ++ rows1 e f)))) (JarS.app (l := [some (Ob.dic false (kT optD (rows1 e f)))]) j0) hfn
  have k1 := Keep.set (m := c) (o := some (Ob.dic false (kT optD (rows0 e f ++ rows1 e f)))) (Keep.app (l := [some (Ob.dic false (kT optD (rows1 e f)))]) k0) (by omega)
  have h3 : ((S0 ++ [some (Ob.dic false (kT optD (rows1 e f)))]).set c (some (Ob.dic false (kT optD (rows0 e f ++ rows1 e f)))))[c]? = some (some (Ob.dic false (kT optD (rows0 e f ++ rows1 e f)))) := set_at h2
  generalize (S0 ++ [some (Ob.dic false (kT optD (rows1 e f)))]).set c (some (Ob.dic false (kT optD (rows0 e f ++ rows1 e f)))) = S1 at j1 k1 h3 ⊢
  have ok1 : ((rows0 e f ++ rows1 e f).map (·.1)).Nodup ∧ (rows0 e f ++ rows1 e f).length ≤ 16 ∧ ∀ p ∈ rows0 e f ++ rows1 e f, PathT p.1 ∧ ∀ ns, p.2 = some ns → NumsOk ns := by
    refine ⟨hnd, by rw [List.length_append]; omega, fun p hp => ?_⟩
    rcases List.mem_append.mp hp with hp | hp
    · obtain ⟨x, hx, rfl⟩ := List.mem_map.mp hp
      have := hf.ok x (List.mem_filter.mp hx).1
      exact ⟨this.1, fun ns e => by cases e; exact this.2⟩
    · obtain ⟨x, hx, rfl⟩ := List.mem_map.mp hp
      have := he.ok x (List.mem_filter.mp hx).1
      exact ⟨this.1, fun ns e => by cases e⟩
  have st1 := rows_step he hf
  have kk1 := rows_keys e f
  generalize rows0 e f ++ rows1 e f = R at h3 ok1 st1 j1 k1 kk1
  clear h1 h2
  walk_at "w"
  unfold l_brows_1
  refine ws_for [4] ?_
  walk_at "w"
  refine vo_sortTb (by omega) ?_
  walk_at "w"
  refine wp_bdraw j1 (by omega) (by omega) fun v S2 v0 v1 j2 o2 => ?_
  have h4 := (o2.2 c (Ne.symm hfn)).trans h3
  walk_at "w"
  rw [cut_map, cutL_take _ _ v0]
  have hsl : ((sS (f.map (·.1))).take v.toNat).length ≤ 2 := by rw [List.length_take]; omega
  have hsm : ∀ x ∈ (sS (f.map (·.1))).take v.toNat, x ∈ f.map (·.1) := fun x hx => sS_mem.mp (List.mem_of_mem_take hx)
  generalize (sS (f.map (·.1))).take v.toNat = L at hsl hsm
  refine ⟨_, Or.inr rfl, ?_⟩
  refine ⟨fun j vs S' => ∃ (a : Option D) (R' : RT), vs = [a] ∧ S'[c]? = some (some (Ob.dic false (kT optD R'))) ∧ ((R'.map (·.1)).Nodup ∧ R'.length ≤ 16 + j ∧ ∀ p ∈ R', PathT p.1 ∧ ∀ ns, p.2 = some ns → NumsOk ns) ∧ Step e R' f ∧ KeysIn e f R' ∧ JarS S' n (k + 1) ∧ Keep n S S', [none], rfl, rfl, ⟨none, R, rfl, h4, ok1, st1, kk1, j2, k1.trans (.only o2)⟩, ?_, ?_⟩
  · rintro j d vs S3 hj hv ⟨a, R', rfl, h5, ok5, st5, kk5, j5, k5⟩
    rw [List.getElem?_map] at hj
    obtain ⟨x, hxj, rfl⟩ := Option.map_eq_some_iff.mp hj
    have hjl := (List.getElem?_eq_some_iff.mp hxj).1
    have hx := hsm x (List.mem_of_getElem? hxj)
    obtain ⟨ns, hns⟩ := getT_has hx
    have hfx := hf.ok _ (getT_mem hns)
    refine ⟨_, rfl, ?_⟩
    unfold lb_brows_1
    dsimp only [putAll, List.set_cons_zero, List.set_cons_succ]
    refine ws_setTb optD ?_
    walk_at "w"
    refine vo_ixTb hns ?_
    walk_at "w"
    refine ⟨c, R', x, some ns, rfl, rfl, rfl, h5, by have := ok5.2.1; omega, ?_⟩
    have hp := look_put st5 x
    rw [hns] at hp
    have hok := RowOk.put ok5 (p := x) (v := some ns) hfx.1 (fun m em => by cases em; exact hfx.2)
    exact ⟨[_], rfl, rfl, _, putT R' x (some ns), rfl, set_at h5, ⟨hok.1, by have := hok.2.1; omega, hok.2.2⟩, hp, kk5.put hx, JarS.set j5 hfn, k5.set (by omega)⟩
  · rintro vs S3 hv ⟨a, R', rfl, h5, ok5, st5, kk5, j5, k5⟩
    rw [List.length_map] at ok5
    walk_at "w"
    refine wp_bpath j5 (by omega) fun p0 S4 hp0 j6 o6 => ?_
    have h6 := (o6.2 c (Ne.symm hfn)).trans h5
    have k6 := k5.trans (.only o6)
    walk_at "w"
    have fin : ∀ {R2 : RT} {S5 : Sto} {ρ : Ev} {EX : Px}, S5[c]? = some (some (Ob.dic false (kT optD R2))) → ((R2.map (·.1)).Nodup ∧ R2.length ≤ 16 ∧ ∀ p ∈ R2, PathT p.1 ∧ ∀ ns, p.2 = some ns → NumsOk ns) → Step e R2 f → JarS S5 n (k + 150) → Keep n S S5 → Wo (sortItD (view S5 (.ref c))) (fun z => Wp (evL [] ρ S5) (fun ds S2 => Wo (tupleD (List.map (view S2) (z :: ds))) fun z => fnQ Q (Fl.rt z) S2) EX) := by
      intro R2 S5 ρ EX h7 ok7 st7 j7 k7
      refine vo_vwT0 h7 (vo_sortItTb ok7.1 ?_)
      walk_at "w"
      have hp := sT_perm R2
      refine q (sT R2) S5 ⟨(hp.map (·.1)).nodup_iff.mpr ok7.1, by rw [hp.length_eq]; have := ok7.2.1; omega, fun p hpm => ok7.2.2 p (hp.mem_iff.mp hpm), sT_pw R2⟩ (fun p => ?_) (j7.mono (by omega)) k7
      unfold look
      rw [get_perm ok7.1 hp]
      exact st7 p
    unfold i_brows_1
    walk_at "w"
    refine wp_bdraw j6 (by omega) (by omega) fun w S5 w0 w1 j7 o7 => ?_
    have h7 := (o7.2 c (Ne.symm hfn)).trans h6
    have k7 := k6.trans (.only o7)
    have okk : ((R'.map (·.1)).Nodup ∧ R'.length ≤ 16 ∧ ∀ p ∈ R', PathT p.1 ∧ ∀ ns, p.2 = some ns → NumsOk ns) := ⟨ok5.1, kk5.len ok5.1 hel hfl, ok5.2.2⟩
    walk_at "w"
    refine ite_d (fun _ => ?_) (fun _ => ?_)
    · walk_at "w"
      refine vo_ninTb ?_
      refine ⟨_, rfl, fun hin => ?_, fun _ => ?_⟩
      · have hin2 : p0 ∉ f.map (·.1) := fun z => by rw [decide_eq_true z] at hin; cases hin
        walk_at "w"
        refine vo_vwTc h7 (vo_lenTb ?_)
        walk_at "w"
        refine ite_d (fun hl => ?_) (fun _ => ?_)
        · refine ws_setTb optD ?_
          walk_at "w"
          refine ⟨c, R', p0, none, rfl, rfl, rfl, h7, by have := ok5.2.1; omega, ?_⟩
          walk_at "w"
          have hok := RowOk.put (n := 15) ⟨ok5.1, by omega, ok5.2.2⟩ (p := p0) (v := none) hp0 (fun m em => by cases em)
          have hp := look_put st5 p0
          rw [getT_none.mpr hin2] at hp
          refine fin (set_at h7) ⟨hok.1, by have := hok.2.1; omega, hok.2.2⟩ hp (JarS.set (j7.mono (by omega)) hfn) (k7.set (by omega))
        · walk_at "w"
          exact fin h7 okk st5 (j7.mono (by omega)) k7
      · walk_at "w"
        exact fin h7 okk st5 (j7.mono (by omega)) k7
    · walk_at "w"
      exact fin h7 okk st5 (j7.mono (by omega)) k7
end LO
set_option Elab.async false
set_option linter.all false
set_option maxRecDepth 100000
set_option maxHeartbeats 4000000
namespace LO
open DL PySem LB LM
local macro_rules | `(tactic| walk_at "w1") => `(tactic| with_reducible first
  | (refine ws_then ?_; try with_reducible dsimp only [List.set_cons_zero, List.set_cons_succ]) | refine ws_seq ?_ | refine ws_asg ?_ | refine ws_expr ?_ | refine ws_ret ?_ | refine ws_if ?_ | refine ws_asgT ?_ | refine ws_skip ?_ | refine ws_retN ?_ | refine ws_brk ?_ | refine ws_cont ?_ | refine ws_thenR ?_ | refine ws_thenB ?_ | refine ws_thenC ?_ | refine fq_rt ?_ | refine fq_nx ?_ | refine un_nx ?_ | refine un_ct ?_ | refine un_bk ?_ | refine un_rt ?_ | refine ws_loopN ?_
  | (refine ws_loopC (ρ1 := ?r) ?h ?q; (case h => with_unfolding_all rfl); try with_reducible dsimp only [List.set_cons_zero, List.set_cons_succ])
  | refine wp_c ?_ | refine wp_op2 ?_ | refine wp_fn ?_ | refine wp_cons ?_ | refine wp_nil ?_ | refine wp_call ?_ | refine wp_op1 ?_
  | (refine wp_var (d := ?d) ?h ?q; (case h => with_unfolding_all rfl))
  | (refine ws_aug (d := ?d) ?h ?q; (case h => with_unfolding_all rfl))
  | refine wp_tup ?_ | refine wp_lst ?_ | refine wp_lstM ?_ | refine wp_listM ?_
  | refine wp_sl0 ?_ | refine wp_sl1 ?_ | refine wp_sl2 ?_ | refine wp_sl3 ?_
  | refine wp_tval ?_ | refine wp_tnot ?_ | refine wp_tand ?_ | refine wp_tor ?_ | refine wp_tyes ?_ | refine wp_and ?_ | refine wp_or ?_ | refine wp_not ?_ | refine wp_ifx ?_ | refine wp_chain ?_ | refine wp_meth ?_ | refine wp_meth0 ?_
  | refine wp_isi ?_ | refine wp_isis ?_ | refine wp_repr ?_ | refine wp_maxD ?_ | refine wi_rng3 ?_
  | refine wp_str1 ?_ | refine ws_par ?_ | refine wp_dnew ?_ | refine wp_get2 ?_ | refine wp_reprQ ?_ | refine wp_fnK ?_ | refine wi_valsI ?_ | refine wi_itemsI ?_ | refine ws_augI ?_
  | refine wi_seq ?_ | refine wi_rng1 ?_ | refine wi_rng2 ?_ | refine wi_zip2 ?_ | refine wi_zipS ?_
  | (refine wp_fnB (ρ := ?ρ) ?he ?_; (case he => (simp only [List.map_cons, List.map_nil, List.length_cons, List.length_nil, List.replicate, List.cons_append, List.nil_append, Nat.reduceAdd, Nat.reduceSub]; rfl))))
local macro_rules | `(tactic| walk_at "w2") => `(tactic| ((with_reducible refine wo_id ?_); with_reducible first
  | refine vo_sub ?_ | refine vo_add ?_ | refine vo_lt ?_ | refine vo_le ?_ | refine vo_gt ?_ | refine vo_ge ?_ | refine vo_eq ?_ | refine vo_ne ?_ | refine vo_eqS ?_ | refine vo_neS ?_ | refine vo_eqB ?_ | refine vo_neB ?_ | refine vo_neg ?_ | refine vo_slT ?_ | refine vo_slL ?_ | refine vo_slS ?_ | refine vo_lenT ?_ | refine vo_lenL ?_ | refine vo_lenS ?_ | refine vo_revT ?_ | refine vo_revL ?_ | refine vo_min ?_ | refine vo_max ?_ | refine vo_tupL ?_ | refine vo_tupT ?_ | refine vo_lisL ?_ | refine vo_lisT ?_
  | refine vo_igAdd ?_ | refine vo_igMulR (by omega) ?_ | refine vo_igMulL (by omega) ?_ | refine vo_mod (by omega) ?_ | refine vo_div (by omega) ?_ | refine vo_mulR (by omega) ?_ | refine vo_mulL (by omega) ?_
  | refine vo_ixL0 ?_ | refine vo_ixL1 ?_ | refine vo_ixL2 ?_ | refine vo_ixL3 ?_ | refine vo_ixL4 ?_ | refine vo_ixL5 ?_ | refine vo_ixL6 ?_ | refine vo_ixT0 ?_ | refine vo_ixT1 ?_ | refine vo_ixT2 ?_ | refine vo_ixT3 ?_ | refine vo_ixT4 ?_ | refine vo_ixT5 ?_ | refine vo_ixT6 ?_
  | refine vo_starts ?_ | refine vo_isBN ?_ | refine vo_isSN ?_ | refine vo_isLN ?_ | refine vo_isDN ?_ | refine vo_slX (by first | assumption | omega) ?_ | refine vo_lenX (by first | assumption | omega) ?_ | refine vo_addS (by first | assumption | omega) ?_
  | refine vo_inT ?_ | refine vo_ninT ?_ | refine vo_inL ?_ | refine vo_ninL ?_ | refine vo_inI ?_ | refine vo_ninI ?_ | refine vo_sortI (by first | assumption | omega) ?_ | refine vo_sortL ?_ | refine vo_lenI ?_ | refine vo_lt3 ?_ | refine vo_isNN ?_ | refine vo_is3N ?_ | refine vo_isTN ?_ | refine vo_isIN ?_ | refine vo_igAddI ?_ | refine vo_ixI (by assumption) ?_
  | refine vo_vwD1 (by assumption) ?_ | refine vo_vwDc (by assumption) ?_
  | refine wo_vw1 (by assumption) ?_ | refine wo_vw2 (by assumption) ?_ | refine vo_vwc (by assumption) ?_
  | (refine vo_isi (c := ?c) ?h ?q; (case h => with_unfolding_all rfl)) | (refine vo_isis (c := ?c) ?h ?q; (case h => with_unfolding_all rfl))))
local macro_rules | `(tactic| walk_at "w3") => `(tactic| first
  | with_reducible refine nb_ff ?_ | with_reducible refine nb_tt ?_ | with_reducible refine nb_ft ?_ | with_reducible refine nb_tf ?_
  | with_reducible refine ite_f ?_ | with_reducible refine ite_nt ?_ | with_reducible refine ite_nf ?_ | with_reducible refine ite_t ?_
  | ((with_reducible refine ex_id ?_); refine ⟨_, rfl, ?_⟩) | ((with_reducible refine and_id ?_); refine ⟨Nat.le_of_ble_eq_true rfl, ?_⟩))
local macro_rules | `(tactic| walk_at "w") => `(tactic| repeat (first | walk_at "w1" | walk_at "w2" | walk_at "w3"))
def filL (R : List Bk) : List (Int × FT) := R.reverse.map fun b => (b.num, b.fil)
theorem bookL_cons (b : Bk) (R : List Bk) : bookL (b :: R) = bookL R ++ [(b.num, b)] := by simp [bookL]
theorem filL_cons (b : Bk) (R : List Bk) : filL (b :: R) = filL R ++ [(b.num, b.fil)] := by simp [filL]
theorem mem_getA {α : Type} : ∀ {l : List (Int × α)} {k : Int} {v : α}, (l.map (·.1)).Nodup → (k, v) ∈ l → getA l k = some v
  | p :: l, k, v, hn, h => by
    rw [List.map_cons, List.nodup_cons] at hn
    show (if p.1 = k then some p.2 else getA l k) = some v
    rcases List.mem_cons.mp h with e | h
    · rw [← e, if_pos rfl]
    · have hk : k ∈ l.map (·.1) := List.mem_map.mpr ⟨_, h, rfl⟩
      rw [if_neg fun (e : p.1 = k) => hn.1 (by rw [e]; exact hk)]
      exact mem_getA hn.2 h
theorem nums_desc {R : List Bk} (h : BksOk R) : R.Pairwise fun a b => b.num < a.num := by
  induction h with
  | nil => exact .nil
  | cons h hlt hn hf hr hs hp ih => exact List.pairwise_cons.mpr ⟨hlt, ih⟩
def numL (R : List Bk) : List Int := R.reverse.map (·.num)
theorem nums_lt {R : List Bk} (h : BksOk R) : (numL R).Pairwise (· < ·) := by
  unfold numL
  rw [List.pairwise_map, List.pairwise_reverse]
  exact nums_desc h
theorem nums_nd {R : List Bk} (h : BksOk R) : (numL R).Nodup := (nums_lt h).imp fun {a b} hl e => by omega
theorem bookL_keys (R : List Bk) : (bookL R).map (·.1) = numL R := by unfold bookL numL; rw [List.map_map]; rfl
theorem filL_keys (R : List Bk) : (filL R).map (·.1) = numL R := by unfold filL numL; rw [List.map_map]; rfl
theorem numL_mem {R : List Bk} {n : Int} : n ∈ numL R ↔ ∃ b ∈ R, b.num = n := by
  unfold numL
  rw [List.mem_map]
  simp only [List.mem_reverse]
theorem get_book {R : List Bk} (h : BksOk R) {b : Bk} (hb : b ∈ R) : getA (bookL R) b.num = some b :=
  mem_getA (by rw [bookL_keys]; exact nums_nd h) (List.mem_map.mpr ⟨b, List.mem_reverse.mpr hb, rfl⟩)
theorem get_fil {R : List Bk} (h : BksOk R) {b : Bk} (hb : b ∈ R) : getA (filL R) b.num = some b.fil :=
  mem_getA (by rw [filL_keys]; exact nums_nd h) (List.mem_map.mpr ⟨b, List.mem_reverse.mpr hb, rfl⟩)
theorem len_book (R : List Bk) : (bookL R).length = R.length := by simp [bookL]
theorem len_fil (R : List Bk) : (filL R).length = R.length := by simp [filL]
theorem isI_self {l : List Int} (h : l.Pairwise (· < ·)) : isI l = l := (isI_uniq (.refl l) (h.imp fun {a b} hl => by omega)).symm
theorem vo_sortXA {α : Type} {f : α → D} {S : Sto} {Q : D → Prop} {l : List (Int × α)} (h : l.length < 64) (q : Q (.lst ((isI (l.map (·.1))).map .int))) : Wo (sortXD (List.map (view S) [dA f l])) Q := by
  have e : sortXD (List.map (view S) [dA f l]) = sortD (List.map (view S) [dA f l]) := by
    cases l with
    | nil => rfl
    | cons p l => rfl
  rw [e]
  exact vo_sortA h q
theorem vo_eqE {α : Type} {f : α → D} {S : Sto} {Q : D → Prop} {l : List (Int × α)} {m : Nat} (h : S[m]? = some (some (.dic false []))) (q : Q (.bl l.isEmpty)) : Wo (eqDE (view S (dA f l)) (view S (.ref m))) Q := by
  have : view S (.ref m) = .dic false [] := by simp only [view, h]
  rw [this]
  refine .of ?_ q
  show (if ([] : List (D × D)).isEmpty = true then some (D.bl (kA f l).isEmpty) else none) = _
  cases l <;> rfl
/-- all files as rows -/
def rowsOf (f : FT) : RT := (sT f).map fun p => (p.1, some p.2)
theorem rowsOf_ok {f : FT} (h : FilOk f) : RowOk (rowsOf f) ∧ Step [] (rowsOf f) f := by
  have hp := sT_perm f
  have hk : (rowsOf f).map (·.1) = (sT f).map (·.1) := by unfold rowsOf; rw [List.map_map]; rfl
  have hnd : ((sT f).map (·.1)).Nodup := (hp.map (·.1)).nodup_iff.mpr h.nd
  refine ⟨⟨by rw [hk]; exact hnd, by unfold rowsOf; rw [List.length_map, hp.length_eq]; have := h.len; omega, fun p hpm => ?_, by rw [hk]; exact sT_pw f⟩, fun p => ?_⟩
  · obtain ⟨x, hx, rfl⟩ := List.mem_map.mp hpm
    have := h.ok x (hp.mem_iff.mp hx)
    exact ⟨this.1, fun ns e => by cases e; exact this.2⟩
  · unfold look
    have e : getT (rowsOf f) p = (getT (sT f) p).map some := by
      unfold rowsOf
      generalize sT f = l
      induction l with
      | nil => rfl
      | cons q l ih =>
        show (if q.1 = p then some (some q.2) else getT (l.map fun p => (p.1, some p.2)) p) = (if q.1 = p then some q.2 else getT l p).map some
        split
        · rfl
        · exact ih
    rw [e, get_perm h.nd hp]
    cases getT f p <;> rfl
end LO
set_option Elab.async false
set_option linter.all false
set_option maxRecDepth 100000
set_option maxHeartbeats 4000000
namespace LO
open DL PySem LB LM
local macro_rules | `(tactic| walk_at "w1") => `(tactic| with_reducible first
  | (refine ws_then ?_; try with_reducible dsimp only [List.set_cons_zero, List.set_cons_succ]) | refine ws_seq ?_ | refine ws_asg ?_ | refine ws_expr ?_ | refine ws_ret ?_ | refine ws_if ?_ | refine ws_asgT ?_ | refine ws_skip ?_ | refine ws_retN ?_ | refine ws_brk ?_ | refine ws_cont ?_ | refine ws_thenR ?_ | refine ws_thenB ?_ | refine ws_thenC ?_ | refine fq_rt ?_ | refine fq_nx ?_ | refine un_nx ?_ | refine un_ct ?_ | refine un_bk ?_ | refine un_rt ?_ | refine ws_loopN ?_
  | (refine ws_loopC (ρ1 := ?r) ?h ?q; (case h => with_unfolding_all rfl); try with_reducible dsimp only [List.set_cons_zero, List.set_cons_succ])
  | refine wp_c ?_ | refine wp_op2 ?_ | refine wp_fn ?_ | refine wp_cons ?_ | refine wp_nil ?_ | refine wp_call ?_ | refine wp_op1 ?_
  | (refine wp_var (d := ?d) ?h ?q; (case h => with_unfolding_all rfl))
  | (refine ws_aug (d := ?d) ?h ?q; (case h => with_unfolding_all rfl))
  | refine wp_tup ?_ | refine wp_lst ?_ | refine wp_lstM ?_ | refine wp_listM ?_
  | refine wp_sl0 ?_ | refine wp_sl1 ?_ | refine wp_sl2 ?_ | refine wp_sl3 ?_
  | refine wp_tval ?_ | refine wp_tnot ?_ | refine wp_tand ?_ | refine wp_tor ?_ | refine wp_tyes ?_ | refine wp_and ?_ | refine wp_or ?_ | refine wp_not ?_ | refine wp_ifx ?_ | refine wp_chain ?_ | refine wp_meth ?_ | refine wp_meth0 ?_
  | refine wp_isi ?_ | refine wp_isis ?_ | refine wp_repr ?_ | refine wp_maxD ?_ | refine wi_rng3 ?_
  | refine wp_str1 ?_ | refine ws_par ?_ | refine wp_dnew ?_ | refine wp_get2 ?_ | refine wp_reprQ ?_ | refine wp_fnK ?_ | refine wi_valsI ?_ | refine wi_itemsI ?_ | refine ws_augI ?_
  | refine wi_seq ?_ | refine wi_rng1 ?_ | refine wi_rng2 ?_ | refine wi_zip2 ?_ | refine wi_zipS ?_
  | (refine wp_fnB (ρ := ?ρ) ?he ?_; (case he => (simp only [List.map_cons, List.map_nil, List.length_cons, List.length_nil, List.replicate, List.cons_append, List.nil_append, Nat.reduceAdd, Nat.reduceSub]; rfl))))
local macro_rules | `(tactic| walk_at "w2") => `(tactic| ((with_reducible refine wo_id ?_); with_reducible first
  | refine vo_sub ?_ | refine vo_add ?_ | refine vo_lt ?_ | refine vo_le ?_ | refine vo_gt ?_ | refine vo_ge ?_ | refine vo_eq ?_ | refine vo_ne ?_ | refine vo_eqS ?_ | refine vo_neS ?_ | refine vo_eqB ?_ | refine vo_neB ?_ | refine vo_neg ?_ | refine vo_slT ?_ | refine vo_slL ?_ | refine vo_slS ?_ | refine vo_lenT ?_ | refine vo_lenL ?_ | refine vo_lenS ?_ | refine vo_revT ?_ | refine vo_revL ?_ | refine vo_min ?_ | refine vo_max ?_ | refine vo_tupL ?_ | refine vo_tupT ?_ | refine vo_lisL ?_ | refine vo_lisT ?_
  | refine vo_igAdd ?_ | refine vo_igMulR (by omega) ?_ | refine vo_igMulL (by omega) ?_ | refine vo_mod (by omega) ?_ | refine vo_div (by omega) ?_ | refine vo_mulR (by omega) ?_ | refine vo_mulL (by omega) ?_
  | refine vo_ixL0 ?_ | refine vo_ixL1 ?_ | refine vo_ixL2 ?_ | refine vo_ixL3 ?_ | refine vo_ixL4 ?_ | refine vo_ixL5 ?_ | refine vo_ixL6 ?_ | refine vo_ixT0 ?_ | refine vo_ixT1 ?_ | refine vo_ixT2 ?_ | refine vo_ixT3 ?_ | refine vo_ixT4 ?_ | refine vo_ixT5 ?_ | refine vo_ixT6 ?_
  | refine vo_starts ?_ | refine vo_isBN ?_ | refine vo_isSN ?_ | refine vo_isLN ?_ | refine vo_isDN ?_ | refine vo_slX (by first | assumption | omega) ?_ | refine vo_lenX (by first | assumption | omega) ?_ | refine vo_addS (by first | assumption | omega) ?_
  | refine vo_inT ?_ | refine vo_ninT ?_ | refine vo_inL ?_ | refine vo_ninL ?_ | refine vo_inI ?_ | refine vo_ninI ?_ | refine vo_sortI (by first | assumption | omega) ?_ | refine vo_sortL ?_ | refine vo_lenI ?_ | refine vo_lt3 ?_ | refine vo_isNN ?_ | refine vo_is3N ?_ | refine vo_isTN ?_ | refine vo_isIN ?_ | refine vo_igAddI ?_ | refine vo_ixI (by assumption) ?_
  | refine vo_vwD1 (by assumption) ?_ | refine vo_vwDc (by assumption) ?_
  | refine wo_vw1 (by assumption) ?_ | refine wo_vw2 (by assumption) ?_ | refine vo_vwc (by assumption) ?_
  | (refine vo_isi (c := ?c) ?h ?q; (case h => with_unfolding_all rfl)) | (refine vo_isis (c := ?c) ?h ?q; (case h => with_unfolding_all rfl))))
local macro_rules | `(tactic| walk_at "w3") => `(tactic| first
  | with_reducible refine nb_ff ?_ | with_reducible refine nb_tt ?_ | with_reducible refine nb_ft ?_ | with_reducible refine nb_tf ?_
  | with_reducible refine ite_f ?_ | with_reducible refine ite_nt ?_ | with_reducible refine ite_nf ?_ | with_reducible refine ite_t ?_
  | ((with_reducible refine ex_id ?_); refine ⟨_, rfl, ?_⟩) | ((with_reducible refine and_id ?_); refine ⟨Nat.le_of_ble_eq_true rfl, ?_⟩))
local macro_rules | `(tactic| walk_at "w") => `(tactic| repeat (first | walk_at "w1" | walk_at "w2" | walk_at "w3"))
theorem FilOk.nil : FilOk [] := ⟨by simp, by simp, fun p hp => by simp at hp, fun a ha => by simp at ha⟩
theorem bks_fil {R : List Bk} (h : BksOk R) : ∀ b ∈ R, FilOk b.fil ∧ RowOk b.rows ∧ 0 ≤ b.num ∧ b.num ≤ 1000000 := by
  induction h with
  | nil => intro b hb; simp at hb
  | @cons c R h hlt hn hf hr hs hp ih =>
    intro b hb
    rcases List.mem_cons.mp hb with rfl | hb'
    · exact ⟨hf, hr, hn⟩
    · exact ih b hb'
theorem getA_snoc {α : Type} {l : List (Int × α)} {k : Int} {v : α} (h : k ∉ l.map (·.1)) : getA (l ++ [(k, v)]) k = some v := by
  induction l with
  | nil => show (if k = k then some v else _) = _; rw [if_pos rfl]
  | cons p l ih =>
    rw [List.map_cons, List.mem_cons, not_or] at h
    show (if p.1 = k then some p.2 else getA (l ++ [(k, v)]) k) = _
    rw [if_neg fun e => h.1 e.symm]
    exact ih h.2
theorem getA_left {α : Type} {l m : List (Int × α)} {k : Int} {v : α} (h : getA l k = some v) : getA (l ++ m) k = some v := by
  induction l with
  | nil => cases h
  | cons p l ih =>
    show (if p.1 = k then some p.2 else getA (l ++ m) k) = _
    have h' : (if p.1 = k then some p.2 else getA l k) = some v := h
    split
    · rename_i e; rw [if_pos e] at h'; exact h'
    · rename_i e; rw [if_neg e] at h'; exact ih h'
theorem atI_back {xs : List Int} {v : Int} (h0 : 0 ≤ v) (h1 : v < xs.length) : ∃ x ∈ xs, L2.atI (xs.map D.int) (-1 - v) = some (.int x) := by
  refine ⟨xs[xs.length - 1 - v.toNat]'(by omega), List.getElem_mem _, ?_⟩
  unfold L2.atI L2.ixN
  rw [if_neg (by omega), if_pos (by rw [List.length_map]; omega), List.length_map]
  show (xs.map D.int)[(-1 - v + (xs.length : Int)).toNat]? = _
  rw [show (-1 - v + (xs.length : Int)).toNat = xs.length - 1 - v.toNat by omega, List.getElem?_map, List.getElem?_eq_getElem (by omega)]
  rfl
/-- what comes of none has rows that stay -/
def Roots (R : List Bk) : Prop := ∀ b ∈ R, b.par = none → ∀ p ∈ b.rows, p.2.isSome = true
theorem Roots.cons {b : Bk} {R : List Bk} (h : Roots R) (hb : b.par = none → ∀ p ∈ b.rows, p.2.isSome = true) : Roots (b :: R) := fun c hc => by
  rcases List.mem_cons.mp hc with rfl | hc
  · exact hb
  · exact h c hc
theorem wp_bbooks {S : Sto} {n : Nat} {k : Int} {often : Nat} {Q : D → Sto → Prop} {E : Px} (h : JarS S n k) (hk : k ≤ 500000000) (ho : often ≤ 20)
    (q : ∀ (R : List Bk) (a b : Nat) S', BksOk R → Roots R → R.length = often → n ≠ a → n ≠ b → a ≠ b → S'[a]? = some (some (.dic false (kA bookD (bookL R)))) → S'[b]? = some (some (.dic false (kA filD (filL R)))) → JarS S' n (k + 100000) → Keep n S S' → Q (.tup [.ref a, .ref b]) S') : Wp (d_bbooks [.ref n, .int often] S) Q E := by
  have hn := h.lt
  unfold d_bbooks b_bbooks
  walk_at "w"
  refine ⟨_, _, rfl, ?_⟩
  dsimp only [List.set_cons_zero, List.set_cons_succ]
  have ha0 : (S ++ [some (Ob.dic false (kI []))] ++ [some (Ob.dic false (kI []))])[S.length]? = some (some (.dic false (kA bookD (bookL [])))) := by
    rw [List.getElem?_append_left (by rw [List.length_append]; simp)]
    exact app_at
  have hb0 : (S ++ [some (Ob.dic false (kI []))] ++ [some (Ob.dic false (kI []))])[(S ++ [some (Ob.dic false (kI []))]).length]? = some (some (.dic false (kA filD (filL [])))) := app_at
  have j0 := JarS.app (l := [some (Ob.dic false (kI []))]) (JarS.app (l := [some (Ob.dic false (kI []))]) h)
  have k0 : Keep n S (S ++ [some (Ob.dic false (kI []))] ++ [some (Ob.dic false (kI []))]) := Keep.refl.app.app
  generalize S ++ [some (Ob.dic false (kI []))] ++ [some (Ob.dic false (kI []))] = S0 at ha0 hb0 j0 k0
  have hlb : (S ++ [some (Ob.dic false (kI []))]).length = S.length + 1 := by simp
  rw [hlb] at hb0 ⊢
  have hna : n ≠ S.length := by omega
  have hnb : n ≠ S.length + 1 := by omega
  have hab : S.length ≠ S.length + 1 := by omega
  generalize hfa : S.length = a at ha0 hna hab hb0 hnb
  generalize hfb : a + 1 = b at hb0 hnb hab
  walk_at "w"
  refine wp_bdraw j0 (by omega) (by omega) fun v S1 v0 v1 j1 o1 => ?_
  obtain ⟨z, ez, z0, z1⟩ := pick_of (zs := [0, 1, 27, 5000]) 0 5000 (by simp) (w := v) ⟨v0, by simpa using v1⟩
  refine wo_ixL ez ?_
  walk_at "w"
  unfold l_bbooks_1
  refine ws_for [4, 5, 6] ?_
  walk_at "w"
  refine ⟨by omega, ?_⟩
  refine ⟨fun j vs S' => ∃ (num : Int) (e5 e6 : Option D) (R : List Bk), vs = [some (.int num), e5, e6] ∧ S'[a]? = some (some (.dic false (kA bookD (bookL R)))) ∧ S'[b]? = some (some (.dic false (kA filD (filL R)))) ∧ BksOk R ∧ Roots R ∧ R.length = j ∧ (∀ c ∈ R, c.num < num) ∧ (0 ≤ num ∧ num ≤ 5000 + 27 * j) ∧ JarS S' n (k + 1 + j * 2500) ∧ Keep n S S', [some (.int z), none, none], rfl, rfl, ⟨z, none, none, [], rfl, (o1.2 a (Ne.symm hna)).trans ha0, (o1.2 b (Ne.symm hnb)).trans hb0, .nil, fun c hc => by simp at hc, rfl, fun c hc => by simp at hc, by omega, j1.mono (by omega), k0.trans (.only o1)⟩, ?_, ?_⟩
  · rintro j d vs S2 hj hv ⟨num, e5, e6, R, rfl, h2a, h2b, hR, hRt, hRl, hlt, hnum, j2, k2⟩
    have hj' := (List.getElem?_eq_some_iff.mp hj).1
    rw [iRng_len] at hj'
    refine ⟨_, rfl, ?_⟩
    unfold lb_bbooks_1
    dsimp only [putAll, List.set_cons_zero, List.set_cons_succ]
    have hnk : num ∉ numL R := fun hc => by
      obtain ⟨c, hc, e⟩ := numL_mem.mp hc
      have := hlt c hc; omega
    -- the end of a turn
    have fin : ∀ {nb : Bk} {S5 : Sto} {x6 : Option D} {EX : Xs} {QQ : Fl → Sto → Prop}, nb.num = num → FilOk nb.fil → RowOk nb.rows → Step (parF R nb.par) nb.rows nb.fil → (∀ p, nb.par = some p → ∃ c ∈ R, c.num = p) → (nb.par = none → ∀ p ∈ nb.rows, p.2.isSome = true) → S5[a]? = some (some (.dic false (kA bookD (bookL (nb :: R))))) → S5[b]? = some (some (.dic false (kA filD (filL (nb :: R))))) → JarS S5 n (k + 1 + (j : Int) * 2500 + 2400) → Keep n S S5 →
      (∀ S6 num', S6[a]? = some (some (.dic false (kA bookD (bookL (nb :: R))))) → S6[b]? = some (some (.dic false (kA filD (filL (nb :: R))))) → BksOk (nb :: R) → Roots (nb :: R) → (∀ c ∈ nb :: R, c.num < num') → (0 ≤ num' ∧ num' ≤ 5000 + 27 * (j + 1 : Nat)) → JarS S6 n (k + 1 + (j + 1 : Nat) * 2500) → Keep n S S6 → QQ (.nx [some (.ref n), some (.int often), some (.ref a), some (.ref b), some (.int num'), some d, x6]) S6) →
      Ws (sAsg 4 (eOp2 addD (eVar 4) (eOp2 ixD (eLst [(eC (.int 1)), (eC (.int 1)), (eC (.int 2)), (eC (.int 27))]) (eFn LB.d_bdraw [(eVar 0), (eC (.int 4))]))) [some (.ref n), some (.int often), some (.ref a), some (.ref b), some (.int num), some d, x6] S5) QQ EX := by
      intro nb S5 x6 EX QQ en hf hr hs hp hrt h5a h5b j5 k5 hq
      walk_at "w"
      refine wp_bdraw j5 (by omega) (by omega) fun w S6 w0 w1 j6 o6 => ?_
      obtain ⟨y, ey, y0, y1⟩ := pick_of (zs := [1, 1, 2, 27]) 1 27 (by simp) (w := w) ⟨w0, by simpa using w1⟩
      refine wo_ixL ey ?_
      walk_at "w"
      refine hq S6 (num + y) ((o6.2 a (Ne.symm hna)).trans h5a) ((o6.2 b (Ne.symm hnb)).trans h5b) (.cons hR (fun c hc => by rw [en]; exact hlt c hc) (by rw [en]; omega) hf hr hs hp) (hRt.cons hrt) (fun c hc => ?_) (by omega) (j6.mono (by omega)) (k5.trans (.only o6))
      rcases List.mem_cons.mp hc with rfl | hc
      · omega
      · have := hlt c hc; omega
    walk_at "w"
    refine ws_midT (fun fl S' => ∃ (nb : Bk) (x6 : Option D), fl = .nx [some (.ref n), some (.int often), some (.ref a), some (.ref b), some (.int num), some d, x6] ∧ nb.num = num ∧ FilOk nb.fil ∧ RowOk nb.rows ∧ Step (parF R nb.par) nb.rows nb.fil ∧ (∀ p, nb.par = some p → ∃ c ∈ R, c.num = p) ∧ (nb.par = none → ∀ p ∈ nb.rows, p.2.isSome = true) ∧ S'[a]? = some (some (.dic false (kA bookD (bookL (nb :: R))))) ∧ S'[b]? = some (some (.dic false (kA filD (filL (nb :: R))))) ∧ JarS S' n (k + 1 + (j : Int) * 2500 + 2400) ∧ Keep n S S') ?_ ?_
    · have root : ∀ {S3 : Sto} {EX : Xs}, S3[a]? = some (some (.dic false (kA bookD (bookL R)))) → S3[b]? = some (some (.dic false (kA filD (filL R)))) → JarS S3 n (k + 1 + (j : Int) * 2500 + 10) → Keep n S S3 →
          Ws (sSeq (sSetIx (eVar 3) (eVar 4) (eFn d_bfiles [(eVar 0), (eFrz eDNew)])) (sSetIx (eVar 2) (eVar 4) (eTup [(eC .non), (eCall tupleD [(eOp1 sortItD (eOp2 ixD (eVar 3) (eVar 4)))])])) [some (.ref n), some (.int often), some (.ref a), some (.ref b), some (.int num), some d, e6] S3)
            (fun fl S' => ∃ (nb : Bk) (x6 : Option D), fl = .nx [some (.ref n), some (.int often), some (.ref a), some (.ref b), some (.int num), some d, x6] ∧ nb.num = num ∧ FilOk nb.fil ∧ RowOk nb.rows ∧ Step (parF R nb.par) nb.rows nb.fil ∧ (∀ p, nb.par = some p → ∃ c ∈ R, c.num = p) ∧ (nb.par = none → ∀ p ∈ nb.rows, p.2.isSome = true) ∧ S'[a]? = some (some (.dic false (kA bookD (bookL (nb :: R))))) ∧ S'[b]? = some (some (.dic false (kA filD (filL (nb :: R))))) ∧ JarS S' n (k + 1 + (j : Int) * 2500 + 2400) ∧ Keep n S S') EX := by
        intro S3 EX h3a h3b j3 k3
        refine ws_seq ?_
        refine ws_setA filD ?_
        walk_at "w"
        refine wp_frzD ?_
        walk_at "w"
        refine ⟨_, _, rfl, app_at, ?_⟩
        have hla : a < S3.length := (List.getElem?_eq_some_iff.mp h3a).1
        have hlb3 : b < S3.length := (List.getElem?_eq_some_iff.mp h3b).1
        have hln := j3.lt
        have h4a : ((S3 ++ [some (Ob.dic false (kI []))]).set S3.length none)[a]? = some (some (.dic false (kA bookD (bookL R)))) := by rw [List.getElem?_set_ne (by omega), List.getElem?_append_left hla]; exact h3a
        have h4b : ((S3 ++ [some (Ob.dic false (kI []))]).set S3.length none)[b]? = some (some (.dic false (kA filD (filL R)))) := by rw [List.getElem?_set_ne (by omega), List.getElem?_append_left hlb3]; exact h3b
        have j4 := JarS.set (o := none) (JarS.app (l := [some (Ob.dic false (kI []))]) j3) (show n ≠ S3.length by omega)
        have k4 := Keep.set (m := S3.length) (o := none) (Keep.app (l := [some (Ob.dic false (kI []))]) k3) (by have := k3.le; omega)
        generalize (S3 ++ [some (Ob.dic false (kI []))]).set S3.length none = S4 at h4a h4b j4 k4
        walk_at "w"
        have hla4 : a < S4.length := (List.getElem?_eq_some_iff.mp h4a).1
        have hlb4 : b < S4.length := (List.getElem?_eq_some_iff.mp h4b).1
        refine wp_bfiles (e := []) j4 (by omega) FilOk.nil fun f S5 hf j5 k5 => ?_
        have h5a := (k5.eq a hla4 (Ne.symm hna)).trans h4a
        have h5b := (k5.eq b hlb4 (Ne.symm hnb)).trans h4b
        have k5' := k4.trans k5
        walk_at "w"
        refine ⟨b, filL R, num, f, rfl, rfl, rfl, h5b, by rw [len_fil]; omega, ?_⟩
        rw [putA_new (by rw [filL_keys]; exact hnk)]
        have h6b : (S5.set b (some (.dic false (kA filD (filL R ++ [(num, f)])))))[b]? = some (some (.dic false (kA filD (filL R ++ [(num, f)])))) := set_at h5b
        have h6a : (S5.set b (some (.dic false (kA filD (filL R ++ [(num, f)])))))[a]? = some (some (.dic false (kA bookD (bookL R)))) := by rw [List.getElem?_set_ne (Ne.symm hab)]; exact h5a
        have j6 := JarS.set (o := some (.dic false (kA filD (filL R ++ [(num, f)])))) j5 hnb
        have k6 := Keep.set (m := b) (o := some (.dic false (kA filD (filL R ++ [(num, f)])))) k5' (by omega)
        generalize S5.set b (some (.dic false (kA filD (filL R ++ [(num, f)])))) = S6 at h6a h6b j6 k6
        walk_at "w"
        refine ws_setA bookD ?_
        walk_at "w"
        have gf : getA (filL R ++ [(num, f)]) num = some f := getA_snoc (by rw [filL_keys]; exact hnk)
        refine vo_vwA1 h6b (vo_ixA gf ?_)
        walk_at "w"
        refine vo_sortItTb hf.nd ?_
        walk_at "w"
        have rok := rowsOf_ok hf
        refine ⟨a, bookL R, num, ⟨num, none, rowsOf f, f⟩, rfl, rfl, ?_, h6a, by rw [len_book]; omega, ?_⟩
        · show D.tup [.non, .tup _] = D.tup [.non, .tup ((rowsOf f).map _)]
          unfold rowsOf
          rw [List.map_map]
          rfl
        rw [putA_new (by rw [bookL_keys]; exact hnk)]
        refine ⟨⟨num, none, rowsOf f, f⟩, e6, rfl, rfl, hf, rok.1, rok.2, fun p hp => (by cases hp), fun _ p hp => ?_, ?_, ?_, JarS.set (j6.mono (by omega)) hna, k6.set (by omega)⟩
        · obtain ⟨x, _, rfl⟩ := List.mem_map.mp hp; rfl
        · rw [bookL_cons]; exact set_at h6a
        · rw [filL_cons, List.getElem?_set_ne hab]; exact h6b
      unfold i_bbooks_1
      walk_at "w"
      have hla : a < S2.length := (List.getElem?_eq_some_iff.mp h2a).1
      have hlb2 : b < S2.length := (List.getElem?_eq_some_iff.mp h2b).1
      have h3a : (S2 ++ [some (Ob.dic false (kI []))])[a]? = some (some (.dic false (kA bookD (bookL R)))) := by rw [List.getElem?_append_left hla]; exact h2a
      have h3b : (S2 ++ [some (Ob.dic false (kI []))])[b]? = some (some (.dic false (kA filD (filL R)))) := by rw [List.getElem?_append_left hlb2]; exact h2b
      have h3e : (S2 ++ [some (Ob.dic false (kI []))])[S2.length]? = some (some (.dic false [])) := app_at
      have j3 := JarS.app (l := [some (Ob.dic false (kI []))]) j2
      have k3 := Keep.app (l := [some (Ob.dic false (kI []))]) k2
      generalize S2 ++ [some (Ob.dic false (kI []))] = S3 at h3a h3b h3e j3 k3
      refine vo_vwA1 h3a (vo_eqE h3e ?_)
      refine ⟨_, rfl, fun _ => ?_, fun hne => ?_⟩
      · exact ⟨fun _ => root h3a h3b (j3.mono (by omega)) k3, fun z => (by cases z)⟩
      · have hRne : 0 < R.length := by
          rw [← len_book]
          cases hb : bookL R with
          | nil => rw [hb] at hne; simp at hne
          | cons _ _ => simp
        walk_at "w"
        refine wp_bdraw j3 (by omega) (by omega) fun w S4 w0 w1 j4 o4 => ?_
        have h4a := (o4.2 a (Ne.symm hna)).trans h3a
        have h4b := (o4.2 b (Ne.symm hnb)).trans h3b
        have k4 := k3.trans (.only o4)
        walk_at "w"
        refine ite_d (fun _ => ?_) (fun _ => ?_)
        · exact root h4a h4b (j4.mono (by omega)) k4
        · walk_at "w"
          refine vo_vwAc h4a (vo_sortXA (by rw [len_book]; omega) ?_)
          rw [bookL_keys, isI_self (nums_lt hR)]
          walk_at "w"
          refine vo_vwAc h4a (vo_lenA ?_)
          rw [len_book]
          walk_at "w"
          refine wp_bdraw j4 (by omega) (by omega) fun u S5 u0 u1 j5 o5 => ?_
          have h5a := (o5.2 a (Ne.symm hna)).trans h4a
          have h5b := (o5.2 b (Ne.symm hnb)).trans h4b
          have k5 := k4.trans (.only o5)
          walk_at "w"
          have hnl : (numL R).length = R.length := by unfold numL; simp
          obtain ⟨x, hx, ex⟩ := atI_back (xs := numL R) (v := u) u0 (by omega)
          obtain ⟨c, hc, rfl⟩ := numL_mem.mp hx
          refine wo_ixL ex ?_
          walk_at "w"
          refine ws_setA filD ?_
          walk_at "w"
          refine vo_vwA1 h5b (vo_ixA (get_fil hR hc) ?_)
          walk_at "w"
          have hco := bks_fil hR c hc
          have hla5 : a < S5.length := (List.getElem?_eq_some_iff.mp h5a).1
          have hlb5 : b < S5.length := (List.getElem?_eq_some_iff.mp h5b).1
          refine wp_bfiles (e := c.fil) j5 (by omega) hco.1 fun f S6 hf j6 k6 => ?_
          have h6a := (k6.eq a hla5 (Ne.symm hna)).trans h5a
          have h6b := (k6.eq b hlb5 (Ne.symm hnb)).trans h5b
          have k6' := k5.trans k6
          walk_at "w"
          refine ⟨b, filL R, num, f, rfl, rfl, rfl, h6b, by rw [len_fil]; omega, ?_⟩
          rw [putA_new (by rw [filL_keys]; exact hnk)]
          have h7b : (S6.set b (some (.dic false (kA filD (filL R ++ [(num, f)])))))[b]? = some (some (.dic false (kA filD (filL R ++ [(num, f)])))) := set_at h6b
          have h7a : (S6.set b (some (.dic false (kA filD (filL R ++ [(num, f)])))))[a]? = some (some (.dic false (kA bookD (bookL R)))) := by rw [List.getElem?_set_ne (Ne.symm hab)]; exact h6a
          have j7 := JarS.set (o := some (.dic false (kA filD (filL R ++ [(num, f)])))) j6 hnb
          have k7 := Keep.set (m := b) (o := some (.dic false (kA filD (filL R ++ [(num, f)])))) k6' (by omega)
          generalize S6.set b (some (.dic false (kA filD (filL R ++ [(num, f)])))) = S7 at h7a h7b j7 k7
          have hla7 : a < S7.length := (List.getElem?_eq_some_iff.mp h7a).1
          have hlb7 : b < S7.length := (List.getElem?_eq_some_iff.mp h7b).1
          have gf : getA (filL R ++ [(num, f)]) num = some f := getA_snoc (by rw [filL_keys]; exact hnk)
          have gc : getA (filL R ++ [(num, f)]) c.num = some c.fil := getA_left (get_fil hR hc)
          walk_at "w"
          refine ws_setA bookD ?_
          walk_at "w"
          refine vo_vwA1 h7b (vo_ixA gc ?_)
          walk_at "w"
          refine vo_vwA1 h7b (vo_ixA gf ?_)
          walk_at "w"
          refine wp_brows j7 (by omega) hco.1 hf fun rows S8 hrok hstep j8 k8 => ?_
          have h8a := (k8.eq a hla7 (Ne.symm hna)).trans h7a
          have h8b := (k8.eq b hlb7 (Ne.symm hnb)).trans h7b
          have k8' := k7.trans k8
          walk_at "w"
          refine ⟨a, bookL R, num, ⟨num, some c.num, rows, f⟩, rfl, rfl, rfl, h8a, by rw [len_book]; omega, ?_⟩
          rw [putA_new (by rw [bookL_keys]; exact hnk)]
          refine ⟨⟨num, some c.num, rows, f⟩, _, rfl, rfl, hf, hrok, ?_, fun p hp => ⟨c, hc, Option.some.inj hp⟩, fun z => (by cases z), ?_, ?_, JarS.set (j8.mono (by omega)) hna, k8'.set (by omega)⟩
          · show Step (filOf R c.num) rows f
            rw [filOf_at hR hc]
            exact hstep
          · rw [bookL_cons]; exact set_at h8a
          · rw [filL_cons, List.getElem?_set_ne hab]; exact h8b
    rintro fl S5 ⟨nb, x6, rfl, a1, a2, a3, a4, a5, a10, a6, a7, a8, a9⟩
    refine fin a1 a2 a3 a4 a5 a10 a6 a7 a8 a9 fun S6 num' b1 b2 b3 b8 b4 b5 b6 b7 => ?_
    exact ⟨[_, _, _], rfl, rfl, num', _, _, nb :: R, rfl, b1, b2, b3, b8, by simp [hRl], b4, b5, b6, b7⟩
  · rintro vs S2 hv ⟨num, e5, e6, R, rfl, h2a, h2b, hR, hRt, hRl, hlt, hnum, j2, k2⟩
    rw [iRng_len] at hRl j2
    walk_at "w"
    exact q R a b S2 hR hRt (by omega) hna hnb hab h2a h2b (j2.mono (by omega)) k2
end LO
set_option Elab.async false
set_option linter.all false
set_option maxRecDepth 100000
set_option maxHeartbeats 4000000
namespace LO
open DL PySem LB LM
local macro_rules | `(tactic| walk_at "w1") => `(tactic| with_reducible first
  | (refine ws_then ?_; try with_reducible dsimp only [List.set_cons_zero, List.set_cons_succ]) | refine ws_seq ?_ | refine ws_asg ?_ | refine ws_expr ?_ | refine ws_ret ?_ | refine ws_if ?_ | refine ws_asgT ?_ | refine ws_skip ?_ | refine ws_retN ?_ | refine ws_brk ?_ | refine ws_cont ?_ | refine ws_thenR ?_ | refine ws_thenB ?_ | refine ws_thenC ?_ | refine fq_rt ?_ | refine fq_nx ?_ | refine un_nx ?_ | refine un_ct ?_ | refine un_bk ?_ | refine un_rt ?_ | refine ws_loopN ?_
  | (refine ws_loopC (ρ1 := ?r) ?h ?q; (case h => with_unfolding_all rfl); try with_reducible dsimp only [List.set_cons_zero, List.set_cons_succ])
  | refine wp_c ?_ | refine wp_op2 ?_ | refine wp_fn ?_ | refine wp_cons ?_ | refine wp_nil ?_ | refine wp_call ?_ | refine wp_op1 ?_
  | (refine wp_var (d := ?d) ?h ?q; (case h => with_unfolding_all rfl))
  | (refine ws_aug (d := ?d) ?h ?q; (case h => with_unfolding_all rfl))
  | refine wp_tup ?_ | refine wp_lst ?_ | refine wp_lstM ?_ | refine wp_listM ?_
  | refine wp_sl0 ?_ | refine wp_sl1 ?_ | refine wp_sl2 ?_ | refine wp_sl3 ?_
  | refine wp_tval ?_ | refine wp_tnot ?_ | refine wp_tand ?_ | refine wp_tor ?_ | refine wp_tyes ?_ | refine wp_and ?_ | refine wp_or ?_ | refine wp_not ?_ | refine wp_ifx ?_ | refine wp_chain ?_ | refine wp_meth ?_ | refine wp_meth0 ?_
  | refine wp_isi ?_ | refine wp_isis ?_ | refine wp_repr ?_ | refine wp_maxD ?_ | refine wi_rng3 ?_
  | refine wp_str1 ?_ | refine ws_par ?_ | refine wp_dnew ?_ | refine wp_get2 ?_ | refine wp_reprQ ?_ | refine wp_fnK ?_ | refine wi_valsI ?_ | refine wi_itemsI ?_ | refine ws_augI ?_
  | refine wi_seq ?_ | refine wi_rng1 ?_ | refine wi_rng2 ?_ | refine wi_zip2 ?_ | refine wi_zipS ?_
  | (refine wp_fnB (ρ := ?ρ) ?he ?_; (case he => (simp only [List.map_cons, List.map_nil, List.length_cons, List.length_nil, List.replicate, List.cons_append, List.nil_append, Nat.reduceAdd, Nat.reduceSub]; rfl))))
local macro_rules | `(tactic| walk_at "w2") => `(tactic| ((with_reducible refine wo_id ?_); with_reducible first
  | refine vo_sub ?_ | refine vo_add ?_ | refine vo_lt ?_ | refine vo_le ?_ | refine vo_gt ?_ | refine vo_ge ?_ | refine vo_eq ?_ | refine vo_ne ?_ | refine vo_eqS ?_ | refine vo_neS ?_ | refine vo_eqB ?_ | refine vo_neB ?_ | refine vo_neg ?_ | refine vo_slT ?_ | refine vo_slL ?_ | refine vo_slS ?_ | refine vo_lenT ?_ | refine vo_lenL ?_ | refine vo_lenS ?_ | refine vo_revT ?_ | refine vo_revL ?_ | refine vo_min ?_ | refine vo_max ?_ | refine vo_tupL ?_ | refine vo_tupT ?_ | refine vo_lisL ?_ | refine vo_lisT ?_
  | refine vo_igAdd ?_ | refine vo_igMulR (by omega) ?_ | refine vo_igMulL (by omega) ?_ | refine vo_mod (by omega) ?_ | refine vo_div (by omega) ?_ | refine vo_mulR (by omega) ?_ | refine vo_mulL (by omega) ?_
  | refine vo_ixL0 ?_ | refine vo_ixL1 ?_ | refine vo_ixL2 ?_ | refine vo_ixL3 ?_ | refine vo_ixL4 ?_ | refine vo_ixL5 ?_ | refine vo_ixL6 ?_ | refine vo_ixT0 ?_ | refine vo_ixT1 ?_ | refine vo_ixT2 ?_ | refine vo_ixT3 ?_ | refine vo_ixT4 ?_ | refine vo_ixT5 ?_ | refine vo_ixT6 ?_
  | refine vo_starts ?_ | refine vo_isBN ?_ | refine vo_isSN ?_ | refine vo_isLN ?_ | refine vo_isDN ?_ | refine vo_slX (by first | assumption | omega) ?_ | refine vo_lenX (by first | assumption | omega) ?_ | refine vo_addS (by first | assumption | omega) ?_
  | refine vo_inT ?_ | refine vo_ninT ?_ | refine vo_inL ?_ | refine vo_ninL ?_ | refine vo_inI ?_ | refine vo_ninI ?_ | refine vo_sortI (by first | assumption | omega) ?_ | refine vo_sortL ?_ | refine vo_lenI ?_ | refine vo_lt3 ?_ | refine vo_isNN ?_ | refine vo_is3N ?_ | refine vo_isTN ?_ | refine vo_isIN ?_ | refine vo_igAddI ?_ | refine vo_ixI (by assumption) ?_
  | refine vo_vwD1 (by assumption) ?_ | refine vo_vwDc (by assumption) ?_
  | refine wo_vw1 (by assumption) ?_ | refine wo_vw2 (by assumption) ?_ | refine vo_vwc (by assumption) ?_
  | (refine vo_isi (c := ?c) ?h ?q; (case h => with_unfolding_all rfl)) | (refine vo_isis (c := ?c) ?h ?q; (case h => with_unfolding_all rfl))))
local macro_rules | `(tactic| walk_at "w3") => `(tactic| first
  | with_reducible refine nb_ff ?_ | with_reducible refine nb_tt ?_ | with_reducible refine nb_ft ?_ | with_reducible refine nb_tf ?_
  | with_reducible refine ite_f ?_ | with_reducible refine ite_nt ?_ | with_reducible refine ite_nf ?_ | with_reducible refine ite_t ?_
  | ((with_reducible refine ex_id ?_); refine ⟨_, rfl, ?_⟩) | ((with_reducible refine and_id ?_); refine ⟨Nat.le_of_ble_eq_true rfl, ?_⟩))
local macro_rules | `(tactic| walk_at "w") => `(tactic| repeat (first | walk_at "w1" | walk_at "w2" | walk_at "w3"))
theorem nrk_T {α : Type} (f : α → D) (h : ∀ x, noRef (f x) = true) : ∀ l : List (Str × α), noRefK (kT f l) = true
  | [] => rfl
  | p :: l => by show (noRef (f p.2) && noRefK (kT f l)) = true; rw [h, nrk_T f h l]; rfl
theorem nrk_A {α : Type} (f : α → D) (h : ∀ x, noRef (f x) = true) : ∀ l : List (Int × α), noRefK (kA f l) = true
  | [] => rfl
  | p :: l => by show (noRef (f p.2) && noRefK (kA f l)) = true; rw [h, nrk_A f h l]; rfl
theorem nr_num (ns : List Int) : noRef (numD ns) = true := by simp only [noRef]; exact nrs_map D.int (fun _ => rfl) ns
theorem nr_opt (v : Option (List Int)) : noRef (optD v) = true := by cases v with
  | none => rfl
  | some ns => exact nr_num ns
theorem nr_par (p : Option Int) : noRef (parD p) = true := by cases p <;> rfl
theorem nr_fil (f : FT) : noRef (filD f) = true := nrk_T numD nr_num f
theorem nr_book (b : Bk) : noRef (bookD b) = true := by
  have : noRefs (b.rows.map fun p => D.tup [.str p.1, optD p.2]) = true := nrs_map _ (fun p => by simp [noRef, noRefs, nr_opt]) _
  simp [noRef, noRefs, nr_par, this]
theorem nr_books (R : List Bk) : noRef (booksD R) = true := nrk_A bookD nr_book _
theorem nr_ints (xs : List Int) : noRef (.lst (xs.map .int)) = true := by simp only [noRef]; exact nrs_map D.int (fun _ => rfl) xs
section
variable {α : Type} {f : α → D} {S : Sto} {Q : D → Prop} {l : List (Int × α)} {k : Int}
theorem isSome_A : ((getA l k).map f).isSome = decide (k ∈ l.map (·.1)) := by
  rw [Option.isSome_map]
  cases e : getA l k with
  | none => rw [decide_eq_false (getA_none.mp e)]; rfl
  | some v => rw [decide_eq_true (List.mem_map.mpr ⟨_, getA_mem e, rfl⟩)]; rfl
theorem vo_inA (q : Q (.bl (decide (k ∈ l.map (·.1))))) : Wo (inD (view S (.int k)) (view S (dA f l))) Q := by
  refine .of ?_ q
  show (some (valD (kA f l) (.inl k)).isSome).map D.bl = _
  rw [valD_A, isSome_A]; rfl
end
theorem last_at (pre : List Int) (x : Int) : L2.atI ((pre ++ [x]).map D.int) (-1) = some (.int x) := by
  unfold L2.atI L2.ixN
  rw [if_neg (by omega), if_pos (by simp; omega)]
  show ((pre ++ [x]).map D.int)[(-1 + (((pre ++ [x]).map D.int).length : Int)).toNat]? = _
  rw [show (-1 + (((pre ++ [x]).map D.int).length : Int)).toNat = pre.length by simp; omega, List.map_append, List.getElem?_append_right (by simp)]
  simp
def chN (R : List Bk) (n : Int) : List Int := (chain R n).map (·.num)
theorem chN_at {R : List Bk} (h : BksOk R) {b : Bk} (hb : b ∈ R) : chN R b.num = b.num :: (match b.par with
    | none => []
    | some p => chN R p) := by
  unfold chN
  rw [chain_at h hb]
  cases b.par <;> rfl
theorem wp_chain_of {S : Sto} {R : List Bk} {b : Bk} {Q : D → Sto → Prop} {E : Px} (h : BksOk R) (hl : R.length ≤ 20) (hb : b ∈ R) (q : Q (.lst ((chN R b.num).map .int)) S) : Wp (d_chain_of [booksD R, .int b.num] S) Q E := by
  refine wp_fnP (by simp only [noRefs, nr_books, Bool.and_true]; rfl) ?_
  unfold b_chain_of
  walk_at "w"
  rw [show ([] : Sto).length = 0 from rfl]
  unfold l_chain_of_1
  refine ws_while [3] (fun k vs S' => ∃ (pre : List Int) (c : Bk) (e3 : Option D), vs = [e3] ∧ S'[0]? = some (some (.lst ((pre ++ [c.num]).map .int))) ∧ c ∈ R ∧ pre ++ chN R c.num = chN R b.num ∧ k = (chN R c.num).length) (chN R b.num).length [none] (by unfold chN; rw [List.length_map]; have := chain_len R b.num; omega) rfl rfl ⟨[], b, none, rfl, rfl, hb, rfl, rfl⟩ ?_
  rintro k vs S1 hv ⟨pre, c, e3, rfl, h1, hc, hch, rfl⟩
  unfold lt_chain_of_1
  dsimp only [putAll, List.set_cons_zero, List.set_cons_succ]
  walk_at "w"
  refine wo_ixL (last_at pre c.num) ?_
  walk_at "w"
  refine vo_inA ?_
  have hin : c.num ∈ (bookL R).map (·.1) := by rw [bookL_keys]; exact numL_mem.mpr ⟨c, hc, rfl⟩
  rw [decide_eq_true hin]
  refine ⟨_, rfl, fun _ => ?_, fun z => (by cases z)⟩
  unfold lb_chain_of_1
  walk_at "w"
  refine wo_ixL (last_at pre c.num) ?_
  walk_at "w"
  refine vo_ixA (get_book h hc) ?_
  walk_at "w"
  have hca := chN_at h hc
  cases hp : c.par with
  | none =>
    rw [hp] at hca
    dsimp only [parD]
    unfold i_chain_of_1
    walk_at "w"
    refine ws_frz rfl h1 ?_
    walk_at "w"
    rw [← hch, hca] at q
    exact ⟨nr_ints _, q⟩
  | some p =>
    rw [hp] at hca
    obtain ⟨d, hd, rfl⟩ := par_in h c hc p hp
    dsimp only [parD]
    unfold i_chain_of_1
    walk_at "w"
    refine ⟨lst_some h1, ?_⟩
    walk_at "w"
    have hpl : (pre ++ [c.num]).length ≤ 21 := by
      have := congrArg List.length hch
      rw [List.length_append, hca] at this
      have h2 : (chN R b.num).length ≤ 20 := by unfold chN; rw [List.length_map]; have := chain_len R b.num; omega
      simp at this ⊢
      omega
    refine ⟨_, _, _, h1, gApp (by rw [List.length_map]; omega), ?_⟩
    walk_at "w"
    refine ⟨[_], rfl, rfl, (chN R d.num).length, by rw [hca]; simp, pre ++ [c.num], d, _, rfl, ?_, hd, ?_, rfl⟩
    · rw [set_at h1, List.map_append (l₂ := [d.num])]; rfl
    · rw [← hch, hca]; simp
end LO
set_option Elab.async false
set_option linter.all false
set_option maxRecDepth 100000
set_option maxHeartbeats 4000000
namespace LO
open DL PySem LB LM
local macro_rules | `(tactic| walk_at "w1") => `(tactic| with_reducible first
  | (refine ws_then ?_; try with_reducible dsimp only [List.set_cons_zero, List.set_cons_succ]) | refine ws_seq ?_ | refine ws_asg ?_ | refine ws_expr ?_ | refine ws_ret ?_ | refine ws_if ?_ | refine ws_asgT ?_ | refine ws_skip ?_ | refine ws_retN ?_ | refine ws_brk ?_ | refine ws_cont ?_ | refine ws_thenR ?_ | refine ws_thenB ?_ | refine ws_thenC ?_ | refine fq_rt ?_ | refine fq_nx ?_ | refine un_nx ?_ | refine un_ct ?_ | refine un_bk ?_ | refine un_rt ?_ | refine ws_loopN ?_
  | (refine ws_loopC (ρ1 := ?r) ?h ?q; (case h => with_unfolding_all rfl); try with_reducible dsimp only [List.set_cons_zero, List.set_cons_succ])
  | refine wp_c ?_ | refine wp_op2 ?_ | refine wp_fn ?_ | refine wp_cons ?_ | refine wp_nil ?_ | refine wp_call ?_ | refine wp_op1 ?_
  | (refine wp_var (d := ?d) ?h ?q; (case h => with_unfolding_all rfl))
  | (refine ws_aug (d := ?d) ?h ?q; (case h => with_unfolding_all rfl))
  | refine wp_tup ?_ | refine wp_lst ?_ | refine wp_lstM ?_ | refine wp_listM ?_
  | refine wp_sl0 ?_ | refine wp_sl1 ?_ | refine wp_sl2 ?_ | refine wp_sl3 ?_
  | refine wp_tval ?_ | refine wp_tnot ?_ | refine wp_tand ?_ | refine wp_tor ?_ | refine wp_tyes ?_ | refine wp_and ?_ | refine wp_or ?_ | refine wp_not ?_ | refine wp_ifx ?_ | refine wp_chain ?_ | refine wp_meth ?_ | refine wp_meth0 ?_
  | refine wp_isi ?_ | refine wp_isis ?_ | refine wp_repr ?_ | refine wp_maxD ?_ | refine wi_rng3 ?_
  | refine wp_str1 ?_ | refine ws_par ?_ | refine wp_dnew ?_ | refine wp_get2 ?_ | refine wp_reprQ ?_ | refine wp_fnK ?_ | refine wi_valsI ?_ | refine wi_itemsI ?_ | refine ws_augI ?_
  | refine wi_seq ?_ | refine wi_rng1 ?_ | refine wi_rng2 ?_ | refine wi_zip2 ?_ | refine wi_zipS ?_
  | (refine wp_fnB (ρ := ?ρ) ?he ?_; (case he => (simp only [List.map_cons, List.map_nil, List.length_cons, List.length_nil, List.replicate, List.cons_append, List.nil_append, Nat.reduceAdd, Nat.reduceSub]; rfl))))
local macro_rules | `(tactic| walk_at "w2") => `(tactic| ((with_reducible refine wo_id ?_); with_reducible first
  | refine vo_sub ?_ | refine vo_add ?_ | refine vo_lt ?_ | refine vo_le ?_ | refine vo_gt ?_ | refine vo_ge ?_ | refine vo_eq ?_ | refine vo_ne ?_ | refine vo_eqS ?_ | refine vo_neS ?_ | refine vo_eqB ?_ | refine vo_neB ?_ | refine vo_neg ?_ | refine vo_slT ?_ | refine vo_slL ?_ | refine vo_slS ?_ | refine vo_lenT ?_ | refine vo_lenL ?_ | refine vo_lenS ?_ | refine vo_revT ?_ | refine vo_revL ?_ | refine vo_min ?_ | refine vo_max ?_ | refine vo_tupL ?_ | refine vo_tupT ?_ | refine vo_lisL ?_ | refine vo_lisT ?_
  | refine vo_igAdd ?_ | refine vo_igMulR (by omega) ?_ | refine vo_igMulL (by omega) ?_ | refine vo_mod (by omega) ?_ | refine vo_div (by omega) ?_ | refine vo_mulR (by omega) ?_ | refine vo_mulL (by omega) ?_
  | refine vo_ixL0 ?_ | refine vo_ixL1 ?_ | refine vo_ixL2 ?_ | refine vo_ixL3 ?_ | refine vo_ixL4 ?_ | refine vo_ixL5 ?_ | refine vo_ixL6 ?_ | refine vo_ixT0 ?_ | refine vo_ixT1 ?_ | refine vo_ixT2 ?_ | refine vo_ixT3 ?_ | refine vo_ixT4 ?_ | refine vo_ixT5 ?_ | refine vo_ixT6 ?_
  | refine vo_starts ?_ | refine vo_isBN ?_ | refine vo_isSN ?_ | refine vo_isLN ?_ | refine vo_isDN ?_ | refine vo_slX (by first | assumption | omega) ?_ | refine vo_lenX (by first | assumption | omega) ?_ | refine vo_addS (by first | assumption | omega) ?_
  | refine vo_inT ?_ | refine vo_ninT ?_ | refine vo_inL ?_ | refine vo_ninL ?_ | refine vo_inI ?_ | refine vo_ninI ?_ | refine vo_sortI (by first | assumption | omega) ?_ | refine vo_sortL ?_ | refine vo_lenI ?_ | refine vo_lt3 ?_ | refine vo_isNN ?_ | refine vo_is3N ?_ | refine vo_isTN ?_ | refine vo_isIN ?_ | refine vo_igAddI ?_ | refine vo_ixI (by assumption) ?_
  | refine vo_vwD1 (by assumption) ?_ | refine vo_vwDc (by assumption) ?_
  | refine wo_vw1 (by assumption) ?_ | refine wo_vw2 (by assumption) ?_ | refine vo_vwc (by assumption) ?_
  | (refine vo_isi (c := ?c) ?h ?q; (case h => with_unfolding_all rfl)) | (refine vo_isis (c := ?c) ?h ?q; (case h => with_unfolding_all rfl))))
local macro_rules | `(tactic| walk_at "w3") => `(tactic| first
  | with_reducible refine nb_ff ?_ | with_reducible refine nb_tt ?_ | with_reducible refine nb_ft ?_ | with_reducible refine nb_tf ?_
  | with_reducible refine ite_f ?_ | with_reducible refine ite_nt ?_ | with_reducible refine ite_nf ?_ | with_reducible refine ite_t ?_
  | ((with_reducible refine ex_id ?_); refine ⟨_, rfl, ?_⟩) | ((with_reducible refine and_id ?_); refine ⟨Nat.le_of_ble_eq_true rfl, ?_⟩))
local macro_rules | `(tactic| walk_at "w") => `(tactic| repeat (first | walk_at "w1" | walk_at "w2" | walk_at "w3"))
theorem row1_len (T : FT) (p : Str × Option (List Int)) : (row1 T p).length ≤ T.length + 1 := by
  obtain ⟨x, v⟩ := p
  cases v with
  | none => exact Nat.le_trans (dropT_len T x) (by omega)
  | some ns => exact putT_len T x ns
theorem fold_snoc {α β : Type} {f : α → β → α} {l : List β} {j : Nat} {x : β} {a : α} (h : l[j]? = some x) : (l.take (j + 1)).foldl f a = f ((l.take j).foldl f a) x := by
  rw [List.take_add_one, h, List.foldl_append]; rfl
theorem wp_files_by {S : Sto} {R : List Bk} {b : Bk} {Q : D → Sto → Prop} {E : Px} (h : BksOk R) (hl : R.length ≤ 20) (hb : b ∈ R) (q : Q (filD (fb R b.num)) S) : Wp (d_files_by [booksD R, .int b.num] S) Q E := by
  refine wp_fnP (by simp only [noRefs, nr_books, Bool.and_true]; rfl) ?_
  unfold b_files_by
  walk_at "w"
  rw [show ([] : Sto).length = 0 from rfl]
  unfold l_files_by_2
  refine ws_for [3, 4, 5] ?_
  walk_at "w"
  refine wp_chain_of h hl hb ?_
  walk_at "w"
  have el : ((chN R b.num).map D.int).reverse = (chain R b.num).reverse.map fun c => D.int c.num := by
    unfold chN
    rw [List.map_map, List.map_reverse]
    rfl
  rw [el]
  have hcl := chain_len R b.num
  refine ⟨_, Or.inr rfl, ?_⟩
  refine ⟨fun j vs S' => ∃ (e3 e4 e5 : Option D), vs = [e3, e4, e5] ∧ S'[0]? = some (some (.dic false (kT numD (((chain R b.num).reverse.take j).foldl (fun T c => applyRows T c.rows) [])))) ∧ (((chain R b.num).reverse.take j).foldl (fun T c => applyRows T c.rows) ([] : FT)).length ≤ j * 24, [none, none, none], rfl, rfl, ⟨none, none, none, rfl, rfl, by simp⟩, ?_, ?_⟩
  · rintro j d vs S1 hj hv ⟨e3, e4, e5, rfl, h1, hl1⟩
    rw [List.getElem?_map] at hj
    obtain ⟨c, hcj, rfl⟩ := Option.map_eq_some_iff.mp hj
    have hjl := (List.getElem?_eq_some_iff.mp hcj).1
    rw [List.length_reverse] at hjl
    have hc := chain_mem (List.mem_reverse.mp (List.mem_of_getElem? hcj))
    have hco := bks_fil h c hc
    refine ⟨_, rfl, ?_⟩
    unfold lb_files_by_2
    dsimp only [putAll, List.set_cons_zero, List.set_cons_succ]
    generalize hT0 : ((chain R b.num).reverse.take j).foldl (fun T c => applyRows T c.rows) ([] : FT) = T0 at h1 hl1
    unfold l_files_by_1
    refine ws_for [4, 5] ?_
    walk_at "w"
    refine vo_ixA (get_book h hc) ?_
    walk_at "w"
    refine ⟨_, Or.inl rfl, ?_⟩
    refine ⟨fun i vs S' => ∃ (e4 e5 : Option D), vs = [e4, e5] ∧ S'[0]? = some (some (.dic false (kT numD (applyRows T0 (c.rows.take i))))) ∧ (applyRows T0 (c.rows.take i)).length ≤ j * 24 + i, [e4, e5], rfl, rfl, ⟨e4, e5, rfl, h1, hl1⟩, ?_, ?_⟩
    · rintro i d vs S2 hi hv ⟨e4, e5, rfl, h2, hl2⟩
      rw [List.getElem?_map] at hi
      obtain ⟨p, hpi, rfl⟩ := Option.map_eq_some_iff.mp hi
      have hil := (List.getElem?_eq_some_iff.mp hpi).1
      have hrl := hco.2.1.len
      have hsn : applyRows T0 (c.rows.take (i + 1)) = row1 (applyRows T0 (c.rows.take i)) p := fold_snoc hpi
      have hl3 := row1_len (applyRows T0 (c.rows.take i)) p
      refine ⟨_, rfl, ?_⟩
      unfold lb_files_by_1 i_files_by_1
      dsimp only [putAll, List.set_cons_zero, List.set_cons_succ]
      obtain ⟨x, v⟩ := p
      cases v with
      | none =>
        dsimp only [optD]
        walk_at "w"
        refine wp_popD2T numD ?_
        walk_at "w"
        refine ⟨dic_some h2, ?_⟩
        walk_at "w"
        refine ⟨0, applyRows T0 (c.rows.take i), x, rfl, rfl, h2, fun w => ?_⟩
        walk_at "w"
        exact ⟨[_, _], rfl, rfl, _, _, rfl, by rw [hsn]; exact set_at h2, by rw [hsn]; omega⟩
      | some ns =>
        dsimp only [optD]
        walk_at "w"
        refine ws_setTb numD ?_
        walk_at "w"
        refine ⟨0, applyRows T0 (c.rows.take i), x, ns, rfl, rfl, rfl, h2, by omega, ?_⟩
        exact ⟨[_, _], rfl, rfl, _, _, rfl, by rw [hsn]; exact set_at h2, by rw [hsn]; omega⟩
    · rintro vs S2 hv ⟨e4, e5, rfl, h2, hl2⟩
      rw [List.length_map, List.take_length] at h2 hl2
      have hsn := fold_snoc (f := fun T (c : Bk) => applyRows T c.rows) (a := ([] : FT)) hcj
      rw [hT0] at hsn
      have hrl := hco.2.1.len
      exact ⟨[_, _, _], rfl, rfl, _, _, _, rfl, by rw [hsn]; exact h2, by rw [hsn]; omega⟩
  · rintro vs S1 hv ⟨e3, e4, e5, rfl, h1, hl1⟩
    rw [List.length_map, List.take_length] at h1
    refine ws_frzA rfl h1 ?_
    dsimp only [putAll, List.set_cons_zero, List.set_cons_succ]
    walk_at "w"
    exact ⟨nr_fil _, q⟩
end LO
set_option Elab.async false
set_option linter.all false
set_option maxRecDepth 100000
set_option maxHeartbeats 4000000
namespace LO
open DL PySem LB LM
local macro_rules | `(tactic| walk_at "w1") => `(tactic| with_reducible first
  | (refine ws_then ?_; try with_reducible dsimp only [List.set_cons_zero, List.set_cons_succ]) | refine ws_seq ?_ | refine ws_asg ?_ | refine ws_expr ?_ | refine ws_ret ?_ | refine ws_if ?_ | refine ws_asgT ?_ | refine ws_skip ?_ | refine ws_retN ?_ | refine ws_brk ?_ | refine ws_cont ?_ | refine ws_thenR ?_ | refine ws_thenB ?_ | refine ws_thenC ?_ | refine fq_rt ?_ | refine fq_nx ?_ | refine un_nx ?_ | refine un_ct ?_ | refine un_bk ?_ | refine un_rt ?_ | refine ws_loopN ?_
  | (refine ws_loopC (ρ1 := ?r) ?h ?q; (case h => with_unfolding_all rfl); try with_reducible dsimp only [List.set_cons_zero, List.set_cons_succ])
  | refine wp_c ?_ | refine wp_op2 ?_ | refine wp_fn ?_ | refine wp_cons ?_ | refine wp_nil ?_ | refine wp_call ?_ | refine wp_op1 ?_
  | (refine wp_var (d := ?d) ?h ?q; (case h => with_unfolding_all rfl))
  | (refine ws_aug (d := ?d) ?h ?q; (case h => with_unfolding_all rfl))
  | refine wp_tup ?_ | refine wp_lst ?_ | refine wp_lstM ?_ | refine wp_listM ?_
  | refine wp_sl0 ?_ | refine wp_sl1 ?_ | refine wp_sl2 ?_ | refine wp_sl3 ?_
  | refine wp_tval ?_ | refine wp_tnot ?_ | refine wp_tand ?_ | refine wp_tor ?_ | refine wp_tyes ?_ | refine wp_and ?_ | refine wp_or ?_ | refine wp_not ?_ | refine wp_ifx ?_ | refine wp_chain ?_ | refine wp_meth ?_ | refine wp_meth0 ?_
  | refine wp_isi ?_ | refine wp_isis ?_ | refine wp_repr ?_ | refine wp_maxD ?_ | refine wi_rng3 ?_
  | refine wp_str1 ?_ | refine ws_par ?_ | refine wp_dnew ?_ | refine wp_get2 ?_ | refine wp_reprQ ?_ | refine wp_fnK ?_ | refine wi_valsI ?_ | refine wi_itemsI ?_ | refine ws_augI ?_
  | refine wi_seq ?_ | refine wi_rng1 ?_ | refine wi_rng2 ?_ | refine wi_zip2 ?_ | refine wi_zipS ?_
  | (refine wp_fnB (ρ := ?ρ) ?he ?_; (case he => (simp only [List.map_cons, List.map_nil, List.length_cons, List.length_nil, List.replicate, List.cons_append, List.nil_append, Nat.reduceAdd, Nat.reduceSub]; rfl))))
local macro_rules | `(tactic| walk_at "w2") => `(tactic| ((with_reducible refine wo_id ?_); with_reducible first
  | refine vo_sub ?_ | refine vo_add ?_ | refine vo_lt ?_ | refine vo_le ?_ | refine vo_gt ?_ | refine vo_ge ?_ | refine vo_eq ?_ | refine vo_ne ?_ | refine vo_eqS ?_ | refine vo_neS ?_ | refine vo_eqB ?_ | refine vo_neB ?_ | refine vo_neg ?_ | refine vo_slT ?_ | refine vo_slL ?_ | refine vo_slS ?_ | refine vo_lenT ?_ | refine vo_lenL ?_ | refine vo_lenS ?_ | refine vo_revT ?_ | refine vo_revL ?_ | refine vo_min ?_ | refine vo_max ?_ | refine vo_tupL ?_ | refine vo_tupT ?_ | refine vo_lisL ?_ | refine vo_lisT ?_
  | refine vo_igAdd ?_ | refine vo_igMulR (by omega) ?_ | refine vo_igMulL (by omega) ?_ | refine vo_mod (by omega) ?_ | refine vo_div (by omega) ?_ | refine vo_mulR (by omega) ?_ | refine vo_mulL (by omega) ?_
  | refine vo_ixL0 ?_ | refine vo_ixL1 ?_ | refine vo_ixL2 ?_ | refine vo_ixL3 ?_ | refine vo_ixL4 ?_ | refine vo_ixL5 ?_ | refine vo_ixL6 ?_ | refine vo_ixT0 ?_ | refine vo_ixT1 ?_ | refine vo_ixT2 ?_ | refine vo_ixT3 ?_ | refine vo_ixT4 ?_ | refine vo_ixT5 ?_ | refine vo_ixT6 ?_
  | refine vo_starts ?_ | refine vo_isBN ?_ | refine vo_isSN ?_ | refine vo_isLN ?_ | refine vo_isDN ?_ | refine vo_slX (by first | assumption | omega) ?_ | refine vo_lenX (by first | assumption | omega) ?_ | refine vo_addS (by first | assumption | omega) ?_
  | refine vo_inT ?_ | refine vo_ninT ?_ | refine vo_inL ?_ | refine vo_ninL ?_ | refine vo_inI ?_ | refine vo_ninI ?_ | refine vo_sortI (by first | assumption | omega) ?_ | refine vo_sortL ?_ | refine vo_lenI ?_ | refine vo_lt3 ?_ | refine vo_isNN ?_ | refine vo_is3N ?_ | refine vo_isTN ?_ | refine vo_isIN ?_ | refine vo_igAddI ?_ | refine vo_ixI (by assumption) ?_
  | refine vo_vwD1 (by assumption) ?_ | refine vo_vwDc (by assumption) ?_
  | refine wo_vw1 (by assumption) ?_ | refine wo_vw2 (by assumption) ?_ | refine vo_vwc (by assumption) ?_
  | (refine vo_isi (c := ?c) ?h ?q; (case h => with_unfolding_all rfl)) | (refine vo_isis (c := ?c) ?h ?q; (case h => with_unfolding_all rfl))))
local macro_rules | `(tactic| walk_at "w3") => `(tactic| first
  | with_reducible refine nb_ff ?_ | with_reducible refine nb_tt ?_ | with_reducible refine nb_ft ?_ | with_reducible refine nb_tf ?_
  | with_reducible refine ite_f ?_ | with_reducible refine ite_nt ?_ | with_reducible refine ite_nf ?_ | with_reducible refine ite_t ?_
  | ((with_reducible refine ex_id ?_); refine ⟨_, rfl, ?_⟩) | ((with_reducible refine and_id ?_); refine ⟨Nat.le_of_ble_eq_true rfl, ?_⟩))
local macro_rules | `(tactic| walk_at "w") => `(tactic| repeat (first | walk_at "w1" | walk_at "w2" | walk_at "w3"))
theorem toPs_strs (ts : List Str) : toPs (ts.map .str) = some (ts.map PyData.str) := by
  induction ts with
  | nil => rfl
  | cons x xs ih => simp [toPs, toP, ih]
theorem depth_strs (ts : List Str) : PyData.depthAll (ts.map PyData.str) ≤ 1 := by
  induction ts with
  | nil => simp [PyData.depthAll]
  | cons x xs ih => simp only [List.map_cons, PyData.depthAll, PyData.depth]; omega
theorem vo_minS {S : Sto} {Q : D → Prop} {ts : List Str} (h : ts ≠ []) (q : ∀ t ∈ ts, Q (.str t)) : Wo (minLD (List.map (view S) [.lst (ts.map .str)])) Q := by
  cases ts with
  | nil => exact absurd rfl h
  | cons t ts =>
    have hm := minD_mem (ts.map PyData.str) (.str t)
    rw [show PyData.str t :: ts.map PyData.str = (t :: ts).map PyData.str from rfl] at hm
    obtain ⟨u, hu, e⟩ := List.mem_map.mp hm
    refine .of (d := .str u) ?_ (q u hu)
    show ((toPs ((t :: ts).map .str)).bind fun ps => match ps with
      | p :: qs => if alikeB (p :: qs) = true ∧ PyData.depthAll (p :: qs) ≤ 40 then some (ofP (PySem.W.minD p qs)) else none
      | [] => none) = _
    rw [toPs_strs]
    show (if alikeB ((t :: ts).map PyData.str) = true ∧ PyData.depthAll ((t :: ts).map PyData.str) ≤ 40 then some (ofP (PySem.W.minD (.str t) (ts.map PyData.str))) else none) = _
    have hal : alikeB ((t :: ts).map PyData.str) = true := by
      unfold alikeB
      rw [List.all_map]
      refine List.all_eq_true.mpr fun x _ => ?_
      show (((t :: ts).map PyData.str).all (fun q => PySem.W.alike (.str x) q) && true) = true
      rw [Bool.and_true, List.all_map]
      exact List.all_eq_true.mpr fun y _ => by simp [PySem.W.alike]
    rw [if_pos ⟨hal, Nat.le_trans (depth_strs _) (by omega)⟩]
    have e' : PySem.W.minD (.str t) (ts.map PyData.str) = .str u := e.symm
    rw [e']
    rfl
theorem ixI_has {ns : List Int} {k : Int} (h : k ∈ ns) : ∃ i, ixI ns k = some i := by
  induction ns with
  | nil => simp at h
  | cons x xs ih =>
    show ∃ i, (if x = k then some 0 else (ixI xs k).map (· + 1)) = some i
    by_cases e : x = k
    · rw [if_pos e]; exact ⟨0, rfl⟩
    · rw [if_neg e]
      obtain ⟨i, hi⟩ := ih ((List.mem_cons.mp h).resolve_left fun z => e z.symm)
      rw [hi]; exact ⟨i + 1, rfl⟩
theorem wp_idx {o e : Ex} {ρ : Ev} {S : Sto} {Q : D → Sto → Prop} {E : Px} (h : Wp (o ρ S) (fun d S1 => ∃ xs : List Int, view S1 d = .lst (xs.map .int) ∧ Wp (e ρ S1) (fun y S2 => ∃ (k : Int) (i : Nat), view S2 d = .lst (xs.map .int) ∧ y = .int k ∧ ixI xs k = some i ∧ Q (.int (i : Nat)) S2) E) E) : Wp (eIdx o [e] ρ S) Q E :=
  wp_bind (h.mono fun d S1 ⟨xs, e1, h⟩ => by
    rw [e1]
    rw [if_pos (show isLs (.lst (xs.map .int)) = true from rfl)]
    refine wp_bind (wp_bind (h.mono fun y S2 ⟨k, i, e2, e3, e4, q⟩ => ?_))
    subst e3
    refine .of (show (evL [] ρ S2).bind (fun ds S => R.ok (D.int k :: ds) S) = .ok [D.int k] S2 from rfl) ?_
    show Wp (ans S2 (idxD (view S2 d) (.int k))) Q E
    rw [e2]
    refine wp_ans (.of (d := .int (i : Nat)) ?_ q)
    show (asIs (xs.map .int)).bind (fun ns => (ixI ns k).map fun i => D.int (i : Nat)) = _
    rw [asIs_I]
    show (ixI xs k).map _ = _
    rw [e4]; rfl)
theorem fb_len {R : List Bk} (h : BksOk R) {b : Bk} (hb : b ∈ R) : (fb R b.num).length ≤ 8 := by
  have h1 := (fb_get h b hb).2
  have h2 := (bks_fil h b hb).1
  have hn1 : (fb R b.num).Nodup := List.Pairwise.of_map (·.1) (fun a b h e => h (by rw [e])) h1
  have hn2 : b.fil.Nodup := List.Pairwise.of_map (·.1) (fun a b h e => h (by rw [e])) h2.nd
  have hp : (fb R b.num).Perm b.fil := (List.perm_ext_iff_of_nodup hn1 hn2).mpr fun p => fb_mem h hb
  rw [hp.length_eq]
  exact h2.len
theorem wp_book_way {S : Sto} {R : List Bk} {ms : List Int} {x : Int} {Q : D → Sto → Prop} {E : Px} (h : BksOk R) (hl : R.length ≤ 20) (hm : ∀ m ∈ ms, ∃ b ∈ R, b.num = m)
    (q1 : (∀ m ∈ ms, x ∉ chN R m) → Q .non S) (q2 : ∀ m ∈ ms, ∀ i : Nat, (chN R m)[i]? = some x → Q (.lst (((chN R m).take (i + 1)).map .int)) S) : Wp (d_book_way [booksD R, .lst (ms.map .int), .int x] S) Q E := by
  refine wp_fnP (by simp only [noRefs, nr_books, nr_ints, Bool.and_true]; rfl) ?_
  unfold b_book_way
  walk_at "w"
  unfold l_book_way_1
  refine ws_for [3, 4] ?_
  walk_at "w"
  refine ⟨_, Or.inr rfl, ?_⟩
  refine ⟨fun j vs S' => ∃ (e3 e4 : Option D), vs = [e3, e4] ∧ ∀ m ∈ ms.take j, x ∉ chN R m, [none, none], rfl, rfl, ⟨none, none, rfl, fun m hm => by simp at hm⟩, ?_, ?_⟩
  · rintro j d vs S1 hj hv ⟨e3, e4, rfl, hno⟩
    rw [List.getElem?_map] at hj
    obtain ⟨m, hmj, rfl⟩ := Option.map_eq_some_iff.mp hj
    have hmm := List.mem_of_getElem? hmj
    obtain ⟨b, hb, rfl⟩ := hm m hmm
    refine ⟨_, rfl, ?_⟩
    unfold lb_book_way_1
    dsimp only [putAll, List.set_cons_zero, List.set_cons_succ]
    walk_at "w"
    refine wp_chain_of h hl hb ?_
    walk_at "w"
    unfold i_book_way_1
    walk_at "w"
    refine ⟨fun hin => ?_, fun hin => ?_⟩
    · obtain ⟨i, hi⟩ := ixI_has (of_decide_eq_true hin)
      walk_at "w"
      refine wp_idx ?_
      walk_at "w"
      refine ⟨x, i, rfl, rfl, hi, ?_⟩
      walk_at "w"
      rw [cut_map, cutL_take _ _ (by omega), show ((i : Int) + 1).toNat = i + 1 by omega]
      exact ⟨nr_ints _, q2 b.num hmm i (ixI_some hi).1⟩
    · walk_at "w"
      refine ⟨[_, _], rfl, rfl, _, _, rfl, fun m hm' => ?_⟩
      rw [List.take_add_one, hmj] at hm'
      rcases List.mem_append.mp hm' with hm' | hm'
      · exact hno m hm'
      · simp at hm'; subst hm'; exact of_decide_eq_false hin
  · rintro vs S1 hv ⟨e3, e4, rfl, hno⟩
    rw [List.length_map, List.take_length] at hno
    walk_at "w"
    exact ⟨rfl, q1 hno⟩
theorem wp_piece_way {S : Sto} {R : List Bk} {ms : List Int} {x : Int} {Q : D → Sto → Prop} {E : Px} (h : BksOk R) (hl : R.length ≤ 20) (hm : ∀ m ∈ ms, ∃ b ∈ R, b.num = m)
    (q1 : (∀ m ∈ ms, ∀ p ∈ fb R m, x ∉ p.2) → Q .non S) (q2 : ∀ m ∈ ms, ∀ p ∈ fb R m, x ∈ p.2 → Q (.tup [.int m, .str p.1]) S) : Wp (d_piece_way [booksD R, .lst (ms.map .int), .int x] S) Q E := by
  refine wp_fnP (by simp only [noRefs, nr_books, nr_ints, Bool.and_true]; rfl) ?_
  unfold b_piece_way
  walk_at "w"
  unfold l_piece_way_1
  refine ws_for [3, 4] ?_
  walk_at "w"
  refine ⟨_, Or.inr rfl, ?_⟩
  refine ⟨fun j vs S' => ∃ (e3 e4 : Option D), vs = [e3, e4] ∧ ∀ m ∈ ms.take j, ∀ p ∈ fb R m, x ∉ p.2, [none, none], rfl, rfl, ⟨none, none, rfl, fun m hm => by simp at hm⟩, ?_, ?_⟩
  · rintro j d vs S1 hj hv ⟨e3, e4, rfl, hno⟩
    rw [List.getElem?_map] at hj
    obtain ⟨m, hmj, rfl⟩ := Option.map_eq_some_iff.mp hj
    have hmm := List.mem_of_getElem? hmj
    obtain ⟨b, hb, rfl⟩ := hm m hmm
    refine ⟨_, rfl, ?_⟩
    unfold lb_piece_way_1
    dsimp only [putAll, List.set_cons_zero, List.set_cons_succ]
    walk_at "w"
    unfold c_piece_way_1
    refine wp_comp_map (fb R b.num) (fun p => .tup [.str p.1, numD p.2]) (fun p => decide (x ∈ p.2)) (fun p => .str p.1) (by have := fb_len h hb; omega) ?_
    refine wi_itemsT numD ?_
    walk_at "w"
    refine wp_files_by h hl hb ?_
    refine ⟨_, rfl, rfl, fun p hp => ⟨_, rfl, ?_, fun _ => ?_⟩, ?_⟩
    · unfold ct_piece_way_1
      walk_at "w"
      exact ⟨rfl, rfl⟩
    · unfold ce_piece_way_1
      walk_at "w"
      exact ⟨rfl, rfl⟩
    walk_at "w"
    unfold i_piece_way_1
    walk_at "w"
    have ep : ((fb R b.num).filter fun p => decide (x ∈ p.2)).map (fun p => D.str p.1) = (((fb R b.num).filter fun p => decide (x ∈ p.2)).map (·.1)).map .str := by rw [List.map_map]; rfl
    rw [ep]
    have hmem : ∀ t ∈ ((fb R b.num).filter fun p => decide (x ∈ p.2)).map (·.1), ∃ p ∈ fb R b.num, x ∈ p.2 ∧ p.1 = t := fun t ht => by
      obtain ⟨p, hp, rfl⟩ := List.mem_map.mp ht
      obtain ⟨h1, h2⟩ := List.mem_filter.mp hp
      exact ⟨p, h1, of_decide_eq_true h2, rfl⟩
    have hts := txts_sd (k := 27) (xs := ((fb R b.num).filter fun p => decide (x ∈ p.2)).map (·.1)) fun t ht => by
      obtain ⟨p, hp, _, rfl⟩ := hmem t ht
      exact ((bks_fil h b hb).1.ok p ((fb_mem h hb).mp hp)).1.txt
    have hnone : (((fb R b.num).filter fun p => decide (x ∈ p.2)).map (·.1)) = [] → ∀ p ∈ fb R b.num, x ∉ p.2 := fun e p hp hx => by
      rw [List.map_eq_nil_iff, List.filter_eq_nil_iff] at e
      exact e p hp (decide_eq_true hx)
    generalize ((fb R b.num).filter fun p => decide (x ∈ p.2)).map (·.1) = ts at hmem hts hnone
    refine vo_neNil hts.1 (by omega) ?_
    refine ⟨_, rfl, fun hne => ?_, fun he => ?_⟩
    · walk_at "w"
      refine vo_minS (fun e => by rw [e] at hne; simp at hne) fun t ht => ?_
      walk_at "w"
      obtain ⟨p, hp, hx, rfl⟩ := hmem t ht
      exact ⟨rfl, q2 b.num hmm p hp hx⟩
    · walk_at "w"
      refine ⟨[_, _], rfl, rfl, _, _, rfl, fun m hm' => ?_⟩
      rw [List.take_add_one, hmj] at hm'
      rcases List.mem_append.mp hm' with hm' | hm'
      · exact hno m hm'
      · simp at hm'
        subst hm'
        refine hnone ?_
        cases ts with
        | nil => rfl
        | cons _ _ => simp at he
  · rintro vs S1 hv ⟨e3, e4, rfl, hno⟩
    rw [List.length_map, List.take_length] at hno
    walk_at "w"
    exact ⟨rfl, q1 hno⟩
end LO
set_option Elab.async false
set_option linter.all false
set_option maxRecDepth 100000
set_option maxHeartbeats 4000000
namespace LO
open DL PySem LB LM
local macro_rules | `(tactic| walk_at "w1") => `(tactic| with_reducible first
  | (refine ws_then ?_; try with_reducible dsimp only [List.set_cons_zero, List.set_cons_succ]) | refine ws_seq ?_ | refine ws_asg ?_ | refine ws_expr ?_ | refine ws_ret ?_ | refine ws_if ?_ | refine ws_asgT ?_ | refine ws_skip ?_ | refine ws_retN ?_ | refine ws_brk ?_ | refine ws_cont ?_ | refine ws_thenR ?_ | refine ws_thenB ?_ | refine ws_thenC ?_ | refine fq_rt ?_ | refine fq_nx ?_ | refine un_nx ?_ | refine un_ct ?_ | refine un_bk ?_ | refine un_rt ?_ | refine ws_loopN ?_
  | (refine ws_loopC (ρ1 := ?r) ?h ?q; (case h => with_unfolding_all rfl); try with_reducible dsimp only [List.set_cons_zero, List.set_cons_succ])
  | refine wp_c ?_ | refine wp_op2 ?_ | refine wp_fn ?_ | refine wp_cons ?_ | refine wp_nil ?_ | refine wp_call ?_ | refine wp_op1 ?_
  | (refine wp_var (d := ?d) ?h ?q; (case h => with_unfolding_all rfl))
  | (refine ws_aug (d := ?d) ?h ?q; (case h => with_unfolding_all rfl))
  | refine wp_tup ?_ | refine wp_lst ?_ | refine wp_lstM ?_ | refine wp_listM ?_
  | refine wp_sl0 ?_ | refine wp_sl1 ?_ | refine wp_sl2 ?_ | refine wp_sl3 ?_
  | refine wp_tval ?_ | refine wp_tnot ?_ | refine wp_tand ?_ | refine wp_tor ?_ | refine wp_tyes ?_ | refine wp_and ?_ | refine wp_or ?_ | refine wp_not ?_ | refine wp_ifx ?_ | refine wp_chain ?_ | refine wp_meth ?_ | refine wp_meth0 ?_
  | refine wp_isi ?_ | refine wp_isis ?_ | refine wp_repr ?_ | refine wp_maxD ?_ | refine wi_rng3 ?_
  | refine wp_str1 ?_ | refine ws_par ?_ | refine wp_dnew ?_ | refine wp_get2 ?_ | refine wp_reprQ ?_ | refine wp_fnK ?_ | refine wi_valsI ?_ | refine wi_itemsI ?_ | refine ws_augI ?_
  | refine wi_seq ?_ | refine wi_rng1 ?_ | refine wi_rng2 ?_ | refine wi_zip2 ?_ | refine wi_zipS ?_
  | (refine wp_fnB (ρ := ?ρ) ?he ?_; (case he => (simp only [List.map_cons, List.map_nil, List.length_cons, List.length_nil, List.replicate, List.cons_append, List.nil_append, Nat.reduceAdd, Nat.reduceSub]; rfl))))
local macro_rules | `(tactic| walk_at "w2") => `(tactic| ((with_reducible refine wo_id ?_); with_reducible first
  | refine vo_sub ?_ | refine vo_add ?_ | refine vo_lt ?_ | refine vo_le ?_ | refine vo_gt ?_ | refine vo_ge ?_ | refine vo_eq ?_ | refine vo_ne ?_ | refine vo_eqS ?_ | refine vo_neS ?_ | refine vo_eqB ?_ | refine vo_neB ?_ | refine vo_neg ?_ | refine vo_slT ?_ | refine vo_slL ?_ | refine vo_slS ?_ | refine vo_lenT ?_ | refine vo_lenL ?_ | refine vo_lenS ?_ | refine vo_revT ?_ | refine vo_revL ?_ | refine vo_min ?_ | refine vo_max ?_ | refine vo_tupL ?_ | refine vo_tupT ?_ | refine vo_lisL ?_ | refine vo_lisT ?_
  | refine vo_igAdd ?_ | refine vo_igMulR (by omega) ?_ | refine vo_igMulL (by omega) ?_ | refine vo_mod (by omega) ?_ | refine vo_div (by omega) ?_ | refine vo_mulR (by omega) ?_ | refine vo_mulL (by omega) ?_
  | refine vo_ixL0 ?_ | refine vo_ixL1 ?_ | refine vo_ixL2 ?_ | refine vo_ixL3 ?_ | refine vo_ixL4 ?_ | refine vo_ixL5 ?_ | refine vo_ixL6 ?_ | refine vo_ixT0 ?_ | refine vo_ixT1 ?_ | refine vo_ixT2 ?_ | refine vo_ixT3 ?_ | refine vo_ixT4 ?_ | refine vo_ixT5 ?_ | refine vo_ixT6 ?_
  | refine vo_starts ?_ | refine vo_isBN ?_ | refine vo_isSN ?_ | refine vo_isLN ?_ | refine vo_isDN ?_ | refine vo_slX (by first | assumption | omega) ?_ | refine vo_lenX (by first | assumption | omega) ?_ | refine vo_addS (by first | assumption | omega) ?_
  | refine vo_inT ?_ | refine vo_ninT ?_ | refine vo_inL ?_ | refine vo_ninL ?_ | refine vo_inI ?_ | refine vo_ninI ?_ | refine vo_sortI (by first | assumption | omega) ?_ | refine vo_sortL ?_ | refine vo_lenI ?_ | refine vo_lt3 ?_ | refine vo_isNN ?_ | refine vo_is3N ?_ | refine vo_isTN ?_ | refine vo_isIN ?_ | refine vo_igAddI ?_ | refine vo_ixI (by assumption) ?_
  | refine vo_vwD1 (by assumption) ?_ | refine vo_vwDc (by assumption) ?_
  | refine wo_vw1 (by assumption) ?_ | refine wo_vw2 (by assumption) ?_ | refine vo_vwc (by assumption) ?_
  | (refine vo_isi (c := ?c) ?h ?q; (case h => with_unfolding_all rfl)) | (refine vo_isis (c := ?c) ?h ?q; (case h => with_unfolding_all rfl))))
local macro_rules | `(tactic| walk_at "w3") => `(tactic| first
  | with_reducible refine nb_ff ?_ | with_reducible refine nb_tt ?_ | with_reducible refine nb_ft ?_ | with_reducible refine nb_tf ?_
  | with_reducible refine ite_f ?_ | with_reducible refine ite_nt ?_ | with_reducible refine ite_nf ?_ | with_reducible refine ite_t ?_
  | ((with_reducible refine ex_id ?_); refine ⟨_, rfl, ?_⟩) | ((with_reducible refine and_id ?_); refine ⟨Nat.le_of_ble_eq_true rfl, ?_⟩))
local macro_rules | `(tactic| walk_at "w") => `(tactic| repeat (first | walk_at "w1" | walk_at "w2" | walk_at "w3"))
def rowsN (R : List Bk) (ms : List Int) : List (List Int) := ms.flatMap fun m => (fb R m).map (·.2)
def bitsN (R : List Bk) (ms : List Int) : List Int := (rowsN R ms).flatMap fun ns => ns
theorem flat_le {α β : Type} (l : List α) (f : α → List β) (k : Nat) (h : ∀ x ∈ l, (f x).length ≤ k) : (l.flatMap f).length ≤ l.length * k := flat_len l f k h
theorem rowsN_mem {R : List Bk} {ms : List Int} {ns : List Int} : ns ∈ rowsN R ms ↔ ∃ m ∈ ms, ∃ p ∈ fb R m, p.2 = ns := by
  unfold rowsN
  rw [List.mem_flatMap]
  simp only [List.mem_map]
theorem bitsN_len {R : List Bk} {ms : List Int} (h : BksOk R) (hm : ∀ m ∈ ms, ∃ b ∈ R, b.num = m) (hml : ms.length ≤ 9) : (rowsN R ms).length ≤ 72 ∧ (bitsN R ms).length ≤ 1440 := by
  have h1 : (rowsN R ms).length ≤ ms.length * 8 := flat_le _ _ _ fun m hx => by
    obtain ⟨b, hb, rfl⟩ := hm m hx
    rw [List.length_map]
    exact fb_len h hb
  have h2 : (bitsN R ms).length ≤ (rowsN R ms).length * 20 := flat_le _ _ _ fun ns hx => by
    obtain ⟨m, hm', p, hp, rfl⟩ := rowsN_mem.mp hx
    obtain ⟨b, hb, rfl⟩ := hm m hm'
    exact ((bks_fil h b hb).1.ok p ((fb_mem h hb).mp hp)).2.len
  have h3 := Nat.mul_le_mul_right 8 hml
  have h4 := Nat.mul_le_mul_right 20 (Nat.le_trans h1 h3)
  exact ⟨by omega, by omega⟩
theorem wp_needed {S : Sto} {R : List Bk} {ms : List Int} {Q : D → Sto → Prop} {E : Px} (h : BksOk R) (hl : R.length ≤ 20) (hm : ∀ m ∈ ms, ∃ b ∈ R, b.num = m) (hml : ms.length ≤ 9)
    (q : Q (.tup [.ref S.length, .ref (S.length + 1)]) (S ++ [some (.lst ((suI (ms.flatMap (chN R))).map .int))] ++ [some (.lst ((suI (bitsN R ms)).map .int))])) : Wp (d_needed [booksD R, .lst (ms.map .int)] S) Q E := by
  have hbl := bitsN_len h hm hml
  unfold d_needed b_needed
  walk_at "w"
  unfold c_needed_1
  refine wp_comp2 ms D.int (fun m => (fb R m).map (·.2)) numD (fun _ _ => true) (fun _ ns => numD ns) (by have := hbl.1; unfold rowsN at this; omega) ?_
  walk_at "w"
  refine ⟨_, Or.inr rfl, rfl, fun m hmm => ⟨_, rfl, ?_, fun ns hns => ⟨_, rfl, wp_tyes ⟨rfl, rfl⟩, fun _ => ?_⟩⟩, ?_⟩
  · obtain ⟨b, hb, rfl⟩ := hm m hmm
    unfold ci_needed_1
    refine wi_valsT numD ?_
    walk_at "w"
    refine wp_files_by h hl hb ?_
    exact ⟨_, rfl, by rw [List.map_map]; rfl, rfl⟩
  · unfold ce_needed_1
    walk_at "w"
    exact ⟨rfl, rfl⟩
  have e1 : (ms.flatMap fun m => (((fb R m).map (·.2)).filter fun _ => true).map fun ns => numD ns) = (rowsN R ms).map numD := by
    unfold rowsN
    rw [List.map_flatMap]
    congr 1
    funext m
    rw [List.filter_eq_self.mpr fun _ _ => rfl]
  rw [e1]
  walk_at "w"
  unfold c_needed_2
  refine wp_sortSc2M ms D.int (chN R) D.int (fun _ y => y) ?_ ?_
  · have := flat_le ms (chN R) 20 fun m hx => by unfold chN; rw [List.length_map]; have := chain_len R m; omega
    have h3 := Nat.mul_le_mul_right 20 hml
    omega
  walk_at "w"
  refine ⟨_, Or.inr rfl, rfl, fun m hmm => ⟨_, rfl, ?_, fun x hx => ⟨_, rfl, ?_⟩⟩, ?_⟩
  · obtain ⟨b, hb, rfl⟩ := hm m hmm
    unfold ci_needed_2
    walk_at "w"
    refine wp_chain_of h hl hb ?_
    exact ⟨_, Or.inr rfl, rfl, rfl⟩
  · unfold ce_needed_2
    walk_at "w"
    exact ⟨rfl, rfl⟩
  have e2 : (ms.flatMap fun m => (chN R m).map fun y => y) = ms.flatMap (chN R) := by
    congr 1
    funext m
    rw [List.map_id']
  rw [e2]
  walk_at "w"
  unfold c_needed_3
  refine wp_sortSc2M (rowsN R ms) numD (fun ns => ns) D.int (fun _ y => y) (by have := hbl.2; unfold bitsN at this; omega) ?_
  walk_at "w"
  refine ⟨_, Or.inr rfl, rfl, fun ns hns => ⟨_, rfl, ?_, fun x hx => ⟨_, rfl, ?_⟩⟩, ?_⟩
  · unfold ci_needed_3
    walk_at "w"
    exact ⟨_, Or.inl rfl, rfl, rfl⟩
  · unfold ce_needed_3
    walk_at "w"
    exact ⟨rfl, rfl⟩
  have e3 : ((rowsN R ms).flatMap fun ns => ns.map fun y => y) = bitsN R ms := by
    unfold bitsN
    congr 1
    funext ns
    rw [List.map_id']
  rw [e3]
  walk_at "w"
  have e4 : (S ++ [some (Ob.lst ((suI (ms.flatMap (chN R))).map .int))]).length = S.length + 1 := by simp
  rw [e4]
  exact q
end LO
set_option Elab.async false
set_option linter.all false
set_option maxRecDepth 100000
set_option maxHeartbeats 4000000
namespace LO
open DL PySem LB LM
local macro_rules | `(tactic| walk_at "w1") => `(tactic| with_reducible first
  | (refine ws_then ?_; try with_reducible dsimp only [List.set_cons_zero, List.set_cons_succ]) | refine ws_seq ?_ | refine ws_asg ?_ | refine ws_expr ?_ | refine ws_ret ?_ | refine ws_if ?_ | refine ws_asgT ?_ | refine ws_skip ?_ | refine ws_retN ?_ | refine ws_brk ?_ | refine ws_cont ?_ | refine ws_thenR ?_ | refine ws_thenB ?_ | refine ws_thenC ?_ | refine fq_rt ?_ | refine fq_nx ?_ | refine un_nx ?_ | refine un_ct ?_ | refine un_bk ?_ | refine un_rt ?_ | refine ws_loopN ?_
  | (refine ws_loopC (ρ1 := ?r) ?h ?q; (case h => with_unfolding_all rfl); try with_reducible dsimp only [List.set_cons_zero, List.set_cons_succ])
  | refine wp_c ?_ | refine wp_op2 ?_ | refine wp_fn ?_ | refine wp_cons ?_ | refine wp_nil ?_ | refine wp_call ?_ | refine wp_op1 ?_
  | (refine wp_var (d := ?d) ?h ?q; (case h => with_unfolding_all rfl))
  | (refine ws_aug (d := ?d) ?h ?q; (case h => with_unfolding_all rfl))
  | refine wp_tup ?_ | refine wp_lst ?_ | refine wp_lstM ?_ | refine wp_listM ?_
  | refine wp_sl0 ?_ | refine wp_sl1 ?_ | refine wp_sl2 ?_ | refine wp_sl3 ?_
  | refine wp_tval ?_ | refine wp_tnot ?_ | refine wp_tand ?_ | refine wp_tor ?_ | refine wp_tyes ?_ | refine wp_and ?_ | refine wp_or ?_ | refine wp_not ?_ | refine wp_ifx ?_ | refine wp_chain ?_ | refine wp_meth ?_ | refine wp_meth0 ?_
  | refine wp_isi ?_ | refine wp_isis ?_ | refine wp_repr ?_ | refine wp_maxD ?_ | refine wi_rng3 ?_
  | refine wp_str1 ?_ | refine ws_par ?_ | refine wp_dnew ?_ | refine wp_get2 ?_ | refine wp_reprQ ?_ | refine wp_fnK ?_ | refine wi_valsI ?_ | refine wi_itemsI ?_ | refine ws_augI ?_
  | refine wi_seq ?_ | refine wi_rng1 ?_ | refine wi_rng2 ?_ | refine wi_zip2 ?_ | refine wi_zipS ?_
  | (refine wp_fnB (ρ := ?ρ) ?he ?_; (case he => (simp only [List.map_cons, List.map_nil, List.length_cons, List.length_nil, List.replicate, List.cons_append, List.nil_append, Nat.reduceAdd, Nat.reduceSub]; rfl))))
local macro_rules | `(tactic| walk_at "w2") => `(tactic| ((with_reducible refine wo_id ?_); with_reducible first
  | refine vo_sub ?_ | refine vo_add ?_ | refine vo_lt ?_ | refine vo_le ?_ | refine vo_gt ?_ | refine vo_ge ?_ | refine vo_eq ?_ | refine vo_ne ?_ | refine vo_eqS ?_ | refine vo_neS ?_ | refine vo_eqB ?_ | refine vo_neB ?_ | refine vo_neg ?_ | refine vo_slT ?_ | refine vo_slL ?_ | refine vo_slS ?_ | refine vo_lenT ?_ | refine vo_lenL ?_ | refine vo_lenS ?_ | refine vo_revT ?_ | refine vo_revL ?_ | refine vo_min ?_ | refine vo_max ?_ | refine vo_tupL ?_ | refine vo_tupT ?_ | refine vo_lisL ?_ | refine vo_lisT ?_
  | refine vo_igAdd ?_ | refine vo_igMulR (by omega) ?_ | refine vo_igMulL (by omega) ?_ | refine vo_mod (by omega) ?_ | refine vo_div (by omega) ?_ | refine vo_mulR (by omega) ?_ | refine vo_mulL (by omega) ?_
  | refine vo_ixL0 ?_ | refine vo_ixL1 ?_ | refine vo_ixL2 ?_ | refine vo_ixL3 ?_ | refine vo_ixL4 ?_ | refine vo_ixL5 ?_ | refine vo_ixL6 ?_ | refine vo_ixT0 ?_ | refine vo_ixT1 ?_ | refine vo_ixT2 ?_ | refine vo_ixT3 ?_ | refine vo_ixT4 ?_ | refine vo_ixT5 ?_ | refine vo_ixT6 ?_
  | refine vo_starts ?_ | refine vo_isBN ?_ | refine vo_isSN ?_ | refine vo_isLN ?_ | refine vo_isDN ?_ | refine vo_slX (by first | assumption | omega) ?_ | refine vo_lenX (by first | assumption | omega) ?_ | refine vo_addS (by first | assumption | omega) ?_
  | refine vo_inT ?_ | refine vo_ninT ?_ | refine vo_inL ?_ | refine vo_ninL ?_ | refine vo_inI ?_ | refine vo_ninI ?_ | refine vo_sortI (by first | assumption | omega) ?_ | refine vo_sortL ?_ | refine vo_lenI ?_ | refine vo_lt3 ?_ | refine vo_isNN ?_ | refine vo_is3N ?_ | refine vo_isTN ?_ | refine vo_isIN ?_ | refine vo_igAddI ?_ | refine vo_ixI (by assumption) ?_
  | refine vo_vwD1 (by assumption) ?_ | refine vo_vwDc (by assumption) ?_
  | refine wo_vw1 (by assumption) ?_ | refine wo_vw2 (by assumption) ?_ | refine vo_vwc (by assumption) ?_
  | (refine vo_isi (c := ?c) ?h ?q; (case h => with_unfolding_all rfl)) | (refine vo_isis (c := ?c) ?h ?q; (case h => with_unfolding_all rfl))))
local macro_rules | `(tactic| walk_at "w3") => `(tactic| first
  | with_reducible refine nb_ff ?_ | with_reducible refine nb_tt ?_ | with_reducible refine nb_ft ?_ | with_reducible refine nb_tf ?_
  | with_reducible refine ite_f ?_ | with_reducible refine ite_nt ?_ | with_reducible refine ite_nf ?_ | with_reducible refine ite_t ?_
  | ((with_reducible refine ex_id ?_); refine ⟨_, rfl, ?_⟩) | ((with_reducible refine and_id ?_); refine ⟨Nat.le_of_ble_eq_true rfl, ?_⟩))
local macro_rules | `(tactic| walk_at "w") => `(tactic| repeat (first | walk_at "w1" | walk_at "w2" | walk_at "w3"))
def fo (rs : RT) (m : Int) (R : List Bk) : List Bk := R.map fun b => if b.num = m then ⟨b.num, none, rs, b.fil⟩ else b
def filB (R : List Bk) (m : Int) : List Int := (filOf R m).flatMap (·.2)
def bitsF (R : List Bk) (ms : List Int) : List Int := ms.flatMap (filB R)
theorem bits_mem {R : List Bk} {ms : List Int} (h : BksOk R) (hm : ∀ m ∈ ms, ∃ b ∈ R, b.num = m) (x : Int) : x ∈ bitsF R ms ↔ x ∈ bitsN R ms := by
  unfold bitsF bitsN filB
  rw [List.mem_flatMap, List.mem_flatMap]
  constructor
  · rintro ⟨m, hmm, hx⟩
    obtain ⟨b, hb, rfl⟩ := hm m hmm
    rw [filOf_at h hb, List.mem_flatMap] at hx
    obtain ⟨p, hp, hx⟩ := hx
    exact ⟨p.2, rowsN_mem.mpr ⟨b.num, hmm, p, (fb_mem h hb).mpr hp, rfl⟩, hx⟩
  · rintro ⟨ns, hns, hx⟩
    obtain ⟨m, hmm, p, hp, rfl⟩ := rowsN_mem.mp hns
    obtain ⟨b, hb, rfl⟩ := hm m hmm
    refine ⟨b.num, hmm, ?_⟩
    rw [filOf_at h hb, List.mem_flatMap]
    exact ⟨p, (fb_mem h hb).mp hp, hx⟩
theorem bits_su {R : List Bk} {ms : List Int} (h : BksOk R) (hm : ∀ m ∈ ms, ∃ b ∈ R, b.num = m) : suI (bitsN R ms) = suI (bitsF R ms) :=
  su_uniq (su_lt _) fun k => by rw [su_mem, bits_mem h hm]
end LO
set_option Elab.async false
set_option linter.all false
set_option maxRecDepth 100000
set_option maxHeartbeats 4000000
namespace C23
open DL PySem LB LM LO
local macro_rules | `(tactic| walk_at "w1") => `(tactic| with_reducible first
  | (refine ws_then ?_; try with_reducible dsimp only [List.set_cons_zero, List.set_cons_succ]) | refine ws_seq ?_ | refine ws_asg ?_ | refine ws_expr ?_ | refine ws_ret ?_ | refine ws_if ?_ | refine ws_asgT ?_ | refine ws_skip ?_ | refine ws_retN ?_ | refine ws_brk ?_ | refine ws_cont ?_ | refine ws_thenR ?_ | refine ws_thenB ?_ | refine ws_thenC ?_ | refine fq_rt ?_ | refine fq_nx ?_ | refine un_nx ?_ | refine un_ct ?_ | refine un_bk ?_ | refine un_rt ?_ | refine ws_loopN ?_
  | (refine ws_loopC (ρ1 := ?r) ?h ?q; (case h => with_unfolding_all rfl); try with_reducible dsimp only [List.set_cons_zero, List.set_cons_succ])
  | refine wp_c ?_ | refine wp_op2 ?_ | refine wp_fn ?_ | refine wp_cons ?_ | refine wp_nil ?_ | refine wp_call ?_ | refine wp_op1 ?_
  | (refine wp_var (d := ?d) ?h ?q; (case h => with_unfolding_all rfl))
  | (refine ws_aug (d := ?d) ?h ?q; (case h => with_unfolding_all rfl))
  | refine wp_tup ?_ | refine wp_lst ?_ | refine wp_lstM ?_ | refine wp_listM ?_
  | refine wp_sl0 ?_ | refine wp_sl1 ?_ | refine wp_sl2 ?_ | refine wp_sl3 ?_
  | refine wp_tval ?_ | refine wp_tnot ?_ | refine wp_tand ?_ | refine wp_tor ?_ | refine wp_tyes ?_ | refine wp_and ?_ | refine wp_or ?_ | refine wp_not ?_ | refine wp_ifx ?_ | refine wp_chain ?_ | refine wp_meth ?_ | refine wp_meth0 ?_
  | refine wp_isi ?_ | refine wp_isis ?_ | refine wp_repr ?_ | refine wp_maxD ?_ | refine wi_rng3 ?_
  | refine wp_str1 ?_ | refine ws_par ?_ | refine wp_dnew ?_ | refine wp_get2 ?_ | refine wp_reprQ ?_ | refine wp_fnK ?_ | refine wi_valsI ?_ | refine wi_itemsI ?_ | refine ws_augI ?_
  | refine wi_seq ?_ | refine wi_rng1 ?_ | refine wi_rng2 ?_ | refine wi_zip2 ?_ | refine wi_zipS ?_
  | (refine wp_fnB (ρ := ?ρ) ?he ?_; (case he => (simp only [List.map_cons, List.map_nil, List.length_cons, List.length_nil, List.replicate, List.cons_append, List.nil_append, Nat.reduceAdd, Nat.reduceSub]; rfl))))
local macro_rules | `(tactic| walk_at "w2") => `(tactic| ((with_reducible refine wo_id ?_); with_reducible first
  | refine vo_sub ?_ | refine vo_add ?_ | refine vo_lt ?_ | refine vo_le ?_ | refine vo_gt ?_ | refine vo_ge ?_ | refine vo_eq ?_ | refine vo_ne ?_ | refine vo_eqS ?_ | refine vo_neS ?_ | refine vo_eqB ?_ | refine vo_neB ?_ | refine vo_neg ?_ | refine vo_slT ?_ | refine vo_slL ?_ | refine vo_slS ?_ | refine vo_lenT ?_ | refine vo_lenL ?_ | refine vo_lenS ?_ | refine vo_revT ?_ | refine vo_revL ?_ | refine vo_min ?_ | refine vo_max ?_ | refine vo_tupL ?_ | refine vo_tupT ?_ | refine vo_lisL ?_ | refine vo_lisT ?_
  | refine vo_igAdd ?_ | refine vo_igMulR (by omega) ?_ | refine vo_igMulL (by omega) ?_ | refine vo_mod (by omega) ?_ | refine vo_div (by omega) ?_ | refine vo_mulR (by omega) ?_ | refine vo_mulL (by omega) ?_
  | refine vo_ixL0 ?_ | refine vo_ixL1 ?_ | refine vo_ixL2 ?_ | refine vo_ixL3 ?_ | refine vo_ixL4 ?_ | refine vo_ixL5 ?_ | refine vo_ixL6 ?_ | refine vo_ixT0 ?_ | refine vo_ixT1 ?_ | refine vo_ixT2 ?_ | refine vo_ixT3 ?_ | refine vo_ixT4 ?_ | refine vo_ixT5 ?_ | refine vo_ixT6 ?_
  | refine vo_starts ?_ | refine vo_isBN ?_ | refine vo_isSN ?_ | refine vo_isLN ?_ | refine vo_isDN ?_ | refine vo_slX (by first | assumption | omega) ?_ | refine vo_lenX (by first | assumption | omega) ?_ | refine vo_addS (by first | assumption | omega) ?_
  | refine vo_inT ?_ | refine vo_ninT ?_ | refine vo_inL ?_ | refine vo_ninL ?_ | refine vo_inI ?_ | refine vo_ninI ?_ | refine vo_sortI (by first | assumption | omega) ?_ | refine vo_sortL ?_ | refine vo_lenI ?_ | refine vo_lt3 ?_ | refine vo_isNN ?_ | refine vo_is3N ?_ | refine vo_isTN ?_ | refine vo_isIN ?_ | refine vo_igAddI ?_ | refine vo_ixI (by assumption) ?_
  | refine vo_vwD1 (by assumption) ?_ | refine vo_vwDc (by assumption) ?_
  | refine wo_vw1 (by assumption) ?_ | refine wo_vw2 (by assumption) ?_ | refine vo_vwc (by assumption) ?_
  | (refine vo_isi (c := ?c) ?h ?q; (case h => with_unfolding_all rfl)) | (refine vo_isis (c := ?c) ?h ?q; (case h => with_unfolding_all rfl))))
local macro_rules | `(tactic| walk_at "w3") => `(tactic| first
  | with_reducible refine nb_ff ?_ | with_reducible refine nb_tt ?_ | with_reducible refine nb_ft ?_ | with_reducible refine nb_tf ?_
  | with_reducible refine ite_f ?_ | with_reducible refine ite_nt ?_ | with_reducible refine ite_nf ?_ | with_reducible refine ite_t ?_
  | ((with_reducible refine ex_id ?_); refine ⟨_, rfl, ?_⟩) | ((with_reducible refine and_id ?_); refine ⟨Nat.le_of_ble_eq_true rfl, ?_⟩))
local macro_rules | `(tactic| walk_at "w") => `(tactic| repeat (first | walk_at "w1" | walk_at "w2" | walk_at "w3"))
theorem flats_ints : ∀ xs : List Int, flats (xs.map .int) = true
  | [] => rfl
  | x :: xs => by
    show (flat (.int x) && flats (xs.map .int)) = true
    rw [flats_ints xs]
    rfl
theorem wp_needed {S : Sto} {R : List Bk} {ms : List Int} {d : D} {Q : D → Sto → Prop} {E : Px} (h : BksOk R) (hl : R.length ≤ 20) (hm : ∀ m ∈ ms, ∃ b ∈ R, b.num = m) (hml : ms.length ≤ 9) (hd : frz S d = .lst (ms.map .int))
    (q : Q (.tup [.ref S.length, .ref (S.length + 1)]) (S ++ [some (.lst ((suI (ms.flatMap (chN R))).map .int)), some (.lst ((suI (bitsF R ms)).map .int))])) : Wp (d_needed [booksD R, d] S) Q E := by
  refine wp_fnN (ds' := [booksD R, .lst (ms.map .int)]) (by rw [List.map_cons, List.map_cons, List.map_nil, hd] <;> rfl) (by simp only [noRefs, nr_books, nr_ints, Bool.and_true]) ?_
  show Wp (LO.d_needed [booksD R, .lst (ms.map .int)] []) _ _
  refine LO.wp_needed h hl hm hml ?_
  rw [bits_su h hm]
  refine ⟨?_, q⟩
  have h1 := flats_ints (suI (ms.flatMap (chN R)))
  have h2 := flats_ints (suI (bitsF R ms))
  show (true && (flats _ && (flats _ && true))) = true
  rw [h1, h2]
  rfl
theorem one_mem {R : List Bk} {b : Bk} (hb : b ∈ R) : ∀ m ∈ [b.num], ∃ c ∈ R, c.num = m := fun m hm => ⟨b, hb, by rw [List.mem_singleton.mp hm]⟩
theorem bitsF_len {R : List Bk} {ms : List Int} (h : BksOk R) (hm : ∀ m ∈ ms, ∃ b ∈ R, b.num = m) (hml : ms.length ≤ 9) : (bitsF R ms).length ≤ 1440 := by
  have h2 : (bitsF R ms).length ≤ ms.length * 160 := flat_le _ _ _ fun m hx => by
    obtain ⟨b, hb, rfl⟩ := hm m hx
    have hf := (bks_fil h b hb).1
    unfold filB
    rw [filOf_at h hb]
    have h3 : (b.fil.flatMap (·.2)).length ≤ b.fil.length * 20 := flat_le _ _ _ fun p hp => (hf.ok p hp).2.len
    have := hf.len
    omega
  have := Nat.mul_le_mul_right 160 hml
  omega
theorem chF_len {R : List Bk} {ms : List Int} (hl : R.length ≤ 20) (hml : ms.length ≤ 9) : (ms.flatMap (chN R)).length ≤ 180 := by
  have := flat_le ms (chN R) 20 fun m _ => by unfold chN; rw [List.length_map]; have := chain_len R m; omega
  have h3 := Nat.mul_le_mul_right 20 hml
  omega
theorem bitm {R : List Bk} {ms : List Int} (hR : BksOk R) (hm : ∀ m ∈ ms, ∃ b ∈ R, b.num = m) : ∀ x, x ∈ bitsF R ms ↔ ∃ m ∈ ms, ∃ p ∈ fb R m, x ∈ p.2 := fun x => by
  rw [bits_mem hR hm]
  unfold bitsN
  rw [List.mem_flatMap]
  constructor
  · rintro ⟨l, hl, hx⟩
    obtain ⟨m, h1, p, h2, rfl⟩ := rowsN_mem.mp hl
    exact ⟨m, h1, p, h2, hx⟩
  · rintro ⟨m, h1, p, h2, hx⟩
    exact ⟨p.2, rowsN_mem.mpr ⟨m, h1, p, h2, rfl⟩, hx⟩
theorem wp_bpieces {S : Sto} {R : List Bk} {b : Bk} {Q : D → Sto → Prop} {E : Px} (h : BksOk R) (hl : R.length ≤ 20) (hb : b ∈ R) (q : Q (.lst ((suI (bitsF R [b.num])).map .int)) S) : Wp (d_bpieces [booksD R, .int b.num] S) Q E := by
  have hnm := bks_fil h b hb
  refine wp_fnP (by simp only [noRefs, nr_books, Bool.and_true]; rfl) ?_
  unfold b_bpieces
  walk_at "w"
  unfold l_bpieces_1
  refine ws_for [2, 3] ?_
  refine wi_valsT numD ?_
  walk_at "w"
  refine wp_files_by h hl hb ?_
  refine ⟨_, rfl, ?_⟩
  have fl : ∀ p ∈ fb R b.num, p.2.length ≤ 20 := fun p hp => (hnm.1.ok p ((fb_mem h hb).mp hp)).2.len
  have f8 := fb_len h hb
  refine ⟨fun j vs S' => ∃ e3 : Option D, vs = [some (.lst ((((fb R b.num).take j).flatMap (·.2)).map .int)), e3], [some (.lst []), none], rfl, rfl, ⟨none, by simp⟩, ?_, ?_⟩
  · rintro j d vs S1 hj hv ⟨e3, rfl⟩
    rw [List.getElem?_map] at hj
    obtain ⟨p, hpj, rfl⟩ := Option.map_eq_some_iff.mp hj
    have hpm := List.mem_of_getElem? hpj
    have hpo := fl p hpm
    have hfl : (((fb R b.num).take j).flatMap (·.2)).length ≤ ((fb R b.num).take j).length * 20 := flat_le _ _ _ fun x hx => fl x (List.mem_of_mem_take hx)
    have hft : ((fb R b.num).take j).length ≤ 8 := by rw [List.length_take]; omega
    refine ⟨_, rfl, ?_⟩
    unfold lb_bpieces_1
    dsimp only [putAll, List.set_cons_zero, List.set_cons_succ]
    walk_at "w"
    refine .of (d := .lst (p.2.map .int)) rfl ?_
    walk_at "w"
    refine vo_addL (by rw [List.length_map, List.length_map]; omega) ?_
    rw [← List.map_append, show (((fb R b.num).take j).flatMap (·.2)) ++ p.2 = ((fb R b.num).take (j + 1)).flatMap (·.2) by rw [List.take_add_one, hpj, List.flatMap_append]; simp]
    walk_at "w"
    exact ⟨[_, _], rfl, rfl, _, rfl⟩
  · rintro vs S1 hv ⟨e3, rfl⟩
    rw [List.length_map, List.take_length]
    have hfl : (((fb R b.num)).flatMap (·.2)).length ≤ ((fb R b.num)).length * 20 := flat_le _ _ _ fun x hx => fl x hx
    walk_at "w"
    refine wp_sortSetB ?_
    walk_at "w"
    refine ⟨_, .inl rfl, by omega, ?_⟩
    have e : suI ((fb R b.num).flatMap (·.2)) = suI (bitsF R [b.num]) := su_uniq (su_lt _) fun k => by
      rw [su_mem, bitm h (one_mem hb), List.mem_flatMap]
      constructor
      · rintro ⟨p, hp, hk⟩; exact ⟨b.num, by simp, p, hp, hk⟩
      · rintro ⟨m, hmm, p, hp, hk⟩
        rw [List.mem_singleton.mp hmm] at hp
        exact ⟨p, hp, hk⟩
    rw [e]
    walk_at "w"
    exact ⟨nr_ints _, q⟩
end C23
set_option Elab.async false
set_option linter.all false
set_option maxRecDepth 100000
set_option maxHeartbeats 4000000
namespace C23
open DL PySem LB LM LO
local macro_rules | `(tactic| walk_at "w1") => `(tactic| with_reducible first
  | (refine ws_then ?_; try with_reducible dsimp only [List.set_cons_zero, List.set_cons_succ]) | refine ws_seq ?_ | refine ws_asg ?_ | refine ws_expr ?_ | refine ws_ret ?_ | refine ws_if ?_ | refine ws_asgT ?_ | refine ws_skip ?_ | refine ws_retN ?_ | refine ws_brk ?_ | refine ws_cont ?_ | refine ws_thenR ?_ | refine ws_thenB ?_ | refine ws_thenC ?_ | refine fq_rt ?_ | refine fq_nx ?_ | refine un_nx ?_ | refine un_ct ?_ | refine un_bk ?_ | refine un_rt ?_ | refine ws_loopN ?_
  | (refine ws_loopC (ρ1 := ?r) ?h ?q; (case h => with_unfolding_all rfl); try with_reducible dsimp only [List.set_cons_zero, List.set_cons_succ])
  | refine wp_c ?_ | refine wp_op2 ?_ | refine wp_fn ?_ | refine wp_cons ?_ | refine wp_nil ?_ | refine wp_call ?_ | refine wp_op1 ?_
  | (refine wp_var (d := ?d) ?h ?q; (case h => with_unfolding_all rfl))
  | (refine ws_aug (d := ?d) ?h ?q; (case h => with_unfolding_all rfl))
  | refine wp_tup ?_ | refine wp_lst ?_ | refine wp_lstM ?_ | refine wp_listM ?_
  | refine wp_sl0 ?_ | refine wp_sl1 ?_ | refine wp_sl2 ?_ | refine wp_sl3 ?_
  | refine wp_tval ?_ | refine wp_tnot ?_ | refine wp_tand ?_ | refine wp_tor ?_ | refine wp_tyes ?_ | refine wp_and ?_ | refine wp_or ?_ | refine wp_not ?_ | refine wp_ifx ?_ | refine wp_chain ?_ | refine wp_meth ?_ | refine wp_meth0 ?_
  | refine wp_isi ?_ | refine wp_isis ?_ | refine wp_repr ?_ | refine wp_maxD ?_ | refine wi_rng3 ?_
  | refine wp_str1 ?_ | refine ws_par ?_ | refine wp_dnew ?_ | refine wp_get2 ?_ | refine wp_reprQ ?_ | refine wp_fnK ?_ | refine wi_valsI ?_ | refine wi_itemsI ?_ | refine ws_augI ?_
  | refine wi_seq ?_ | refine wi_rng1 ?_ | refine wi_rng2 ?_ | refine wi_zip2 ?_ | refine wi_zipS ?_
  | (refine wp_fnB (ρ := ?ρ) ?he ?_; (case he => (simp only [List.map_cons, List.map_nil, List.length_cons, List.length_nil, List.replicate, List.cons_append, List.nil_append, Nat.reduceAdd, Nat.reduceSub]; rfl))))
local macro_rules | `(tactic| walk_at "w2") => `(tactic| ((with_reducible refine wo_id ?_); with_reducible first
  | refine vo_sub ?_ | refine vo_add ?_ | refine vo_lt ?_ | refine vo_le ?_ | refine vo_gt ?_ | refine vo_ge ?_ | refine vo_eq ?_ | refine vo_ne ?_ | refine vo_eqS ?_ | refine vo_neS ?_ | refine vo_eqB ?_ | refine vo_neB ?_ | refine vo_neg ?_ | refine vo_slT ?_ | refine vo_slL ?_ | refine vo_slS ?_ | refine vo_lenT ?_ | refine vo_lenL ?_ | refine vo_lenS ?_ | refine vo_revT ?_ | refine vo_revL ?_ | refine vo_min ?_ | refine vo_max ?_ | refine vo_tupL ?_ | refine vo_tupT ?_ | refine vo_lisL ?_ | refine vo_lisT ?_
  | refine vo_igAdd ?_ | refine vo_igMulR (by omega) ?_ | refine vo_igMulL (by omega) ?_ | refine vo_mod (by omega) ?_ | refine vo_div (by omega) ?_ | refine vo_mulR (by omega) ?_ | refine vo_mulL (by omega) ?_
  | refine vo_ixL0 ?_ | refine vo_ixL1 ?_ | refine vo_ixL2 ?_ | refine vo_ixL3 ?_ | refine vo_ixL4 ?_ | refine vo_ixL5 ?_ | refine vo_ixL6 ?_ | refine vo_ixT0 ?_ | refine vo_ixT1 ?_ | refine vo_ixT2 ?_ | refine vo_ixT3 ?_ | refine vo_ixT4 ?_ | refine vo_ixT5 ?_ | refine vo_ixT6 ?_
  | refine vo_starts ?_ | refine vo_isBN ?_ | refine vo_isSN ?_ | refine vo_isLN ?_ | refine vo_isDN ?_ | refine vo_slX (by first | assumption | omega) ?_ | refine vo_lenX (by first | assumption | omega) ?_ | refine vo_addS (by first | assumption | omega) ?_
  | refine vo_inT ?_ | refine vo_ninT ?_ | refine vo_inL ?_ | refine vo_ninL ?_ | refine vo_inI ?_ | refine vo_ninI ?_ | refine vo_sortI (by first | assumption | omega) ?_ | refine vo_sortL ?_ | refine vo_lenI ?_ | refine vo_lt3 ?_ | refine vo_isNN ?_ | refine vo_is3N ?_ | refine vo_isTN ?_ | refine vo_isIN ?_ | refine vo_igAddI ?_ | refine vo_ixI (by assumption) ?_
  | refine vo_vwD1 (by assumption) ?_ | refine vo_vwDc (by assumption) ?_
  | refine wo_vw1 (by assumption) ?_ | refine wo_vw2 (by assumption) ?_ | refine vo_vwc (by assumption) ?_
  | (refine vo_isi (c := ?c) ?h ?q; (case h => with_unfolding_all rfl)) | (refine vo_isis (c := ?c) ?h ?q; (case h => with_unfolding_all rfl))))
local macro_rules | `(tactic| walk_at "w3") => `(tactic| first
  | with_reducible refine nb_ff ?_ | with_reducible refine nb_tt ?_ | with_reducible refine nb_ft ?_ | with_reducible refine nb_tf ?_
  | with_reducible refine ite_f ?_ | with_reducible refine ite_nt ?_ | with_reducible refine ite_nf ?_ | with_reducible refine ite_t ?_
  | ((with_reducible refine ex_id ?_); refine ⟨_, rfl, ?_⟩) | ((with_reducible refine and_id ?_); refine ⟨Nat.le_of_ble_eq_true rfl, ?_⟩))
local macro_rules | `(tactic| walk_at "w") => `(tactic| repeat (first | walk_at "w1" | walk_at "w2" | walk_at "w3"))
theorem dkl_A {α : Type} (g : α → D) (l : List (Int × α)) : dkl (dA g l) = some ((l.map (·.1)).map D.int) := by rw [← keys_A l (f := g)]; rfl
theorem chN_head {R : List Bk} (h : BksOk R) {b : Bk} (hb : b ∈ R) : ∃ l, chN R b.num = b.num :: l := ⟨_, chN_at h hb⟩
def heldF (R : List Bk) (ms : List Int) : List Int := suI (ms.flatMap (chN R))
def pcsF (R : List Bk) (ms : List Int) : List Int := suI (bitsF R ms)
theorem wp_bclosed {S : Sto} {R : List Bk} {ms : List Int} {d : D} {Q : D → Sto → Prop} {E : Px} (h : BksOk R) (hl : R.length ≤ 20) (hm : ∀ m ∈ ms, ∃ b ∈ R, b.num = m) (hml : ms.length ≤ 9) (hd : frz S d = .lst (ms.map .int))
    (q : Q (.bl true) S) : Wp (d_bclosed [booksD R, d, .tup [.lst ((heldF R ms).map .int), .lst ((pcsF R ms).map .int)]] S) Q E := by
  have heldm : ∀ x, x ∈ heldF R ms ↔ ∃ m ∈ ms, x ∈ chN R m := fun x => by unfold heldF; rw [su_mem, List.mem_flatMap]
  have bitsm : ∀ x, x ∈ pcsF R ms ↔ ∃ m ∈ ms, ∃ p ∈ fb R m, x ∈ p.2 := fun x => by unfold pcsF; rw [su_mem, bitm h hm]
  refine wp_fnV (ds' := [booksD R, .lst (ms.map .int), .tup [.lst ((heldF R ms).map .int), .lst ((pcsF R ms).map .int)]]) (by rw [List.map_cons, List.map_cons, List.map_cons, List.map_nil, hd] <;> rfl) (by
    have h1 := nr_ints (heldF R ms)
    have h2 := nr_ints (pcsF R ms)
    have h3 := nr_ints ms
    simp only [noRef, noRefs, nr_books, Bool.and_true] at h1 h2 h3 ⊢
    rw [h1, h2, h3]
    rfl) ?_
  unfold b_bclosed
  walk_at "w"
  unfold l_bclosed_1
  refine ws_midT (fun fl S' => ∃ e5 e6 : Option D, fl = .nx [some (booksD R), some (.lst (ms.map .int)), some (.tup [.lst ((heldF R ms).map .int), .lst ((pcsF R ms).map .int)]), some (.lst ((heldF R ms).map .int)), some (.lst ((pcsF R ms).map .int)), e5, e6, none, none, none]) ?_ ?_
  · refine ws_for [5, 6] ?_
    walk_at "w"
    refine ⟨_, Or.inr (dkl_A bookD (bookL R)), ?_⟩
    refine ⟨fun j vs S' => ∃ e5 e6 : Option D, vs = [e5, e6], [none, none], rfl, rfl, ⟨none, none, rfl⟩, ?_, ?_⟩
    · rintro j d vs S1 hj hv ⟨e5, e6, rfl⟩
      rw [List.getElem?_map] at hj
      obtain ⟨x, hxj, rfl⟩ := Option.map_eq_some_iff.mp hj
      have hx := List.mem_of_getElem? hxj
      rw [bookL_keys] at hx
      obtain ⟨b, hb, rfl⟩ := numL_mem.mp hx
      refine ⟨_, rfl, ?_⟩
      unfold lb_bclosed_1
      dsimp only [putAll, List.set_cons_zero, List.set_cons_succ]
      walk_at "w"
      refine wp_book_way h hl hm (fun hno => ?_) (fun m hmm i hi => ?_)
      · walk_at "w"
        unfold i_bclosed_1
        walk_at "w"
        refine .of (d := .bl false) rfl ?_
        walk_at "w"
        rw [decide_eq_false (fun z => by obtain ⟨m, h1, h2⟩ := (heldm b.num).mp z; exact hno m h1 h2)]
        walk_at "w"
        unfold i_bclosed_2
        walk_at "w"
        refine .of (d := .bl false) rfl ?_
        walk_at "w"
        unfold i_bclosed_3
        walk_at "w"
        refine .of (d := .bl false) rfl ?_
        walk_at "w"
        exact ⟨[_, _], rfl, rfl, _, _, rfl⟩
      · obtain ⟨c, hc, rfl⟩ := hm m hmm
        obtain ⟨l, el⟩ := chN_head h hc
        have inh : ∀ y ∈ chN R c.num, y ∈ heldF R ms := fun y hy => (heldm y).mpr ⟨_, hmm, hy⟩
        have hcl : (chN R c.num).length ≤ 20 := by unfold chN; rw [List.length_map]; have := chain_len R c.num; omega
        walk_at "w"
        unfold i_bclosed_1
        walk_at "w"
        refine .of (d := .bl true) rfl ?_
        walk_at "w"
        rw [decide_eq_true ((heldm b.num).mpr ⟨_, hmm, List.mem_of_getElem? hi⟩)]
        walk_at "w"
        unfold i_bclosed_2
        walk_at "w"
        refine .of (d := .bl true) rfl ?_
        walk_at "w"
        have el2 : (chN R c.num).take (i + 1) = c.num :: l.take i := by rw [el] <;> rfl
        rw [el2, List.map_cons]
        refine vo_ixL0 ?_
        walk_at "w"
        rw [decide_eq_true hmm]
        walk_at "w"
        unfold i_bclosed_3
        walk_at "w"
        refine .of (d := .bl true) rfl ?_
        walk_at "w"
        unfold c_bclosed_1
        refine wp_comp_map (c.num :: l.take i) D.int (fun y => !decide (y ∈ heldF R ms)) D.int (by rw [← el2, List.length_take]; omega) ?_
        walk_at "w"
        refine ⟨_, Or.inr rfl, rfl, fun y hy => ⟨_, rfl, ?_, fun _ => ?_⟩, ?_⟩
        · unfold ct_bclosed_1
          walk_at "w"
          exact ⟨rfl, rfl⟩
        · unfold ce_bclosed_1
          walk_at "w"
          exact ⟨rfl, rfl⟩
        rw [List.filter_eq_nil_iff.mpr (fun y hy => by rw [← el2] at hy; simp [inh y (List.mem_of_mem_take hy)])]
        walk_at "w"
        refine .of (d := .bl false) rfl ?_
        walk_at "w"
        exact ⟨[_, _], rfl, rfl, _, _, rfl⟩
    · rintro vs S1 hv ⟨e5, e6, rfl⟩
      exact ⟨e5, e6, rfl⟩
  rintro fl S1 ⟨e5, e6, rfl⟩
  walk_at "w"
  unfold l_bclosed_2
  refine ws_midT (fun fl S' => ∃ e5 : Option D, fl = .nx [some (booksD R), some (.lst (ms.map .int)), some (.tup [.lst ((heldF R ms).map .int), .lst ((pcsF R ms).map .int)]), some (.lst ((heldF R ms).map .int)), some (.lst ((pcsF R ms).map .int)), e5, e6, none, none, none]) ?_ ?_
  · refine ws_for [5] ?_
    walk_at "w"
    refine ⟨_, Or.inr rfl, ?_⟩
    refine ⟨fun j vs S' => ∃ e5 : Option D, vs = [e5], [e5], rfl, rfl, ⟨e5, rfl⟩, ?_, ?_⟩
    · rintro j d vs S1 hj hv ⟨f5, rfl⟩
      rw [List.getElem?_map] at hj
      obtain ⟨x, hxj, rfl⟩ := Option.map_eq_some_iff.mp hj
      have hxm := List.mem_of_getElem? hxj
      obtain ⟨c, hc, rfl⟩ := hm x hxm
      have inh : ∀ y ∈ chN R c.num, y ∈ heldF R ms := fun y hy => (heldm y).mpr ⟨_, hxm, hy⟩
      have hcl : (chN R c.num).length ≤ 20 := by unfold chN; rw [List.length_map]; have := chain_len R c.num; omega
      have inp : ∀ y ∈ pcsF R [c.num], y ∈ pcsF R ms := fun y hy => by
        unfold pcsF at hy
        rw [su_mem, bitm h (one_mem hc)] at hy
        obtain ⟨m, h1, p, h2, h3⟩ := hy
        rw [List.mem_singleton.mp h1] at h2
        exact (bitsm y).mpr ⟨_, hxm, p, h2, h3⟩
      have hpl : (pcsF R [c.num]).length ≤ 1440 := Nat.le_trans (su_len _) (bitsF_len h (one_mem hc) (by simp))
      refine ⟨_, rfl, ?_⟩
      unfold lb_bclosed_2 i_bclosed_4
      dsimp only [putAll, List.set_cons_zero, List.set_cons_succ]
      walk_at "w"
      unfold c_bclosed_2
      refine wp_comp_map (chN R c.num) D.int (fun y => !decide (y ∈ heldF R ms)) D.int (by omega) ?_
      walk_at "w"
      refine wp_chain_of h hl hc ?_
      refine ⟨_, Or.inr rfl, rfl, fun y hy => ⟨_, rfl, ?_, fun _ => ?_⟩, ?_⟩
      · unfold ct_bclosed_2
        walk_at "w"
        exact ⟨rfl, rfl⟩
      · unfold ce_bclosed_2
        walk_at "w"
        exact ⟨rfl, rfl⟩
      rw [List.filter_eq_nil_iff.mpr (fun y hy => by simp [inh y hy])]
      walk_at "w"
      refine .of (d := .bl false) rfl ?_
      walk_at "w"
      unfold i_bclosed_5
      walk_at "w"
      unfold c_bclosed_3
      refine wp_comp_map (pcsF R [c.num]) D.int (fun y => !decide (y ∈ pcsF R ms)) D.int (by omega) ?_
      walk_at "w"
      refine wp_bpieces h hl hc ?_
      refine ⟨_, Or.inr rfl, rfl, fun y hy => ⟨_, rfl, ?_, fun _ => ?_⟩, ?_⟩
      · unfold ct_bclosed_3
        walk_at "w"
        exact ⟨rfl, rfl⟩
      · unfold ce_bclosed_3
        walk_at "w"
        exact ⟨rfl, rfl⟩
      rw [List.filter_eq_nil_iff.mpr (fun y hy => by simp [inp y hy])]
      walk_at "w"
      refine .of (d := .bl false) rfl ?_
      walk_at "w"
      exact ⟨[_], rfl, rfl, _, rfl⟩
    · rintro vs S1 hv ⟨f5, rfl⟩
      exact ⟨f5, rfl⟩
  rintro fl S1 ⟨f5, rfl⟩
  walk_at "w"
  unfold l_bclosed_3
  refine ws_midT (fun fl S' => ∃ e7 e8 : Option D, fl = .nx [some (booksD R), some (.lst (ms.map .int)), some (.tup [.lst ((heldF R ms).map .int), .lst ((pcsF R ms).map .int)]), some (.lst ((heldF R ms).map .int)), some (.lst ((pcsF R ms).map .int)), f5, e6, e7, e8, none]) ?_ ?_
  · refine ws_for [7, 8] ?_
    walk_at "w"
    rw [cut_map, cutL_take _ _ (by omega)]
    refine ⟨_, Or.inr rfl, ?_⟩
    refine ⟨fun j vs S' => ∃ e7 e8 : Option D, vs = [e7, e8], [none, none], rfl, rfl, ⟨none, none, rfl⟩, ?_, ?_⟩
    · rintro j d vs S1 hj hv ⟨f7, f8, rfl⟩
      rw [List.getElem?_map] at hj
      obtain ⟨x, hxj, rfl⟩ := Option.map_eq_some_iff.mp hj
      have hxm := (bitsm x).mp (List.mem_of_mem_take (List.mem_of_getElem? hxj))
      refine ⟨_, rfl, ?_⟩
      unfold lb_bclosed_3
      dsimp only [putAll, List.set_cons_zero, List.set_cons_succ]
      walk_at "w"
      refine wp_piece_way h hl hm (fun hno => ?_) (fun m hmm p hp hx => ?_)
      · obtain ⟨m, h1, p, h2, h3⟩ := hxm
        exact absurd h3 (hno m h1 p h2)
      · obtain ⟨c, hc, rfl⟩ := hm m hmm
        have gp := mem_getT (fb_get h c hc).2 (k := p.1) (v := p.2) hp
        walk_at "w"
        unfold i_bclosed_6
        walk_at "w"
        rw [decide_eq_true hmm]
        walk_at "w"
        refine wp_files_by h hl hc ?_
        walk_at "w"
        refine vo_ixTb gp ?_
        walk_at "w"
        rw [decide_eq_true hx]
        walk_at "w"
        exact ⟨[_, _], rfl, rfl, _, _, rfl⟩
    · rintro vs S1 hv ⟨f7, f8, rfl⟩
      exact ⟨f7, f8, rfl⟩
  rintro fl S1 ⟨f7, f8, rfl⟩
  walk_at "w"
  refine .of (powD_k (by decide) (by decide) (by decide)) ?_
  walk_at "w"
  refine wp_piece_way h hl hm (fun hno => ?_) (fun m hmm p hp hx => ?_)
  · walk_at "w"
    exact ⟨rfl, q⟩
  · obtain ⟨c, hc, rfl⟩ := hm m hmm
    have := ((bks_fil h c hc).1.ok p ((fb_mem h hc).mp hp)).2.ok _ hx
    have e : (10 : Int) ^ (9 : Int).toNat = 1000000000 := by decide
    rw [e] at this
    omega
end C23
set_option Elab.async false
set_option linter.all false
set_option maxRecDepth 100000
set_option maxHeartbeats 4000000
namespace C23
open DL PySem LB LM LO
local macro_rules | `(tactic| walk_at "w1") => `(tactic| with_reducible first
  | (refine ws_then ?_; try with_reducible dsimp only [List.set_cons_zero, List.set_cons_succ]) | refine ws_seq ?_ | refine ws_asg ?_ | refine ws_expr ?_ | refine ws_ret ?_ | refine ws_if ?_ | refine ws_asgT ?_ | refine ws_skip ?_ | refine ws_retN ?_ | refine ws_brk ?_ | refine ws_cont ?_ | refine ws_thenR ?_ | refine ws_thenB ?_ | refine ws_thenC ?_ | refine fq_rt ?_ | refine fq_nx ?_ | refine un_nx ?_ | refine un_ct ?_ | refine un_bk ?_ | refine un_rt ?_ | refine ws_loopN ?_
  | (refine ws_loopC (ρ1 := ?r) ?h ?q; (case h => with_unfolding_all rfl); try with_reducible dsimp only [List.set_cons_zero, List.set_cons_succ])
  | refine wp_c ?_ | refine wp_op2 ?_ | refine wp_fn ?_ | refine wp_cons ?_ | refine wp_nil ?_ | refine wp_call ?_ | refine wp_op1 ?_
  | (refine wp_var (d := ?d) ?h ?q; (case h => with_unfolding_all rfl))
  | (refine ws_aug (d := ?d) ?h ?q; (case h => with_unfolding_all rfl))
  | refine wp_tup ?_ | refine wp_lst ?_ | refine wp_lstM ?_ | refine wp_listM ?_
  | refine wp_sl0 ?_ | refine wp_sl1 ?_ | refine wp_sl2 ?_ | refine wp_sl3 ?_
  | refine wp_tval ?_ | refine wp_tnot ?_ | refine wp_tand ?_ | refine wp_tor ?_ | refine wp_tyes ?_ | refine wp_and ?_ | refine wp_or ?_ | refine wp_not ?_ | refine wp_ifx ?_ | refine wp_chain ?_ | refine wp_meth ?_ | refine wp_meth0 ?_
  | refine wp_isi ?_ | refine wp_isis ?_ | refine wp_repr ?_ | refine wp_maxD ?_ | refine wi_rng3 ?_
  | refine wp_str1 ?_ | refine ws_par ?_ | refine wp_dnew ?_ | refine wp_get2 ?_ | refine wp_reprQ ?_ | refine wp_fnK ?_ | refine wi_valsI ?_ | refine wi_itemsI ?_ | refine ws_augI ?_
  | refine wi_seq ?_ | refine wi_rng1 ?_ | refine wi_rng2 ?_ | refine wi_zip2 ?_ | refine wi_zipS ?_
  | (refine wp_fnB (ρ := ?ρ) ?he ?_; (case he => (simp only [List.map_cons, List.map_nil, List.length_cons, List.length_nil, List.replicate, List.cons_append, List.nil_append, Nat.reduceAdd, Nat.reduceSub]; rfl))))
local macro_rules | `(tactic| walk_at "w2") => `(tactic| ((with_reducible refine wo_id ?_); with_reducible first
  | refine vo_sub ?_ | refine vo_add ?_ | refine vo_lt ?_ | refine vo_le ?_ | refine vo_gt ?_ | refine vo_ge ?_ | refine vo_eq ?_ | refine vo_ne ?_ | refine vo_eqS ?_ | refine vo_neS ?_ | refine vo_eqB ?_ | refine vo_neB ?_ | refine vo_neg ?_ | refine vo_slT ?_ | refine vo_slL ?_ | refine vo_slS ?_ | refine vo_lenT ?_ | refine vo_lenL ?_ | refine vo_lenS ?_ | refine vo_revT ?_ | refine vo_revL ?_ | refine vo_min ?_ | refine vo_max ?_ | refine vo_tupL ?_ | refine vo_tupT ?_ | refine vo_lisL ?_ | refine vo_lisT ?_
  | refine vo_igAdd ?_ | refine vo_igMulR (by omega) ?_ | refine vo_igMulL (by omega) ?_ | refine vo_mod (by omega) ?_ | refine vo_div (by omega) ?_ | refine vo_mulR (by omega) ?_ | refine vo_mulL (by omega) ?_
  | refine vo_ixL0 ?_ | refine vo_ixL1 ?_ | refine vo_ixL2 ?_ | refine vo_ixL3 ?_ | refine vo_ixL4 ?_ | refine vo_ixL5 ?_ | refine vo_ixL6 ?_ | refine vo_ixT0 ?_ | refine vo_ixT1 ?_ | refine vo_ixT2 ?_ | refine vo_ixT3 ?_ | refine vo_ixT4 ?_ | refine vo_ixT5 ?_ | refine vo_ixT6 ?_
  | refine vo_starts ?_ | refine vo_isBN ?_ | refine vo_isSN ?_ | refine vo_isLN ?_ | refine vo_isDN ?_ | refine vo_slX (by first | assumption | omega) ?_ | refine vo_lenX (by first | assumption | omega) ?_ | refine vo_addS (by first | assumption | omega) ?_
  | refine vo_inT ?_ | refine vo_ninT ?_ | refine vo_inL ?_ | refine vo_ninL ?_ | refine vo_inI ?_ | refine vo_ninI ?_ | refine vo_sortI (by first | assumption | omega) ?_ | refine vo_sortL ?_ | refine vo_lenI ?_ | refine vo_lt3 ?_ | refine vo_isNN ?_ | refine vo_is3N ?_ | refine vo_isTN ?_ | refine vo_isIN ?_ | refine vo_igAddI ?_ | refine vo_ixI (by assumption) ?_
  | refine vo_vwD1 (by assumption) ?_ | refine vo_vwDc (by assumption) ?_
  | refine wo_vw1 (by assumption) ?_ | refine wo_vw2 (by assumption) ?_ | refine vo_vwc (by assumption) ?_
  | (refine vo_isi (c := ?c) ?h ?q; (case h => with_unfolding_all rfl)) | (refine vo_isis (c := ?c) ?h ?q; (case h => with_unfolding_all rfl))))
local macro_rules | `(tactic| walk_at "w3") => `(tactic| first
  | with_reducible refine nb_ff ?_ | with_reducible refine nb_tt ?_ | with_reducible refine nb_ft ?_ | with_reducible refine nb_tf ?_
  | with_reducible refine ite_f ?_ | with_reducible refine ite_nt ?_ | with_reducible refine ite_nf ?_ | with_reducible refine ite_t ?_
  | ((with_reducible refine ex_id ?_); refine ⟨_, rfl, ?_⟩) | ((with_reducible refine and_id ?_); refine ⟨Nat.le_of_ble_eq_true rfl, ?_⟩))
local macro_rules | `(tactic| walk_at "w") => `(tactic| repeat (first | walk_at "w1" | walk_at "w2" | walk_at "w3"))
theorem chN_nd {R : List Bk} (h : BksOk R) : ∀ n, (chN R n).Nodup := by
  induction h with
  | nil => intro n; simp [chN, chain]
  | @cons b R h hlt hn hf hr hs hp ih =>
    intro n
    unfold chN chain
    split
    · cases b.par with
      | none => simp
      | some p =>
        rw [List.map_cons]
        refine List.nodup_cons.mpr ⟨fun z => ?_, ih p⟩
        obtain ⟨c, hc, e⟩ := List.mem_map.mp z
        have := hlt c (chain_mem hc)
        omega
    · exact ih n
theorem isI_ch {R : List Bk} (h : BksOk R) (n : Int) : isI (chN R n) = suI (chN R n) :=
  su_uniq (by
    have h1 := isI_pw (chN R n)
    have h2 : (isI (chN R n)).Nodup := (isI_perm _).nodup_iff.mpr (chN_nd h n)
    exact h1.imp₂ (fun a b hle hne => by omega) h2) fun k => (isI_perm _).mem_iff
theorem fzL0 : ∀ (xs : List D) (S : Sto), fzL (fzD 0) xs S = (xs, S)
  | [], S => rfl
  | x :: xs, S => by
    show (x :: (fzL (fzD 0) xs S).1, (fzL (fzD 0) xs S).2) = _
    rw [fzL0 xs S]
theorem fzL0' (xs : List D) (S : Sto) : fzL (fun x y => (x, y)) xs S = (xs, S) := fzL0 xs S
theorem fz2 {S : Sto} {a b : Nat} {xs ys : List D} (ha : S[a]? = some (some (.lst xs))) (hb : S[b]? = some (some (.lst ys))) (ne : a ≠ b) :
    fzD 2 (.tup [.ref a, .ref b]) S = (.tup [.lst xs, .lst ys], (S.set a none).set b none) := by
  have e1 : fzD 1 (.ref a) S = (.lst xs, S.set a none) := by simp only [fzD, ha, fzL0']
  have hb' : (S.set a none)[b]? = some (some (.lst ys)) := by rw [List.getElem?_set_ne ne]; exact hb
  have e2 : fzD 1 (.ref b) (S.set a none) = (.lst ys, (S.set a none).set b none) := by simp only [fzD, hb', fzL0']
  show (D.tup ((fzD 1 (.ref a) S).1 :: (fzD 1 (.ref b) (fzD 1 (.ref a) S).2).1 :: []), (fzD 1 (.ref b) (fzD 1 (.ref a) S).2).2) = _
  rw [e1]
  dsimp only
  rw [e2]
/-- what one more moment adds -/
theorem held_more (R : List Bk) (ms : List Int) (x : Int) : heldF R (ms ++ [x]) = suI (heldF R ms ++ heldF R [x]) := by
  refine su_uniq (su_lt _) fun k => ?_
  unfold heldF
  rw [su_mem, List.mem_append, su_mem, su_mem, List.flatMap_append, List.mem_append]
theorem pcs_more (R : List Bk) (ms : List Int) (x : Int) : pcsF R (ms ++ [x]) = suI (pcsF R ms ++ pcsF R [x]) := by
  refine su_uniq (su_lt _) fun k => ?_
  unfold pcsF
  rw [su_mem, List.mem_append, su_mem, su_mem]
  unfold bitsF
  rw [List.flatMap_append, List.mem_append]
def toldD (R : List Bk) (ms : List Int) : D := .tup [.lst ((heldF R ms).map .int), .lst ((pcsF R ms).map .int)]
theorem len_held {R : List Bk} {ms : List Int} (hl : R.length ≤ 20) (hml : ms.length ≤ 9) : (heldF R ms).length ≤ 180 := Nat.le_trans (su_len _) (chF_len hl hml)
theorem len_pcs {R : List Bk} {ms : List Int} (h : BksOk R) (hm : ∀ m ∈ ms, ∃ b ∈ R, b.num = m) (hml : ms.length ≤ 9) : (pcsF R ms).length ≤ 1440 := Nat.le_trans (su_len _) (bitsF_len h hm hml)
theorem held_one {R : List Bk} (h : BksOk R) (x : Int) : heldF R [x] = isI (chN R x) := by
  rw [isI_ch h]
  unfold heldF
  rw [List.flatMap_cons, List.flatMap_nil, List.append_nil]
end C23
set_option Elab.async false
set_option linter.all false
set_option maxRecDepth 100000
set_option maxHeartbeats 4000000
namespace C23
open DL PySem LB LM LO
local macro_rules | `(tactic| walk_at "w1") => `(tactic| with_reducible first
  | (refine ws_then ?_; try with_reducible dsimp only [List.set_cons_zero, List.set_cons_succ]) | refine ws_seq ?_ | refine ws_asg ?_ | refine ws_expr ?_ | refine ws_ret ?_ | refine ws_if ?_ | refine ws_asgT ?_ | refine ws_skip ?_ | refine ws_retN ?_ | refine ws_brk ?_ | refine ws_cont ?_ | refine ws_thenR ?_ | refine ws_thenB ?_ | refine ws_thenC ?_ | refine fq_rt ?_ | refine fq_nx ?_ | refine un_nx ?_ | refine un_ct ?_ | refine un_bk ?_ | refine un_rt ?_ | refine ws_loopN ?_
  | (refine ws_loopC (ρ1 := ?r) ?h ?q; (case h => with_unfolding_all rfl); try with_reducible dsimp only [List.set_cons_zero, List.set_cons_succ])
  | refine wp_c ?_ | refine wp_op2 ?_ | refine wp_fn ?_ | refine wp_cons ?_ | refine wp_nil ?_ | refine wp_call ?_ | refine wp_op1 ?_
  | (refine wp_var (d := ?d) ?h ?q; (case h => with_unfolding_all rfl))
  | (refine ws_aug (d := ?d) ?h ?q; (case h => with_unfolding_all rfl))
  | refine wp_tup ?_ | refine wp_lst ?_ | refine wp_lstM ?_ | refine wp_listM ?_
  | refine wp_sl0 ?_ | refine wp_sl1 ?_ | refine wp_sl2 ?_ | refine wp_sl3 ?_
  | refine wp_tval ?_ | refine wp_tnot ?_ | refine wp_tand ?_ | refine wp_tor ?_ | refine wp_tyes ?_ | refine wp_and ?_ | refine wp_or ?_ | refine wp_not ?_ | refine wp_ifx ?_ | refine wp_chain ?_ | refine wp_meth ?_ | refine wp_meth0 ?_
  | refine wp_isi ?_ | refine wp_isis ?_ | refine wp_repr ?_ | refine wp_maxD ?_ | refine wi_rng3 ?_
  | refine wp_str1 ?_ | refine ws_par ?_ | refine wp_dnew ?_ | refine wp_get2 ?_ | refine wp_reprQ ?_ | refine wp_fnK ?_ | refine wi_valsI ?_ | refine wi_itemsI ?_ | refine ws_augI ?_
  | refine wi_seq ?_ | refine wi_rng1 ?_ | refine wi_rng2 ?_ | refine wi_zip2 ?_ | refine wi_zipS ?_
  | (refine wp_fnB (ρ := ?ρ) ?he ?_; (case he => (simp only [List.map_cons, List.map_nil, List.length_cons, List.length_nil, List.replicate, List.cons_append, List.nil_append, Nat.reduceAdd, Nat.reduceSub]; rfl))))
local macro_rules | `(tactic| walk_at "w2") => `(tactic| ((with_reducible refine wo_id ?_); with_reducible first
  | refine vo_sub ?_ | refine vo_add ?_ | refine vo_lt ?_ | refine vo_le ?_ | refine vo_gt ?_ | refine vo_ge ?_ | refine vo_eq ?_ | refine vo_ne ?_ | refine vo_eqS ?_ | refine vo_neS ?_ | refine vo_eqB ?_ | refine vo_neB ?_ | refine vo_neg ?_ | refine vo_slT ?_ | refine vo_slL ?_ | refine vo_slS ?_ | refine vo_lenT ?_ | refine vo_lenL ?_ | refine vo_lenS ?_ | refine vo_revT ?_ | refine vo_revL ?_ | refine vo_min ?_ | refine vo_max ?_ | refine vo_tupL ?_ | refine vo_tupT ?_ | refine vo_lisL ?_ | refine vo_lisT ?_
  | refine vo_igAdd ?_ | refine vo_igMulR (by omega) ?_ | refine vo_igMulL (by omega) ?_ | refine vo_mod (by omega) ?_ | refine vo_div (by omega) ?_ | refine vo_mulR (by omega) ?_ | refine vo_mulL (by omega) ?_
  | refine vo_ixL0 ?_ | refine vo_ixL1 ?_ | refine vo_ixL2 ?_ | refine vo_ixL3 ?_ | refine vo_ixL4 ?_ | refine vo_ixL5 ?_ | refine vo_ixL6 ?_ | refine vo_ixT0 ?_ | refine vo_ixT1 ?_ | refine vo_ixT2 ?_ | refine vo_ixT3 ?_ | refine vo_ixT4 ?_ | refine vo_ixT5 ?_ | refine vo_ixT6 ?_
  | refine vo_starts ?_ | refine vo_isBN ?_ | refine vo_isSN ?_ | refine vo_isLN ?_ | refine vo_isDN ?_ | refine vo_slX (by first | assumption | omega) ?_ | refine vo_lenX (by first | assumption | omega) ?_ | refine vo_addS (by first | assumption | omega) ?_
  | refine vo_inT ?_ | refine vo_ninT ?_ | refine vo_inL ?_ | refine vo_ninL ?_ | refine vo_inI ?_ | refine vo_ninI ?_ | refine vo_sortI (by first | assumption | omega) ?_ | refine vo_sortL ?_ | refine vo_lenI ?_ | refine vo_lt3 ?_ | refine vo_isNN ?_ | refine vo_is3N ?_ | refine vo_isTN ?_ | refine vo_isIN ?_ | refine vo_igAddI ?_ | refine vo_ixI (by assumption) ?_
  | refine vo_vwD1 (by assumption) ?_ | refine vo_vwDc (by assumption) ?_
  | refine wo_vw1 (by assumption) ?_ | refine wo_vw2 (by assumption) ?_ | refine vo_vwc (by assumption) ?_
  | (refine vo_isi (c := ?c) ?h ?q; (case h => with_unfolding_all rfl)) | (refine vo_isis (c := ?c) ?h ?q; (case h => with_unfolding_all rfl))))
local macro_rules | `(tactic| walk_at "w3") => `(tactic| first
  | with_reducible refine nb_ff ?_ | with_reducible refine nb_tt ?_ | with_reducible refine nb_ft ?_ | with_reducible refine nb_tf ?_
  | with_reducible refine ite_f ?_ | with_reducible refine ite_nt ?_ | with_reducible refine ite_nf ?_ | with_reducible refine ite_t ?_
  | ((with_reducible refine ex_id ?_); refine ⟨_, rfl, ?_⟩) | ((with_reducible refine and_id ?_); refine ⟨Nat.le_of_ble_eq_true rfl, ?_⟩))
local macro_rules | `(tactic| walk_at "w") => `(tactic| repeat (first | walk_at "w1" | walk_at "w2" | walk_at "w3"))
theorem at2 {S : Sto} {x y : Option Ob} : (S ++ [x, y])[S.length]? = some x ∧ (S ++ [x, y])[S.length + 1]? = some y := by simp
theorem kill2 {S : Sto} {x y : Option Ob} {k : Nat} (h : k < S.length) : (((S ++ [x, y]).set S.length none).set (S.length + 1) none)[k]? = S[k]? := by
  rw [List.getElem?_set_ne (by omega), List.getElem?_set_ne (by omega), List.getElem?_append_left h]
theorem kill2J {S : Sto} {x y : Option Ob} {k : Int} (j : JarS S 0 k) : JarS (((S ++ [x, y]).set S.length none).set (S.length + 1) none) 0 k := by
  have := j.lt
  exact JarS.set (o := none) (JarS.set (o := none) (JarS.app (l := [x, y]) j) (m := S.length) (by omega)) (m := S.length + 1) (by omega)
theorem held_nil (R : List Bk) : heldF R [] = [] := List.length_eq_zero_iff.mp (Nat.le_zero.mp (su_len []))
theorem pcs_nil (R : List Bk) : pcsF R [] = [] := List.length_eq_zero_iff.mp (Nat.le_zero.mp (su_len []))
theorem law_ok (ns : List Int) (hns : ns.length ≤ 63) : ∃ S, d_law [.scr ns] [] = .ok (.bl true) S := by
  suffices h : Wp (d_law [.scr ns] []) (fun d _ => d = .bl true) noX by
    obtain ⟨d, S, e, rfl⟩ := h.ok
    exact ⟨S, e⟩
  have keep := @LB.PathT.txt
  clear keep
  unfold d_law b_law
  walk_at "w"
  rw [cut_map]
  refine .of (d := .lst ((cutL ns none (some 63)).map .int)) rfl ?_
  walk_at "w"
  have j0 : JarS [some (.lst [.lst ((cutL ns none (some 63)).map .int), .int 0, .int 0])] 0 0 := ⟨cutL ns none (some 63), 0, 0, rfl, by omega, by omega⟩
  refine wp_bdraw j0 (by omega) (by omega) fun v S1 v0 v1 j2 o2 => ?_
  obtain ⟨v, rfl⟩ : ∃ m : Nat, v = m := ⟨v.toNat, by omega⟩
  walk_at "w"
  rw [show (1 : Int) + (v : Int) = ((v + 1 : Nat) : Int) by omega]
  refine wp_bbooks (often := v + 1) j2 (by omega) (by omega) fun R a b S2 hR hRo hRl hna hnb hab h2a h2b j3 k3 => ?_
  walk_at "w"
  refine ws_frzA rfl h2a ?_
  dsimp only [List.set_cons_zero, List.set_cons_succ]
  have j4 := JarS.set (o := none) j3 hna
  generalize S2.set a none = S3 at j4
  refine ws_asg ?_
  refine wp_listM (wp_cons (wp_var rfl (wp_nil ?_)))
  refine ⟨(numL R).map D.int, by show some (D.lst ((kA bookD (bookL R)).map (·.1))) = _; rw [keys_A, bookL_keys], ?_⟩
  have hnl : (numL R).length = R.length := by unfold numL; simp
  have hN : (S3 ++ [some (Ob.lst ((numL R).map D.int))])[S3.length]? = some (some (.lst ((numL R).map D.int))) := app_at
  have j6 := JarS.app (l := [some (Ob.lst ((numL R).map D.int))]) j4
  have hnN : 0 ≠ S3.length := by have := j4.lt; omega
  generalize S3 ++ [some (Ob.lst ((numL R).map D.int))] = S5 at hN j6
  generalize S3.length = N at hN hnN
  dsimp only [List.set_cons_zero, List.set_cons_succ]
  walk_at "w"
  have hSm : (S5 ++ [some (Ob.lst ([] : List D))])[S5.length]? = some (some (.lst (([] : List Int).map D.int))) := app_at
  have hN2 : (S5 ++ [some (Ob.lst ([] : List D))])[N]? = some (some (.lst ((numL R).map D.int))) := by
    rw [List.getElem?_append_left (List.getElem?_eq_some_iff.mp hN).1]; exact hN
  have j7 := JarS.app (l := [some (Ob.lst ([] : List D))]) j6
  have hnM : 0 ≠ S5.length := by have := j6.lt; omega
  have hNM : N ≠ S5.length := Nat.ne_of_lt (List.getElem?_eq_some_iff.mp hN).1
  generalize S5 ++ [some (Ob.lst ([] : List D))] = S6 at hSm hN2 j7
  generalize S5.length = M at hSm hnM hNM
  refine wp_needed (ms := []) hR (by omega) (by simp) (by simp) (by simp only [frz, hSm]) ?_
  walk_at "w"
  have h0a := held_nil R
  have h0b := pcs_nil R
  unfold heldF at h0a
  unfold pcsF at h0b
  refine ws_fzV rfl ?_
  rw [fz2 at2.1 at2.2 (by omega), h0a, h0b]
  dsimp only [List.set_cons_zero, List.set_cons_succ]
  have lN := (List.getElem?_eq_some_iff.mp hN2).1
  have lM := (List.getElem?_eq_some_iff.mp hSm).1
  have j8 := JarS.set (o := none) (JarS.set (o := none) (JarS.app (l := [some (Ob.lst (([] : List Int).map D.int)), some (Ob.lst (([] : List Int).map D.int))]) j7) (m := S6.length) (show 0 ≠ S6.length by omega)) (m := S6.length + 1) (show 0 ≠ S6.length + 1 by omega)
  have hN3 : (((S6 ++ [some (Ob.lst (([] : List Int).map D.int)), some (Ob.lst (([] : List Int).map D.int))]).set S6.length none).set (S6.length + 1) none)[N]? = some (some (.lst ((numL R).map D.int))) := by
    rw [List.getElem?_set_ne (by omega), List.getElem?_set_ne (by omega), List.getElem?_append_left lN]; exact hN2
  have hM3 : (((S6 ++ [some (Ob.lst (([] : List Int).map D.int)), some (Ob.lst (([] : List Int).map D.int))]).set S6.length none).set (S6.length + 1) none)[M]? = some (some (.lst (([] : List Int).map D.int))) := by
    rw [List.getElem?_set_ne (by omega), List.getElem?_set_ne (by omega), List.getElem?_append_left lM]; exact hSm
  generalize ((S6 ++ [some (Ob.lst (([] : List Int).map D.int)), some (Ob.lst (([] : List Int).map D.int))]).set S6.length none).set (S6.length + 1) none = S8 at j8 hN3 hM3
  unfold i_law_1
  walk_at "w"
  refine .of (d := .bl false) rfl ?_
  walk_at "w"
  unfold l_law_2
  refine ws_for [5, 6, 7, 8, 9, 10] ?_
  walk_at "w"
  rw [List.length_map]
  obtain ⟨c, hc, hc5, hcR⟩ : ∃ c : Int, (if ((numL R).length : Int) < 5 then ((numL R).length : Int) else 5) = c ∧ c ≤ 5 ∧ c ≤ (R.length : Int) := ⟨_, rfl, by split <;> omega, by split <;> omega⟩
  rw [hc]
  refine ⟨by omega, ?_⟩
  refine ⟨fun j vs S' => ∃ (as rest : List Int) (e6 e7 e8 e9 e10 : Option D), vs = [some (toldD R as), e6, e7, e8, e9, e10] ∧ as.length = j ∧ S'[N]? = some (some (.lst (rest.map .int))) ∧ S'[M]? = some (some (.lst (as.map .int))) ∧ (as ++ rest).Perm (numL R) ∧ JarS S' 0 (0 + 1 + 100000 + (j : Int)),
    [some (toldD R []), none, none, none, none, none], rfl, ?_, ⟨[], numL R, none, none, none, none, none, rfl, rfl, hN3, hM3, .refl _, j8.mono (by omega)⟩, ?_, ?_⟩
  · unfold toldD
    rw [held_nil, pcs_nil]
    rfl
  · rintro j d vs S9 hj hv ⟨as, rest, e6, e7, e8, e9, e10, rfl, hal, hN4, hM4, hp, j9⟩
    have hj' := (List.getElem?_eq_some_iff.mp hj).1
    rw [iRng_len] at hj'
    have hpl := hp.length_eq
    rw [List.length_append, hnl] at hpl
    refine ⟨_, rfl, ?_⟩
    unfold lb_law_2
    dsimp only [putAll, List.set_cons_zero, List.set_cons_succ]
    walk_at "w"
    refine ⟨lst_some hN4, ?_⟩
    walk_at "w"
    rw [List.length_map]
    refine wp_bdraw j9 (by omega) (by omega) fun u S10 u0 u1 j10 o10 => ?_
    have hN5 := (o10.2 N (Ne.symm hnN)).trans hN4
    have hM5 := (o10.2 M (Ne.symm hnM)).trans hM4
    walk_at "w"
    obtain ⟨A, B, x, e1, e2⟩ := popH D.int (L := rest) (v := u) ⟨u0, u1⟩ (by omega)
    refine ⟨_, _, _, hN5, e2, ?_⟩
    have hN6 : (S10.set N (some (.lst ((A ++ B).map D.int))))[N]? = some (some (.lst ((A ++ B).map D.int))) := set_at hN5
    have hM6 : (S10.set N (some (.lst ((A ++ B).map D.int))))[M]? = some (some (.lst (as.map D.int))) := by rw [List.getElem?_set_ne hNM]; exact hM5
    have j11 := JarS.set (o := some (.lst ((A ++ B).map D.int))) j10 hnN
    generalize S10.set N (some (.lst ((A ++ B).map D.int))) = S11 at hN6 hM6 j11
    walk_at "w"
    refine vo_addL (by rw [List.length_map]; simp; omega) ?_
    have hxR : x ∈ numL R := hp.mem_iff.mp (List.mem_append_right _ (by rw [e1]; simp))
    obtain ⟨bk, hbk, rfl⟩ := numL_mem.mp hxR
    have has : ∀ m ∈ as, ∃ c ∈ R, c.num = m := fun m hm => numL_mem.mp (hp.mem_iff.mp (List.mem_append_left _ hm))
    have has2 : ∀ m ∈ as ++ [bk.num], ∃ c ∈ R, c.num = m := fun m hm => by
      rcases List.mem_append.mp hm with z | z
      · exact has m z
      · exact ⟨bk, hbk, (List.mem_singleton.mp z).symm⟩
    have ha9 : as.length ≤ 5 := by omega
    have hz9 : (as ++ [bk.num]).length ≤ 9 := by simp; omega
    rw [show as.map D.int ++ [D.int bk.num] = (as ++ [bk.num]).map D.int by simp]
    walk_at "w"
    refine wp_needed (ms := as ++ [bk.num]) hR (by omega) has2 hz9 rfl ?_
    walk_at "w"
    refine wp_needed (ms := [bk.num]) hR (by omega) (one_mem hbk) (by simp) rfl ?_
    walk_at "w"
    have lN := (List.getElem?_eq_some_iff.mp hN6).1
    have lM := (List.getElem?_eq_some_iff.mp hM6).1
    have hs1 := held_more R as bk.num
    have hs2 := pcs_more R as bk.num
    have lh := len_held (R := R) (ms := as) (by omega) (by omega)
    have lp := len_pcs hR has (by omega)
    have lh1 := len_held (R := R) (ms := [bk.num]) (by omega) (by simp)
    have lp1 := len_pcs hR (one_mem hbk) (by simp)
    have eh1 := held_one hR bk.num
    have lh2 := len_held (R := R) (ms := as ++ [bk.num]) (by omega) hz9
    have lp2 := len_pcs hR has2 hz9
    have u1 : suI ((as ++ [bk.num]).flatMap (chN R)) = heldF R (as ++ [bk.num]) := rfl
    have u2 : suI (bitsF R (as ++ [bk.num])) = pcsF R (as ++ [bk.num]) := rfl
    have u3 : suI ([bk.num].flatMap (chN R)) = heldF R [bk.num] := rfl
    have u4 : suI (bitsF R [bk.num]) = pcsF R [bk.num] := rfl
    rw [u1, u2, u3, u4]
    refine ws_fzV rfl ?_
    rw [fz2 at2.1 at2.2 (by omega)]
    dsimp only [List.set_cons_zero, List.set_cons_succ]
    have hN7 : (S11 ++ [some (Ob.lst ((heldF R (as ++ [bk.num])).map D.int)), some (Ob.lst ((pcsF R (as ++ [bk.num])).map D.int))])[N]? = _ := (List.getElem?_append_left lN).trans hN6
    have hM7 : (S11 ++ [some (Ob.lst ((heldF R (as ++ [bk.num])).map D.int)), some (Ob.lst ((pcsF R (as ++ [bk.num])).map D.int))])[M]? = _ := (List.getElem?_append_left lM).trans hM6
    have hP7 := at2 (S := S11) (x := some (Ob.lst ((heldF R (as ++ [bk.num])).map D.int))) (y := some (Ob.lst ((pcsF R (as ++ [bk.num])).map D.int)))
    have j12 := JarS.app (l := [some (Ob.lst ((heldF R (as ++ [bk.num])).map D.int)), some (Ob.lst ((pcsF R (as ++ [bk.num])).map D.int))]) j11
    have pN : N ≠ S11.length ∧ N ≠ S11.length + 1 := by omega
    have pM : M ≠ S11.length ∧ M ≠ S11.length + 1 := by omega
    have pJ : 0 ≠ S11.length ∧ 0 ≠ S11.length + 1 := by have := j11.lt; omega
    generalize S11 ++ [some (Ob.lst ((heldF R (as ++ [bk.num])).map D.int)), some (Ob.lst ((pcsF R (as ++ [bk.num])).map D.int))] = S12 at hN7 hM7 hP7 j12
    generalize S11.length = L at hP7 pN pM pJ
    have lL := (List.getElem?_eq_some_iff.mp hP7.1).1
    have lL1 := (List.getElem?_eq_some_iff.mp hP7.2).1
    have hN8 := (kill2 (x := some (Ob.lst ((heldF R [bk.num]).map D.int))) (y := some (Ob.lst ((pcsF R [bk.num]).map D.int))) (List.getElem?_eq_some_iff.mp hN7).1).trans hN7
    have hM8 := (kill2 (x := some (Ob.lst ((heldF R [bk.num]).map D.int))) (y := some (Ob.lst ((pcsF R [bk.num]).map D.int))) (List.getElem?_eq_some_iff.mp hM7).1).trans hM7
    have hL8 := (kill2 (x := some (Ob.lst ((heldF R [bk.num]).map D.int))) (y := some (Ob.lst ((pcsF R [bk.num]).map D.int))) lL).trans hP7.1
    have hL9 := (kill2 (x := some (Ob.lst ((heldF R [bk.num]).map D.int))) (y := some (Ob.lst ((pcsF R [bk.num]).map D.int))) lL1).trans hP7.2
    have j13 := kill2J (x := some (Ob.lst ((heldF R [bk.num]).map D.int))) (y := some (Ob.lst ((pcsF R [bk.num]).map D.int))) j12
    generalize ((S12 ++ [some (Ob.lst ((heldF R [bk.num]).map D.int)), some (Ob.lst ((pcsF R [bk.num]).map D.int))]).set S12.length none).set (S12.length + 1) none = S13 at hN8 hM8 hL8 hL9 j13
    refine ws_fzV rfl ?_
    rw [fz2 hL8 hL9 (by omega)]
    dsimp only [List.set_cons_zero, List.set_cons_succ]
    have hN9 : ((S13.set L none).set (L + 1) none)[N]? = some (some (.lst ((A ++ B).map D.int))) := by
      rw [List.getElem?_set_ne (Ne.symm pN.2), List.getElem?_set_ne (Ne.symm pN.1)]; exact hN8
    have hM9 : ((S13.set L none).set (L + 1) none)[M]? = some (some (.lst (as.map D.int))) := by
      rw [List.getElem?_set_ne (Ne.symm pM.2), List.getElem?_set_ne (Ne.symm pM.1)]; exact hM8
    have j14 := JarS.set (o := none) (JarS.set (o := none) j13 pJ.1) pJ.2
    generalize (S13.set L none).set (L + 1) none = S14 at hN9 hM9 j14
    refine ws_midT (fun fl S' => ∃ e10 : Option D, fl = .nx [some (D.scr ns), some (D.ref 0), some (booksD R), some (D.ref N), some (D.ref M), some (toldD R as), some d, some (D.int bk.num), some (toldD R (as ++ [bk.num])), some (toldD R [bk.num]), e10] ∧ S' = S14) ?_ ?_
    · unfold l_law_1
      refine ws_for [10] ?_
      walk_at "w"
      refine ⟨by omega, ?_⟩
      refine ⟨fun i vs S' => ∃ e10 : Option D, vs = [e10] ∧ S' = S14, [e10], rfl, rfl, ⟨e10, rfl, rfl⟩, ?_, ?_⟩
      · rintro i d2 vs S15 hi hv2 ⟨f10, rfl, rfl⟩
        refine ⟨_, rfl, ?_⟩
        unfold lb_law_1 i_law_2
        dsimp only [putAll, List.set_cons_zero, List.set_cons_succ]
        have hd2 : d2 = .int 0 ∨ d2 = .int 1 := by
          have hi' := (List.getElem?_eq_some_iff.mp hi).1
          rw [iRng_len] at hi'
          have : i = 0 ∨ i = 1 := by omega
          rcases this with rfl | rfl
          · exact .inl (Option.some.inj hi).symm
          · exact .inr (Option.some.inj hi).symm
        unfold toldD
        rcases hd2 with rfl | rfl
        · walk_at "w"
          refine wp_sortUn ?_
          walk_at "w"
          refine ⟨_, .inl rfl, by omega, ?_⟩
          walk_at "w"
          refine ⟨_, .inl rfl, by omega, ?_⟩
          rw [← hs1]
          have isd := ints_sd (heldF R (as ++ [bk.num]))
          refine vo_neSd isd.1 (Nat.le_trans isd.2 (by omega)) ?_
          walk_at "w"
          exact ⟨[_], rfl, rfl, _, rfl, rfl⟩
        · walk_at "w"
          refine wp_sortUn ?_
          walk_at "w"
          refine ⟨_, .inl rfl, by omega, ?_⟩
          walk_at "w"
          refine ⟨_, .inl rfl, by omega, ?_⟩
          rw [← hs2]
          have isd := ints_sd (pcsF R (as ++ [bk.num]))
          refine vo_neSd isd.1 (Nat.le_trans isd.2 (by omega)) ?_
          walk_at "w"
          exact ⟨[_], rfl, rfl, _, rfl, rfl⟩
      · rintro vs S15 hv2 ⟨f10, rfl, rfl⟩
        exact ⟨f10, rfl, rfl⟩
    rintro fl S15 ⟨f10, rfl, rfl⟩
    walk_at "w"
    unfold i_law_3
    walk_at "w"
    unfold toldD
    walk_at "w"
    refine wp_bpieces hR (by omega) hbk ?_
    have isp := ints_sd (pcsF R [bk.num])
    refine vo_neSd isp.1 (Nat.le_trans isp.2 (by omega)) ?_
    walk_at "w"
    refine wp_chain_of hR (by omega) hbk ?_
    walk_at "w"
    refine vo_sortXI ?_
    rw [← eh1]
    have ish := ints_sd (heldF R [bk.num])
    refine vo_neSd ish.1 (Nat.le_trans ish.2 (by omega)) ?_
    walk_at "w"
    refine ⟨lst_some hM9, ?_⟩
    walk_at "w"
    refine ⟨_, _, _, hM9, gApp (by rw [List.length_map]; omega), ?_⟩
    rw [show as.map D.int ++ [D.int bk.num] = (as ++ [bk.num]).map D.int by simp]
    have hM10 : (S15.set M (some (.lst ((as ++ [bk.num]).map D.int))))[M]? = some (some (.lst ((as ++ [bk.num]).map D.int))) := set_at hM9
    have hN10 : (S15.set M (some (.lst ((as ++ [bk.num]).map D.int))))[N]? = some (some (.lst ((A ++ B).map D.int))) := by rw [List.getElem?_set_ne (Ne.symm hNM)]; exact hN9
    have j15 := JarS.set (o := some (.lst ((as ++ [bk.num]).map D.int))) j14 hnM
    generalize S15.set M (some (.lst ((as ++ [bk.num]).map D.int))) = S16 at hM10 hN10 j15
    walk_at "w"
    unfold i_law_4
    walk_at "w"
    refine wp_bclosed hR (by omega) has2 hz9 (by simp only [frz, hM10]) ?_
    walk_at "w"
    refine ⟨[_, _, _, _, _, _], rfl, rfl, as ++ [bk.num], A ++ B, _, _, _, _, _, rfl, by simp [hal], hN10, hM10, ?_, j15.mono (by omega)⟩
    refine List.Perm.trans ?_ hp
    rw [e1, List.append_assoc]
    exact List.Perm.append_left _ (by simpa using (List.perm_middle (a := bk.num) (l₁ := A) (l₂ := B)).symm)
  · rintro vs S9 hv ⟨as, rest, e6, e7, e8, e9, e10, rfl, hal, hN4, hM4, hp, j9⟩
    walk_at "w"
    rfl
end C23
set_option Elab.async false
set_option linter.all false
set_option maxRecDepth 100000
set_option maxHeartbeats 0
namespace C23
open PySem PySem.Spec PyProof.Rows L2 DL
structure Fx (K : PySem.W.Frag) (mg : Str → Option Value) : Prop where
  c : He.SaysD fa fn K
  h : ∃ h, K.In h ∧ h.Ns mainGlobals mg
section
variable {K : PySem.W.Frag} {mg : Str → Option Value} (fx : Fx K mg)
include fx
theorem Fx.g_bprime : mg "_law_bprime" = some (.ref (He.ga K "_law_bprime")) := by obtain ⟨h, X, G⟩ := fx.h; exact He.glo_ok X G (fx.c.fact 0 (f := .glo "_law_bprime") rfl)
theorem Fx.g_bfresh : mg "_law_bfresh" = some (.ref (He.ga K "_law_bfresh")) := by obtain ⟨h, X, G⟩ := fx.h; exact He.glo_ok X G (fx.c.fact 1 (f := .glo "_law_bfresh") rfl)
theorem Fx.g_bdraw : mg "_law_bdraw" = some (.ref (He.ga K "_law_bdraw")) := by obtain ⟨h, X, G⟩ := fx.h; exact He.glo_ok X G (fx.c.fact 2 (f := .glo "_law_bdraw") rfl)
theorem Fx.g_bname : mg "_law_bname" = some (.ref (He.ga K "_law_bname")) := by obtain ⟨h, X, G⟩ := fx.h; exact He.glo_ok X G (fx.c.fact 3 (f := .glo "_law_bname") rfl)
theorem Fx.g_bpath : mg "_law_bpath" = some (.ref (He.ga K "_law_bpath")) := by obtain ⟨h, X, G⟩ := fx.h; exact He.glo_ok X G (fx.c.fact 4 (f := .glo "_law_bpath") rfl)
theorem Fx.g_bis_apart : mg "_law_bis_apart" = some (.ref (He.ga K "_law_bis_apart")) := by obtain ⟨h, X, G⟩ := fx.h; exact He.glo_ok X G (fx.c.fact 5 (f := .glo "_law_bis_apart") rfl)
theorem Fx.g_bnumbers : mg "_law_bnumbers" = some (.ref (He.ga K "_law_bnumbers")) := by obtain ⟨h, X, G⟩ := fx.h; exact He.glo_ok X G (fx.c.fact 6 (f := .glo "_law_bnumbers") rfl)
theorem Fx.g_bfiles : mg "_law_bfiles" = some (.ref (He.ga K "_law_bfiles")) := by obtain ⟨h, X, G⟩ := fx.h; exact He.glo_ok X G (fx.c.fact 7 (f := .glo "_law_bfiles") rfl)
theorem Fx.g_brows : mg "_law_brows" = some (.ref (He.ga K "_law_brows")) := by obtain ⟨h, X, G⟩ := fx.h; exact He.glo_ok X G (fx.c.fact 8 (f := .glo "_law_brows") rfl)
theorem Fx.g_bbooks : mg "_law_bbooks" = some (.ref (He.ga K "_law_bbooks")) := by obtain ⟨h, X, G⟩ := fx.h; exact He.glo_ok X G (fx.c.fact 9 (f := .glo "_law_bbooks") rfl)
theorem Fx.g_chain_of : mg "chain_of" = some (.ref (He.ga K "chain_of")) := by obtain ⟨h, X, G⟩ := fx.h; exact He.glo_ok X G (fx.c.fact 10 (f := .glo "chain_of") rfl)
theorem Fx.g_files_by : mg "files_by" = some (.ref (He.ga K "files_by")) := by obtain ⟨h, X, G⟩ := fx.h; exact He.glo_ok X G (fx.c.fact 11 (f := .glo "files_by") rfl)
theorem Fx.g_needed : mg "needed" = some (.ref (He.ga K "needed")) := by obtain ⟨h, X, G⟩ := fx.h; exact He.glo_ok X G (fx.c.fact 12 (f := .glo "needed") rfl)
theorem Fx.g_bpieces : mg "_law_bpieces" = some (.ref (He.ga K "_law_bpieces")) := by obtain ⟨h, X, G⟩ := fx.h; exact He.glo_ok X G (fx.c.fact 13 (f := .glo "_law_bpieces") rfl)
theorem Fx.g_book_way : mg "book_way" = some (.ref (He.ga K "book_way")) := by obtain ⟨h, X, G⟩ := fx.h; exact He.glo_ok X G (fx.c.fact 14 (f := .glo "book_way") rfl)
theorem Fx.g_piece_way : mg "piece_way" = some (.ref (He.ga K "piece_way")) := by obtain ⟨h, X, G⟩ := fx.h; exact He.glo_ok X G (fx.c.fact 15 (f := .glo "piece_way") rfl)
theorem Fx.g_bclosed : mg "_law_bclosed" = some (.ref (He.ga K "_law_bclosed")) := by obtain ⟨h, X, G⟩ := fx.h; exact He.glo_ok X G (fx.c.fact 16 (f := .glo "_law_bclosed") rfl)
theorem Fx.g_law : mg "law" = some (.ref (He.ga K "law")) := by obtain ⟨h, X, G⟩ := fx.h; exact He.glo_ok X G (fx.c.fact 17 (f := .glo "law") rfl)
theorem Fx.m_dict : mg "dict" = none := by obtain ⟨h, X, G⟩ := fx.h; exact He.free_ok X G (fx.c.fact 18 (f := .free "dict") rfl)
theorem Fx.m_len : mg "len" = none := by obtain ⟨h, X, G⟩ := fx.h; exact He.free_ok X G (fx.c.fact 19 (f := .free "len") rfl)
theorem Fx.m_list : mg "list" = none := by obtain ⟨h, X, G⟩ := fx.h; exact He.free_ok X G (fx.c.fact 20 (f := .free "list") rfl)
theorem Fx.m_min : mg "min" = none := by obtain ⟨h, X, G⟩ := fx.h; exact He.free_ok X G (fx.c.fact 21 (f := .free "min") rfl)
theorem Fx.m_range : mg "range" = none := by obtain ⟨h, X, G⟩ := fx.h; exact He.free_ok X G (fx.c.fact 22 (f := .free "range") rfl)
theorem Fx.m_set : mg "set" = none := by obtain ⟨h, X, G⟩ := fx.h; exact He.free_ok X G (fx.c.fact 23 (f := .free "set") rfl)
theorem Fx.m_sorted : mg "sorted" = none := by obtain ⟨h, X, G⟩ := fx.h; exact He.free_ok X G (fx.c.fact 24 (f := .free "sorted") rfl)
theorem Fx.m_tuple : mg "tuple" = none := by obtain ⟨h, X, G⟩ := fx.h; exact He.free_ok X G (fx.c.fact 25 (f := .free "tuple") rfl)
end
theorem ok_bprime {P : Program} {w : World} {K : PySem.W.Frag} {mg : Str → Option Value} {base : Heap} (fx : Fx K mg) : OkF P w K mg base "_law_bprime" ["_law_at"] 1 LB.d_bprime :=
  okF_P (fx.c.def_ 0 (d := a_bprime) rfl) fx.g_bprime sc_bprime (fun _ _ _ _ _ _ us hl => match us, hl with | [_], _ => rfl) fun cdv A outer s H E hr tk hp =>
  (sv_cons (sv_asg sc_bprime.nd rfl (by first | exact Or.inl rfl | exact Or.inr rfl) (ev_lst (ea_cons ev_int (ea_cons ev_int (ea_cons ev_int (ea_cons ev_int (ea_cons ev_int (ea_cons ev_int (ea_cons ev_int ea_nil)))))))))
    (sv_one (sv_ret (ev_ix hr.r.units (ev_op og_add ev_var (ev_lst (ea_cons ev_int (ea_cons ev_int (ea_cons ev_int (ea_cons ev_int ea_nil)))))) (ev_op og_mod ev_var ev_int)))))
theorem ok_bfresh {P : Program} {w : World} {K : PySem.W.Frag} {mg : Str → Option Value} {base : Heap} (fx : Fx K mg) : OkF P w K mg base "_law_bfresh" ["_law_tape"] 2 LB.d_bfresh :=
  okF_N (fx.c.def_ 1 (d := a_bfresh) rfl) fx.g_bfresh sc_bfresh (fun _ _ _ _ _ _ us hl => match us, hl with | [_], _ => rfl) fun cdv A outer s H E hr tk hp =>
  (sv_cons (sv_asg sc_bfresh.nd rfl (by first | exact Or.inl rfl | exact Or.inr rfl) (ev_ix hr.r.units ev_var ev_int))
    (sv_cons (sv_setIx hr.r.units (ev_op og_add ev_var ev_int) ev_var ev_int)
    (sv_cons (sv_asg sc_bfresh.nd rfl (by first | exact Or.inl rfl | exact Or.inr rfl) (ev_op og_add (ev_op og_mul ev_int ev_var) ev_int))
    (sv_cons (sv_if (tv_cmp og_lt ev_var (ev_callB cg_len rfl fx.m_len (by decide +kernel) (ea_cons (ev_ix hr.r.units ev_var ev_int) ea_nil)) rfl) (sv_one (sv_asg sc_bfresh.nd rfl (by first | exact Or.inl rfl | exact Or.inr rfl) (ev_ix hr.r.units (ev_ix hr.r.units ev_var ev_int) ev_var))) (sv_one (sv_if (tv_cmp og_gt (ev_callB cg_len rfl fx.m_len (by decide +kernel) (ea_cons (ev_ix hr.r.units ev_var ev_int) ea_nil)) ev_int rfl) (sv_one (sv_asg sc_bfresh.nd rfl (by first | exact Or.inl rfl | exact Or.inr rfl) (ev_op og_add (ev_op og_mul (ev_op og_mod (ev_ix hr.r.units (ev_ix hr.r.units ev_var ev_int) (ev_op og_mod (ev_op og_mul ev_var ev_int) (ev_callB cg_len rfl fx.m_len (by decide +kernel) (ea_cons (ev_ix hr.r.units ev_var ev_int) ea_nil)))) ev_int) (ev_op og_add ev_var ev_int)) ev_var))) sv_nil)))
    (sv_cons (sv_if (tv_w (wv_and (tv_cmp og_lt ev_var (ev_callB cg_len rfl fx.m_len (by decide +kernel) (ea_cons (ev_ix hr.r.units ev_var ev_int) ea_nil)) rfl) (wv_and1 (tv_cmp og_ge ev_var (ev_op og_pow ev_int ev_int) rfl)))) (sv_one (sv_ret ev_var)) sv_nil)
    (sv_cons (sv_asg sc_bfresh.nd rfl (by first | exact Or.inl rfl | exact Or.inr rfl) (ev_op og_mod (ev_op og_pow (ev_op og_add (ev_op og_add (ev_op og_mul (ev_op og_mod ev_var ev_int) (ev_op og_add ev_var ev_int)) (ev_op og_mul ev_int ev_var)) ev_int) ev_int) (ev_fnO (ok_bprime fx) hr rfl tk (ea_cons ev_var ea_nil))))
    (sv_cons (sv_asg sc_bfresh.nd rfl (by first | exact Or.inl rfl | exact Or.inr rfl) (ev_op og_mod (ev_op og_pow (ev_op og_add (ev_op og_add (ev_op og_mul ev_var (ev_op og_add ev_var ev_int)) (ev_op og_mod ev_var ev_int)) ev_int) ev_int) (ev_fnO (ok_bprime fx) hr rfl tk (ea_cons (ev_op og_add ev_var ev_int) ea_nil))))
    (sv_cons (sv_asg sc_bfresh.nd rfl (by first | exact Or.inl rfl | exact Or.inr rfl) (ev_op og_mod (ev_op og_add (ev_op og_add (ev_op og_mul ev_var ev_var) ev_var) ev_var) (ev_fnO (ok_bprime fx) hr rfl tk (ea_cons (ev_op og_add ev_var ev_int) ea_nil))))
    (sv_one (sv_ret (ev_op og_add (ev_op og_mul (ev_op og_add (ev_op og_mul ev_var ev_int) ev_var) ev_int) ev_var)))))))))))
theorem ok_bdraw {P : Program} {w : World} {K : PySem.W.Frag} {mg : Str → Option Value} {base : Heap} (fx : Fx K mg) : OkF P w K mg base "_law_bdraw" ["_law_tape", "_law_often"] 3 LB.d_bdraw :=
  okF_N (fx.c.def_ 2 (d := a_bdraw) rfl) fx.g_bdraw sc_bdraw (fun _ _ _ _ _ _ us hl => match us, hl with | [_, _], _ => rfl) fun cdv A outer s H E hr tk hp =>
  (sv_cons (sv_if (tv_cmp og_lt (ev_ix hr.r.units ev_var ev_int) ev_var rfl) (sv_one (sv_setIx hr.r.units (ev_fnO (ok_bfresh fx) hr rfl tk (ea_cons ev_var ea_nil)) ev_var ev_int)) sv_nil)
    (sv_cons (sv_asg sc_bdraw.nd rfl (by first | exact Or.inl rfl | exact Or.inr rfl) (ev_op og_mod (ev_ix hr.r.units ev_var ev_int) ev_var))
    (sv_cons (sv_setIx hr.r.units (ev_op og_div (ev_ix hr.r.units ev_var ev_int) ev_var) ev_var ev_int)
    (sv_one (sv_ret ev_var)))))
theorem ok_bname {P : Program} {w : World} {K : PySem.W.Frag} {mg : Str → Option Value} {base : Heap} (fx : Fx K mg) : OkF P w K mg base "_law_bname" ["_law_tape"] 4 LB.d_bname :=
  okF_N (fx.c.def_ 3 (d := a_bname) rfl) fx.g_bname sc_bname (fun _ _ _ _ _ _ us hl => match us, hl with | [_], _ => rfl) fun cdv A outer s H E hr tk hp =>
  (sv_cons (sv_asg sc_bname.nd rfl (by first | exact Or.inl rfl | exact Or.inr rfl) ev_str)
    (sv_cons (sv_if (tv_cmp (og_eq hr.r.units) (ev_fnO (ok_bdraw fx) hr rfl tk (ea_cons ev_var (ea_cons ev_int ea_nil))) ev_int rfl) (sv_one (sv_ret (ev_ix hr.r.units (ev_lst (ea_cons ev_str (ea_cons ev_str (ea_cons ev_str (ea_cons ev_str (ea_cons ev_str (ea_cons ev_str (ea_cons ev_str (ea_cons ev_str ea_nil))))))))) (ev_fnO (ok_bdraw fx) hr rfl tk (ea_cons ev_var (ea_cons ev_int ea_nil)))))) sv_nil)
    (sv_cons (sv_asgT (ev_tup (ea_cons (ev_fnO (ok_bdraw fx) hr rfl tk (ea_cons ev_var (ea_cons ev_int ea_nil))) (ea_cons (ev_fnO (ok_bdraw fx) hr rfl tk (ea_cons ev_var (ea_cons ev_int ea_nil))) ea_nil))) (gv_tp rfl (gv_cons (gv_nm sc_bname.nd rfl (by first | exact Or.inl rfl | exact Or.inr rfl)) (gv_cons (gv_nm sc_bname.nd rfl (by first | exact Or.inl rfl | exact Or.inr rfl)) gv_nil))))
    (sv_one (sv_ret (ev_join ev_str (ev_comp (own := [(("_law_k" : Str), 4)]) rfl sc_bname.nd (iv_rng1 rfl fx.m_range (ev_op og_add ev_int (ev_fnO (ok_bdraw fx) hr rfl tk (ea_cons ev_var (ea_cons ev_int ea_nil))))) (blkOk_by (N := N_bname) (sc := defScope s_bname) (own := [(("_law_k" : Str), 4)]) (by decide +kernel)) (fun _ _ _ _ _ => (gv_nm sc_bname.nd rfl (by first | exact Or.inl rfl | exact Or.inr rfl))) (fun _ _ _ _ _ => tvs_nil) (fun _ _ _ _ _ => (ev_ix hr.r.units ev_var (ev_op og_mod (ev_op og_add ev_var (ev_op og_mul ev_var ev_var)) ev_int))))))))))
theorem ok_bpath {P : Program} {w : World} {K : PySem.W.Frag} {mg : Str → Option Value} {base : Heap} (fx : Fx K mg) : OkF P w K mg base "_law_bpath" ["_law_tape"] 5 LB.d_bpath :=
  okF_N (fx.c.def_ 4 (d := a_bpath) rfl) fx.g_bpath sc_bpath (fun _ _ _ _ _ _ us hl => match us, hl with | [_], _ => rfl) fun cdv A outer s H E hr tk hp =>
  (sv_one (sv_ret (ev_join ev_str (ev_comp (own := [(("_law_k" : Str), 1)]) rfl sc_bpath.nd (iv_rng1 rfl fx.m_range (ev_op og_add ev_int (ev_fnO (ok_bdraw fx) hr rfl tk (ea_cons ev_var (ea_cons ev_int ea_nil))))) (blkOk_by (N := N_bpath) (sc := defScope s_bpath) (own := [(("_law_k" : Str), 1)]) (by decide +kernel)) (fun _ _ _ _ _ => (gv_nm sc_bpath.nd rfl (by first | exact Or.inl rfl | exact Or.inr rfl))) (fun _ _ _ _ _ => tvs_nil) (fun _ _ _ _ _ => (ev_fnO (ok_bname fx) hr rfl takes0 (ea_cons ev_var ea_nil)))))))
theorem ok_bis_apart {P : Program} {w : World} {K : PySem.W.Frag} {mg : Str → Option Value} {base : Heap} (fx : Fx K mg) : OkF P w K mg base "_law_bis_apart" ["_law_path", "_law_others"] 1 LB.d_bis_apart :=
  okF_V (fx.c.def_ 5 (d := a_bis_apart) rfl) fx.g_bis_apart sc_bis_apart (fun _ _ _ _ _ _ us hl => match us, hl with | [_, _], _ => rfl) fun cdv A outer s H E hr tk hp =>
  (sv_cons (sv_for hp rfl (iv_seq ev_var) (gv_nm sc_bis_apart.nd rfl (by first | exact Or.inl rfl | exact Or.inr rfl)) (sv_one (sv_if (tv_w (wv_or (tv_val (ev_starts (ev_op og_add ev_var ev_str) (ev_op og_add ev_var ev_str))) (wv_or1 (tv_val (ev_starts (ev_op og_add ev_var ev_str) (ev_op og_add ev_var ev_str)))))) (sv_one (sv_ret ev_bl)) sv_nil)))
    (sv_one (sv_ret ev_bl)))
theorem ok_bnumbers {P : Program} {w : World} {K : PySem.W.Frag} {mg : Str → Option Value} {base : Heap} (fx : Fx K mg) : OkF P w K mg base "_law_bnumbers" ["_law_tape"] 4 LO.d_bnumbers :=
  okF_N (fx.c.def_ 6 (d := a_bnumbers) rfl) fx.g_bnumbers sc_bnumbers (fun _ _ _ _ _ _ us hl => match us, hl with | [_], _ => rfl) fun cdv A outer s H E hr tk hp =>
  (sv_cons (sv_asg sc_bnumbers.nd rfl (by first | exact Or.inl rfl | exact Or.inr rfl) (ev_lst (ea_cons ev_int (ea_cons ev_int (ea_cons ev_int (ea_cons ev_int (ea_cons ev_int (ea_cons ev_int (ea_cons ev_int (ea_cons ev_int ea_nil))))))))))
    (sv_cons (sv_asg sc_bnumbers.nd rfl (by first | exact Or.inl rfl | exact Or.inr rfl) (ev_lstM ea_nil))
    (sv_cons (sv_for hp rfl (iv_rng1 rfl fx.m_range (ev_ix hr.r.units (ev_lst (ea_cons ev_int (ea_cons ev_int (ea_cons ev_int (ea_cons ev_int (ea_cons ev_int (ea_cons ev_int (ea_cons ev_int ea_nil)))))))) (ev_fnO (ok_bdraw fx) hr rfl tk (ea_cons ev_var (ea_cons ev_int ea_nil))))) (gv_nm sc_bnumbers.nd rfl (by first | exact Or.inl rfl | exact Or.inr rfl)) (sv_cons (sv_asg sc_bnumbers.nd rfl (by first | exact Or.inl rfl | exact Or.inr rfl) (ev_fnO (ok_bdraw fx) hr rfl tk (ea_cons ev_var (ea_cons ev_int ea_nil))))
    (sv_cons (sv_asg sc_bnumbers.nd rfl (by first | exact Or.inl rfl | exact Or.inr rfl) (ev_fnO (ok_bdraw fx) hr rfl tk (ea_cons ev_var (ea_cons (ev_ix hr.r.units (ev_lst (ea_cons ev_int (ea_cons ev_int (ea_cons ev_int ea_nil)))) ev_var) ea_nil))))
    (sv_one (sv_expr (ev_append ev_var (ea_cons (ev_ifx (tv_cmp (og_eq hr.r.units) ev_var ev_int rfl) (ev_ix hr.r.units ev_var ev_var) ev_var) ea_nil)))))))
    (sv_one (sv_ret (ev_callTy cg_tuple rfl fx.m_tuple (by decide +kernel) (ea_cons ev_var ea_nil)))))))
theorem ok_bfiles {P : Program} {w : World} {K : PySem.W.Frag} {mg : Str → Option Value} {base : Heap} (fx : Fx K mg) : OkF P w K mg base "_law_bfiles" ["_law_tape", "_law_elder"] 6 LO.d_bfiles :=
  okF_N (fx.c.def_ 7 (d := a_bfiles) rfl) fx.g_bfiles sc_bfiles (fun _ _ _ _ _ _ us hl => match us, hl with | [_, _], _ => rfl) fun cdv A outer s H E hr tk hp =>
  (sv_cons (sv_asg sc_bfiles.nd rfl (by first | exact Or.inl rfl | exact Or.inr rfl) (ev_dictM rfl rfl fx.m_dict ev_var))
    (sv_cons (sv_for hp rfl (iv_rng1 rfl fx.m_range (ev_fnO (ok_bdraw fx) hr rfl tk (ea_cons ev_var (ea_cons ev_int ea_nil)))) (gv_nm sc_bfiles.nd rfl (by first | exact Or.inl rfl | exact Or.inr rfl)) (sv_cons (sv_asg sc_bfiles.nd rfl (by first | exact Or.inl rfl | exact Or.inr rfl) (ev_callB (cg_sortX rfl) rfl fx.m_sorted (by decide +kernel) (ea_cons ev_var ea_nil)))
    (sv_cons (sv_asg sc_bfiles.nd rfl (by first | exact Or.inl rfl | exact Or.inr rfl) (ev_fnO (ok_bpath fx) hr rfl tk (ea_cons ev_var ea_nil)))
    (sv_cons (sv_if (tv_w (wv_and (tv_cmp (og_ne hr.r.units) ev_var (ev_lst ea_nil) rfl) (wv_and1 (tv_cmp og_gt (ev_fnO (ok_bdraw fx) hr rfl tk (ea_cons ev_var (ea_cons ev_int ea_nil))) ev_int rfl)))) (sv_one (sv_asg sc_bfiles.nd rfl (by first | exact Or.inl rfl | exact Or.inr rfl) (ev_ix hr.r.units ev_var (ev_fnO (ok_bdraw fx) hr rfl tk (ea_cons ev_var (ea_cons (ev_callB cg_len rfl fx.m_len (by decide +kernel) (ea_cons ev_var ea_nil)) ea_nil)))))) sv_nil)
    (sv_one (sv_if (tv_w (wv_and (tv_cmp (og_in hr.r.units) ev_var ev_var rfl) (wv_and1 (tv_cmp (og_eq hr.r.units) (ev_fnO (ok_bdraw fx) hr rfl tk (ea_cons ev_var (ea_cons ev_int ea_nil))) ev_int rfl)))) (sv_one (sv_expr (ev_popD1 ev_var ev_var (m1_of)))) (sv_one (sv_if (tv_w (wv_or (tv_cmp (og_in hr.r.units) ev_var ev_var rfl) (wv_or1 (tv_w (wv_and (tv_cmp og_lt (ev_callB cg_len rfl fx.m_len (by decide +kernel) (ea_cons ev_var ea_nil)) ev_int rfl) (wv_and1 (tv_val (ev_fnO (ok_bis_apart fx) hr rfl tk (ea_cons ev_var (ea_cons (ev_callTy (cg_listK rfl) rfl fx.m_list (by decide +kernel) (ea_cons ev_var ea_nil)) ea_nil)))))))))) (sv_one (sv_setIx hr.r.units (ev_fnO (ok_bnumbers fx) hr rfl tk (ea_cons ev_var ea_nil)) ev_var ev_var)) sv_nil))))))))
    (sv_one (sv_frz (sv_ret ev_var)))))
theorem ok_brows {P : Program} {w : World} {K : PySem.W.Frag} {mg : Str → Option Value} {base : Heap} (fx : Fx K mg) : OkF P w K mg base "_law_brows" ["_law_tape", "_law_elder", "_law_found"] 6 LO.d_brows :=
  okF_N (fx.c.def_ 8 (d := a_brows) rfl) fx.g_brows sc_brows (fun _ _ _ _ _ _ us hl => match us, hl with | [_, _, _], _ => rfl) fun cdv A outer s H E hr tk hp =>
  (sv_cons (sv_asg sc_brows.nd rfl (by first | exact Or.inl rfl | exact Or.inr rfl) (ev_dictM rfl rfl fx.m_dict (ev_comp (own := [(("_law_path" : Str), 4)]) rfl sc_brows.nd (iv_seq ev_var) (blkOk_by (N := N_brows) (sc := defScope s_brows) (own := [(("_law_path" : Str), 4)]) (by decide +kernel)) (fun _ _ _ _ _ => (gv_nm sc_brows.nd rfl (by first | exact Or.inl rfl | exact Or.inr rfl))) (fun _ _ _ _ _ => (tvs_one (tv_cmp (og_ne hr.r.units) (ev_get2 hr.r.units ev_var ev_var ev_non (m2_of)) (ev_ix hr.r.units ev_var ev_var) rfl))) (fun _ _ _ _ _ => (ev_tup (ea_cons ev_var (ea_cons (ev_ix hr.r.units ev_var ev_var) ea_nil)))))))
    (sv_cons (sv_expr (ev_updD ev_var (ev_dictM rfl rfl fx.m_dict (ev_comp (own := [(("_law_path" : Str), 4)]) rfl sc_brows.nd (iv_seq ev_var) (blkOk_by (N := N_brows) (sc := defScope s_brows) (own := [(("_law_path" : Str), 4)]) (by decide +kernel)) (fun _ _ _ _ _ => (gv_nm sc_brows.nd rfl (by first | exact Or.inl rfl | exact Or.inr rfl))) (fun _ _ _ _ _ => (tvs_one (tv_cmp (og_nin hr.r.units) ev_var ev_var rfl))) (fun _ _ _ _ _ => (ev_tup (ea_cons ev_var (ea_cons ev_non ea_nil)))))) (m1_of)))
    (sv_cons (sv_for hp rfl (iv_seq (ev_sl (ev_callB (cg_sortX rfl) rfl fx.m_sorted (by decide +kernel) (ea_cons ev_var ea_nil)) pv_none (pv_some (ev_fnO (ok_bdraw fx) hr rfl tk (ea_cons ev_var (ea_cons ev_int ea_nil)))))) (gv_nm sc_brows.nd rfl (by first | exact Or.inl rfl | exact Or.inr rfl)) (sv_one (sv_setIx hr.r.units (ev_ix hr.r.units ev_var ev_var) ev_var ev_var)))
    (sv_cons (sv_asg sc_brows.nd rfl (by first | exact Or.inl rfl | exact Or.inr rfl) (ev_fnO (ok_bpath fx) hr rfl tk (ea_cons ev_var ea_nil)))
    (sv_cons (sv_if (tv_w (wv_and (tv_cmp (og_eq hr.r.units) (ev_fnO (ok_bdraw fx) hr rfl tk (ea_cons ev_var (ea_cons ev_int ea_nil))) ev_int rfl) (wv_and (tv_cmp (og_nin hr.r.units) ev_var ev_var rfl) (wv_and1 (tv_cmp og_lt (ev_callB cg_len rfl fx.m_len (by decide +kernel) (ea_cons ev_var ea_nil)) ev_int rfl))))) (sv_one (sv_setIx hr.r.units ev_non ev_var ev_var)) sv_nil)
    (sv_one (sv_ret (ev_callTy cg_tuple rfl fx.m_tuple (by decide +kernel) (ea_cons (ev_sortIt rfl rfl fx.m_sorted ev_var) ea_nil)))))))))
theorem ok_bbooks {P : Program} {w : World} {K : PySem.W.Frag} {mg : Str → Option Value} {base : Heap} (fx : Fx K mg) : OkF P w K mg base "_law_bbooks" ["_law_tape", "_law_often"] 7 LO.d_bbooks :=
  okF_N (fx.c.def_ 9 (d := a_bbooks) rfl) fx.g_bbooks sc_bbooks (fun _ _ _ _ _ _ us hl => match us, hl with | [_, _], _ => rfl) fun cdv A outer s H E hr tk hp =>
  (sv_cons (sv_par rfl sc_bbooks.nd rfl rfl (by decide) rfl rfl (ea_cons ev_dnew (ea_cons ev_dnew ea_nil)))
    (sv_cons (sv_asg sc_bbooks.nd rfl (by first | exact Or.inl rfl | exact Or.inr rfl) (ev_ix hr.r.units (ev_lst (ea_cons ev_int (ea_cons ev_int (ea_cons ev_int (ea_cons ev_int ea_nil))))) (ev_fnO (ok_bdraw fx) hr rfl tk (ea_cons ev_var (ea_cons ev_int ea_nil)))))
    (sv_cons (sv_for hp rfl (iv_rng1 rfl fx.m_range ev_var) (gv_nm sc_bbooks.nd rfl (by first | exact Or.inl rfl | exact Or.inr rfl)) (sv_cons (sv_if (tv_w (wv_or (tv_cmp (og_eqE hr.r.units) ev_var ev_dnew rfl) (wv_or1 (tv_cmp (og_eq hr.r.units) (ev_fnO (ok_bdraw fx) hr rfl tk (ea_cons ev_var (ea_cons ev_int ea_nil))) ev_int rfl)))) (sv_cons (sv_setIx hr.r.units (ev_fnO (ok_bfiles fx) hr rfl tk (ea_cons ev_var (ea_cons (ev_frzE ev_dnew) ea_nil))) ev_var ev_var)
    (sv_one (sv_setIx hr.r.units (ev_tup (ea_cons ev_non (ea_cons (ev_callTy cg_tuple rfl fx.m_tuple (by decide +kernel) (ea_cons (ev_sortIt rfl rfl fx.m_sorted (ev_ix hr.r.units ev_var ev_var)) ea_nil)) ea_nil))) ev_var ev_var))) (sv_cons (sv_asg sc_bbooks.nd rfl (by first | exact Or.inl rfl | exact Or.inr rfl) (ev_ix hr.r.units (ev_callB (cg_sortX rfl) rfl fx.m_sorted (by decide +kernel) (ea_cons ev_var ea_nil)) (ev_op og_sub (ev_un og_neg ev_int) (ev_fnO (ok_bdraw fx) hr rfl tk (ea_cons ev_var (ea_cons (ev_callB (cg_min2 rfl) rfl fx.m_min (by decide +kernel) (ea_cons ev_int (ea_cons (ev_callB cg_len rfl fx.m_len (by decide +kernel) (ea_cons ev_var ea_nil)) ea_nil))) ea_nil))))))
    (sv_cons (sv_setIx hr.r.units (ev_fnO (ok_bfiles fx) hr rfl tk (ea_cons ev_var (ea_cons (ev_ix hr.r.units ev_var ev_var) ea_nil))) ev_var ev_var)
    (sv_one (sv_setIx hr.r.units (ev_tup (ea_cons ev_var (ea_cons (ev_fnO (ok_brows fx) hr rfl tk (ea_cons ev_var (ea_cons (ev_ix hr.r.units ev_var ev_var) (ea_cons (ev_ix hr.r.units ev_var ev_var) ea_nil)))) ea_nil))) ev_var ev_var)))))
    (sv_one (sv_asg sc_bbooks.nd rfl (by first | exact Or.inl rfl | exact Or.inr rfl) (ev_op og_add ev_var (ev_ix hr.r.units (ev_lst (ea_cons ev_int (ea_cons ev_int (ea_cons ev_int (ea_cons ev_int ea_nil))))) (ev_fnO (ok_bdraw fx) hr rfl tk (ea_cons ev_var (ea_cons ev_int ea_nil)))))))))
    (sv_one (sv_ret (ev_tup (ea_cons ev_var (ea_cons ev_var ea_nil))))))))
theorem ok_chain_of {P : Program} {w : World} {K : PySem.W.Frag} {mg : Str → Option Value} {base : Heap} (fx : Fx K mg) : OkF P w K mg base "chain_of" ["books", "moment"] 1 LO.d_chain_of :=
  okF_P (fx.c.def_ 10 (d := a_chain_of) rfl) fx.g_chain_of sc_chain_of (fun _ _ _ _ _ _ us hl => match us, hl with | [_, _], _ => rfl) fun cdv A outer s H E hr tk hp =>
  (sv_cons (sv_asg sc_chain_of.nd rfl (by first | exact Or.inl rfl | exact Or.inr rfl) (ev_lstM (ea_cons ev_var ea_nil)))
    (sv_cons (sv_while (n := fun _ _ => 100000) hp (tv_cmp (og_in hr.r.units) (ev_ix hr.r.units ev_var (ev_un og_neg ev_int)) ev_var rfl) (sv_cons (sv_asg sc_chain_of.nd rfl (by first | exact Or.inl rfl | exact Or.inr rfl) (ev_ix hr.r.units (ev_ix hr.r.units ev_var (ev_ix hr.r.units ev_var (ev_un og_neg ev_int))) ev_int))
    (sv_cons (sv_if (tv_cmp og_is ev_var ev_non rfl) (sv_one (sv_frz (sv_ret ev_var))) sv_nil)
    (sv_one (sv_expr (ev_append ev_var (ea_cons ev_var ea_nil)))))))
    (sv_one sv_noRaise)))
theorem ok_files_by {P : Program} {w : World} {K : PySem.W.Frag} {mg : Str → Option Value} {base : Heap} (fx : Fx K mg) : OkF P w K mg base "files_by" ["books", "moment"] 2 LO.d_files_by :=
  okF_P (fx.c.def_ 11 (d := a_files_by) rfl) fx.g_files_by sc_files_by (fun _ _ _ _ _ _ us hl => match us, hl with | [_, _], _ => rfl) fun cdv A outer s H E hr tk hp =>
  (sv_cons (sv_asg sc_files_by.nd rfl (by first | exact Or.inl rfl | exact Or.inr rfl) ev_dnew)
    (sv_cons (sv_for hp rfl (iv_seq (ev_rev (ev_fnO (ok_chain_of fx) hr rfl tk (ea_cons ev_var (ea_cons ev_var ea_nil))))) (gv_nm sc_files_by.nd rfl (by first | exact Or.inl rfl | exact Or.inr rfl)) (sv_one (sv_for hp rfl (iv_seq (ev_ix hr.r.units (ev_ix hr.r.units ev_var ev_var) ev_int)) (gv_tp rfl (gv_cons (gv_nm sc_files_by.nd rfl (by first | exact Or.inl rfl | exact Or.inr rfl)) (gv_cons (gv_nm sc_files_by.nd rfl (by first | exact Or.inl rfl | exact Or.inr rfl)) gv_nil))) (sv_one (sv_if (tv_cmp og_is ev_var ev_non rfl) (sv_one (sv_expr (ev_popD2 ev_var ev_var ev_non (m2_of)))) (sv_one (sv_setIx hr.r.units ev_var ev_var ev_var)))))))
    (sv_one (sv_frz (sv_ret ev_var)))))
theorem ok_needed {P : Program} {w : World} {K : PySem.W.Frag} {mg : Str → Option Value} {base : Heap} (fx : Fx K mg) : OkF P w K mg base "needed" ["books", "moments"] 3 d_needed :=
  okF_M (fx.c.def_ 12 (d := a_needed) rfl) fx.g_needed sc_needed (fun _ _ _ _ _ _ us hl => match us, hl with | [_, _], _ => rfl) fun cdv A outer s H E hr tk hp =>
  (sv_cons (sv_setComp2 (own := [(("moment" : Str), 4), (("some" : Str), 5)]) (vs1 := [5]) rfl sc_needed.nd rfl rfl (sw_true rfl rfl rfl (by decide +kernel)) (iv_seq ev_var) (blkOk_by (N := N_needed) (sc := defScope s_needed) (own := [(("moment" : Str), 4), (("some" : Str), 5)]) (by decide +kernel)) (fun _ _ _ _ _ => (gv_nm sc_needed.nd rfl (by first | exact Or.inl rfl | exact Or.inr rfl))) (fun _ _ _ _ _ => tvs_nil) (fun _ _ _ _ _ => (iv_vals (ev_fnO (ok_files_by fx) hr rfl takes0 (ea_cons ev_var (ea_cons ev_var ea_nil))))) (fun _ _ _ _ _ => (gv_nm sc_needed.nd rfl (by first | exact Or.inl rfl | exact Or.inr rfl))) (fun _ _ _ _ _ => tvs_nil) (fun _ _ _ _ _ => ev_var))
    (sv_cons (sv_asg sc_needed.nd rfl (by first | exact Or.inl rfl | exact Or.inr rfl) (ev_sortSc2M (own := [(("moment" : Str), 4), (("one" : Str), 6)]) (vs1 := [6]) rfl fx.m_sorted rfl sc_needed.nd (iv_seq ev_var) (blkOk_by (N := N_needed) (sc := defScope s_needed) (own := [(("moment" : Str), 4), (("one" : Str), 6)]) (by decide +kernel)) (fun _ _ _ _ _ => (gv_nm sc_needed.nd rfl (by first | exact Or.inl rfl | exact Or.inr rfl))) (fun _ _ _ _ _ => tvs_nil) (fun _ _ _ _ _ => (iv_seq (ev_fnO (ok_chain_of fx) hr rfl takes0 (ea_cons ev_var (ea_cons ev_var ea_nil))))) (fun _ _ _ _ _ => (gv_nm sc_needed.nd rfl (by first | exact Or.inl rfl | exact Or.inr rfl))) (fun _ _ _ _ _ => tvs_nil) (fun _ _ _ _ _ => ev_var)))
    (sv_one (sv_ret (ev_tup (ea_cons ev_var (ea_cons (ev_sortSc2M (own := [(("some" : Str), 5), (("number" : Str), 7)]) (vs1 := [7]) rfl fx.m_sorted rfl sc_needed.nd (iv_seq ev_var) (blkOk_by (N := N_needed) (sc := defScope s_needed) (own := [(("some" : Str), 5), (("number" : Str), 7)]) (by decide +kernel)) (fun _ _ _ _ _ => (gv_nm sc_needed.nd rfl (by first | exact Or.inl rfl | exact Or.inr rfl))) (fun _ _ _ _ _ => tvs_nil) (fun _ _ _ _ _ => (iv_seq ev_var)) (fun _ _ _ _ _ => (gv_nm sc_needed.nd rfl (by first | exact Or.inl rfl | exact Or.inr rfl))) (fun _ _ _ _ _ => tvs_nil) (fun _ _ _ _ _ => ev_var)) ea_nil)))))))
theorem ok_bpieces {P : Program} {w : World} {K : PySem.W.Frag} {mg : Str → Option Value} {base : Heap} (fx : Fx K mg) : OkF P w K mg base "_law_bpieces" ["_law_books", "_law_moment"] 3 d_bpieces :=
  okF_P (fx.c.def_ 13 (d := a_bpieces) rfl) fx.g_bpieces sc_bpieces (fun _ _ _ _ _ _ us hl => match us, hl with | [_, _], _ => rfl) fun cdv A outer s H E hr tk hp =>
  (sv_cons (sv_asg sc_bpieces.nd rfl (by first | exact Or.inl rfl | exact Or.inr rfl) (ev_lst ea_nil))
    (sv_cons (sv_for hp rfl (iv_vals (ev_fnO (ok_files_by fx) hr rfl tk (ea_cons ev_var (ea_cons ev_var ea_nil)))) (gv_nm sc_bpieces.nd rfl (by first | exact Or.inl rfl | exact Or.inr rfl)) (sv_one (sv_asg sc_bpieces.nd rfl (by first | exact Or.inl rfl | exact Or.inr rfl) (ev_op og_add ev_var (ev_callTy (cg_listK rfl) rfl fx.m_list (by decide +kernel) (ea_cons ev_var ea_nil))))))
    (sv_one (sv_ret (ev_sortSetB rfl rfl fx.m_sorted rfl fx.m_set ev_var)))))
theorem ok_book_way {P : Program} {w : World} {K : PySem.W.Frag} {mg : Str → Option Value} {base : Heap} (fx : Fx K mg) : OkF P w K mg base "book_way" ["books", "moments", "moment"] 2 LO.d_book_way :=
  okF_P (fx.c.def_ 14 (d := a_book_way) rfl) fx.g_book_way sc_book_way (fun _ _ _ _ _ _ us hl => match us, hl with | [_, _, _], _ => rfl) fun cdv A outer s H E hr tk hp =>
  (sv_cons (sv_for hp rfl (iv_seq ev_var) (gv_nm sc_book_way.nd rfl (by first | exact Or.inl rfl | exact Or.inr rfl)) (sv_cons (sv_asg sc_book_way.nd rfl (by first | exact Or.inl rfl | exact Or.inr rfl) (ev_fnO (ok_chain_of fx) hr rfl tk (ea_cons ev_var (ea_cons ev_var ea_nil))))
    (sv_one (sv_if (tv_cmp (og_in hr.r.units) ev_var ev_var rfl) (sv_one (sv_ret (ev_sl ev_var pv_none (pv_some (ev_op og_add (ev_idx ev_var (ea_cons ev_var ea_nil)) ev_int))))) sv_nil))))
    (sv_one (sv_ret ev_non)))
theorem ok_piece_way {P : Program} {w : World} {K : PySem.W.Frag} {mg : Str → Option Value} {base : Heap} (fx : Fx K mg) : OkF P w K mg base "piece_way" ["books", "moments", "piece"] 3 LO.d_piece_way :=
  okF_P (fx.c.def_ 15 (d := a_piece_way) rfl) fx.g_piece_way sc_piece_way (fun _ _ _ _ _ _ us hl => match us, hl with | [_, _, _], _ => rfl) fun cdv A outer s H E hr tk hp =>
  (sv_cons (sv_for hp rfl (iv_seq ev_var) (gv_nm sc_piece_way.nd rfl (by first | exact Or.inl rfl | exact Or.inr rfl)) (sv_cons (sv_setComp (own := [(("path" : Str), 5), (("numbers" : Str), 6)]) rfl sc_piece_way.nd rfl rfl (sw_true rfl rfl rfl (by decide +kernel)) (iv_items (ev_fnO (ok_files_by fx) hr rfl tk (ea_cons ev_var (ea_cons ev_var ea_nil)))) (blkOk_by (N := N_piece_way) (sc := defScope s_piece_way) (own := [(("path" : Str), 5), (("numbers" : Str), 6)]) (by decide +kernel)) (fun _ _ _ _ _ => (gv_tp rfl (gv_cons (gv_nm sc_piece_way.nd rfl (by first | exact Or.inl rfl | exact Or.inr rfl)) (gv_cons (gv_nm sc_piece_way.nd rfl (by first | exact Or.inl rfl | exact Or.inr rfl)) gv_nil)))) (fun _ _ _ _ _ => (tvs_one (tv_cmp (og_in hr.r.units) ev_var ev_var rfl))) (fun _ _ _ _ _ => ev_var))
    (sv_one (sv_if (tv_cmp (og_ne hr.r.units) ev_var (ev_lst ea_nil) rfl) (sv_one (sv_ret (ev_tup (ea_cons ev_var (ea_cons (ev_callB (cg_minL rfl hr.r.units) rfl fx.m_min (by decide +kernel) (ea_cons ev_var ea_nil)) ea_nil))))) sv_nil))))
    (sv_one (sv_ret ev_non)))
theorem ok_bclosed {P : Program} {w : World} {K : PySem.W.Frag} {mg : Str → Option Value} {base : Heap} (fx : Fx K mg) : OkF P w K mg base "_law_bclosed" ["_law_books", "_law_some", "_law_told"] 4 d_bclosed :=
  okF_V (fx.c.def_ 16 (d := a_bclosed) rfl) fx.g_bclosed sc_bclosed (fun _ _ _ _ _ _ us hl => match us, hl with | [_, _, _], _ => rfl) fun cdv A outer s H E hr tk hp =>
  (sv_cons (sv_asgT ev_var (gv_tp rfl (gv_cons (gv_nm sc_bclosed.nd rfl (by first | exact Or.inl rfl | exact Or.inr rfl)) (gv_cons (gv_nm sc_bclosed.nd rfl (by first | exact Or.inl rfl | exact Or.inr rfl)) gv_nil))))
    (sv_cons (sv_for hp rfl (iv_seq ev_var) (gv_nm sc_bclosed.nd rfl (by first | exact Or.inl rfl | exact Or.inr rfl)) (sv_cons (sv_asg sc_bclosed.nd rfl (by first | exact Or.inl rfl | exact Or.inr rfl) (ev_fnO (ok_book_way fx) hr rfl tk (ea_cons ev_var (ea_cons ev_var (ea_cons ev_var ea_nil)))))
    (sv_cons (sv_if (tv_cmp (og_ne hr.r.units) (ev_cmp og_isnt ev_var ev_non rfl) (ev_cmp (og_in hr.r.units) ev_var ev_var rfl) rfl) (sv_one (sv_ret ev_bl)) sv_nil)
    (sv_cons (sv_if (tv_w (wv_and (tv_cmp og_isnt ev_var ev_non rfl) (wv_and1 (tv_cmp (og_nin hr.r.units) (ev_ix hr.r.units ev_var ev_int) ev_var rfl)))) (sv_one (sv_ret ev_bl)) sv_nil)
    (sv_one (sv_if (tv_w (wv_and (tv_cmp og_isnt ev_var ev_non rfl) (wv_and1 (tv_cmp (og_ne hr.r.units) (ev_comp (own := [(("_law_one" : Str), 9)]) rfl sc_bclosed.nd (iv_seq ev_var) (blkOk_by (N := N_bclosed) (sc := defScope s_bclosed) (own := [(("_law_one" : Str), 9)]) (by decide +kernel)) (fun _ _ _ _ _ => (gv_nm sc_bclosed.nd rfl (by first | exact Or.inl rfl | exact Or.inr rfl))) (fun _ _ _ _ _ => (tvs_one (tv_cmp (og_nin hr.r.units) ev_var ev_var rfl))) (fun _ _ _ _ _ => ev_var)) (ev_lst ea_nil) rfl)))) (sv_one (sv_ret ev_bl)) sv_nil))))))
    (sv_cons (sv_for hp rfl (iv_seq ev_var) (gv_nm sc_bclosed.nd rfl (by first | exact Or.inl rfl | exact Or.inr rfl)) (sv_cons (sv_if (tv_cmp (og_ne hr.r.units) (ev_comp (own := [(("_law_one" : Str), 9)]) rfl sc_bclosed.nd (iv_seq (ev_fnO (ok_chain_of fx) hr rfl tk (ea_cons ev_var (ea_cons ev_var ea_nil)))) (blkOk_by (N := N_bclosed) (sc := defScope s_bclosed) (own := [(("_law_one" : Str), 9)]) (by decide +kernel)) (fun _ _ _ _ _ => (gv_nm sc_bclosed.nd rfl (by first | exact Or.inl rfl | exact Or.inr rfl))) (fun _ _ _ _ _ => (tvs_one (tv_cmp (og_nin hr.r.units) ev_var ev_var rfl))) (fun _ _ _ _ _ => ev_var)) (ev_lst ea_nil) rfl) (sv_one (sv_ret ev_bl)) sv_nil)
    (sv_one (sv_if (tv_cmp (og_ne hr.r.units) (ev_comp (own := [(("_law_piece" : Str), 7)]) rfl sc_bclosed.nd (iv_seq (ev_fnO (ok_bpieces fx) hr rfl tk (ea_cons ev_var (ea_cons ev_var ea_nil)))) (blkOk_by (N := N_bclosed) (sc := defScope s_bclosed) (own := [(("_law_piece" : Str), 7)]) (by decide +kernel)) (fun _ _ _ _ _ => (gv_nm sc_bclosed.nd rfl (by first | exact Or.inl rfl | exact Or.inr rfl))) (fun _ _ _ _ _ => (tvs_one (tv_cmp (og_nin hr.r.units) ev_var ev_var rfl))) (fun _ _ _ _ _ => ev_var)) (ev_lst ea_nil) rfl) (sv_one (sv_ret ev_bl)) sv_nil))))
    (sv_cons (sv_for hp rfl (iv_seq (ev_sl ev_var pv_none (pv_some ev_int))) (gv_nm sc_bclosed.nd rfl (by first | exact Or.inl rfl | exact Or.inr rfl)) (sv_cons (sv_asg sc_bclosed.nd rfl (by first | exact Or.inl rfl | exact Or.inr rfl) (ev_fnO (ok_piece_way fx) hr rfl tk (ea_cons ev_var (ea_cons ev_var (ea_cons ev_var ea_nil)))))
    (sv_one (sv_if (tv_w (wv_or (tv_cmp og_is ev_var ev_non rfl) (wv_or (tv_cmp (og_nin hr.r.units) (ev_ix hr.r.units ev_var ev_int) ev_var rfl) (wv_or1 (tv_cmp (og_nin hr.r.units) ev_var (ev_ix hr.r.units (ev_fnO (ok_files_by fx) hr rfl tk (ea_cons ev_var (ea_cons (ev_ix hr.r.units ev_var ev_int) ea_nil))) (ev_ix hr.r.units ev_var ev_int)) rfl))))) (sv_one (sv_ret ev_bl)) sv_nil))))
    (sv_one (sv_ret (ev_cmp og_is (ev_fnO (ok_piece_way fx) hr rfl tk (ea_cons ev_var (ea_cons ev_var (ea_cons (ev_op og_pow ev_int ev_int) ea_nil)))) ev_non rfl)))))))
theorem ok_law {P : Program} {w : World} {K : PySem.W.Frag} {mg : Str → Option Value} {base : Heap} (fx : Fx K mg) : OkF P w K mg base "law" ["_law_script"] 8 d_law :=
  okF_N (fx.c.def_ 17 (d := a_law) rfl) fx.g_law sc_law (fun _ _ _ _ _ _ us hl => match us, hl with | [_], _ => rfl) fun cdv A outer s H E hr tk hp =>
  (sv_cons (sv_asg sc_law.nd rfl (by first | exact Or.inl rfl | exact Or.inr rfl) (ev_lstM (ea_cons (ev_callTy (cg_listK rfl) rfl fx.m_list (by decide +kernel) (ea_cons (ev_sl ev_var pv_none (pv_some ev_int)) ea_nil)) (ea_cons ev_int (ea_cons ev_int ea_nil)))))
    (sv_cons (sv_asg sc_law.nd rfl (by first | exact Or.inl rfl | exact Or.inr rfl) (ev_ix hr.r.units (ev_fnO (ok_bbooks fx) hr rfl tk (ea_cons ev_var (ea_cons (ev_op og_add ev_int (ev_fnO (ok_bdraw fx) hr rfl tk (ea_cons ev_var (ea_cons ev_int ea_nil)))) ea_nil))) ev_int))
    (sv_cons (sv_frz (sv_asg sc_law.nd rfl (by first | exact Or.inl rfl | exact Or.inr rfl) (ev_listMK rfl rfl fx.m_list (ea_cons ev_var ea_nil))))
    (sv_cons (sv_asg sc_law.nd rfl (by first | exact Or.inl rfl | exact Or.inr rfl) (ev_lstM ea_nil))
    (sv_cons (sv_asg sc_law.nd rfl (by first | exact Or.inl rfl | exact Or.inr rfl) (ev_fnO (ok_needed fx) hr rfl tk (ea_cons ev_var (ea_cons ev_var ea_nil))))
    (sv_cons (sv_fzV (sv_if (tv_cmp (og_ne hr.r.units) ev_var (ev_tup (ea_cons (ev_lst ea_nil) (ea_cons (ev_lst ea_nil) ea_nil))) rfl) (sv_one (sv_ret ev_bl)) sv_nil))
    (sv_cons (sv_for hp rfl (iv_rng1 rfl fx.m_range (ev_callB (cg_min2 rfl) rfl fx.m_min (by decide +kernel) (ea_cons ev_int (ea_cons (ev_callB cg_len rfl fx.m_len (by decide +kernel) (ea_cons ev_var ea_nil)) ea_nil)))) (gv_nm sc_law.nd rfl (by first | exact Or.inl rfl | exact Or.inr rfl)) (sv_cons (sv_asg sc_law.nd rfl (by first | exact Or.inl rfl | exact Or.inr rfl) (ev_popAt ev_var (ea_cons (ev_fnO (ok_bdraw fx) hr rfl tk (ea_cons ev_var (ea_cons (ev_callB cg_len rfl fx.m_len (by decide +kernel) (ea_cons ev_var ea_nil)) ea_nil))) ea_nil)))
    (sv_cons (sv_asg sc_law.nd rfl (by first | exact Or.inl rfl | exact Or.inr rfl) (ev_fnO (ok_needed fx) hr rfl tk (ea_cons ev_var (ea_cons (ev_op og_add ev_var (ev_lst (ea_cons ev_var ea_nil))) ea_nil))))
    (sv_cons (sv_asg sc_law.nd rfl (by first | exact Or.inl rfl | exact Or.inr rfl) (ev_fnO (ok_needed fx) hr rfl tk (ea_cons ev_var (ea_cons (ev_lst (ea_cons ev_var ea_nil)) ea_nil))))
    (sv_cons (sv_fzV (sv_fzV (sv_for hp rfl (iv_rng1 rfl fx.m_range ev_int) (gv_nm sc_law.nd rfl (by first | exact Or.inl rfl | exact Or.inr rfl)) (sv_one (sv_if (tv_cmp (og_ne hr.r.units) (ev_ix hr.r.units ev_var ev_var) (ev_sortUn rfl rfl fx.m_sorted rfl fx.m_set (ev_ix hr.r.units ev_var ev_var) (ev_ix hr.r.units ev_var ev_var)) rfl) (sv_one (sv_ret ev_bl)) sv_nil)))))
    (sv_cons (sv_if (tv_w (wv_or (tv_cmp (og_ne hr.r.units) (ev_ix hr.r.units ev_var ev_int) (ev_fnO (ok_bpieces fx) hr rfl tk (ea_cons ev_var (ea_cons ev_var ea_nil))) rfl) (wv_or1 (tv_cmp (og_ne hr.r.units) (ev_ix hr.r.units ev_var ev_int) (ev_callB (cg_sortX rfl) rfl fx.m_sorted (by decide +kernel) (ea_cons (ev_fnO (ok_chain_of fx) hr rfl tk (ea_cons ev_var (ea_cons ev_var ea_nil))) ea_nil)) rfl)))) (sv_one (sv_ret ev_bl)) sv_nil)
    (sv_cons (sv_expr (ev_append ev_var (ea_cons ev_var ea_nil)))
    (sv_cons (sv_asg sc_law.nd rfl (by first | exact Or.inl rfl | exact Or.inr rfl) ev_var)
    (sv_one (sv_if (tv_not (tv_val (ev_fnO (ok_bclosed fx) hr rfl tk (ea_cons ev_var (ea_cons ev_var (ea_cons ev_var ea_nil)))))) (sv_one (sv_ret ev_bl)) sv_nil))))))))))
    (sv_one (sv_ret ev_bl)))))))))
end C23
open PySem PySem.W PySem.Calls PyProof.Rows
theorem C23.holds (hlaw : ∀ ns : List Int, ns.length ≤ 63 → ∃ S, C23.d_law [.scr ns] [] = .ok (.bl true) S) : PySem.Challenge.rw_saltvault_k23_whole_ways_and_closed_list.Holds := by
  w_on; o_law
  refine HandSHeadRun.head_any (r := OpenLaw.row PySem.Challenge.rw_saltvault_k23_whole_ways_and_closed_list) (q := C23.vw) (H := C23.hk) (ob := C23.ob) (M := 6000) (loose := C23.lo) (d := HandSHeadRun.topDef (OpenLaw.row PySem.Challenge.rw_saltvault_k23_whole_ways_and_closed_list).prog 23) (kwd := []) C23.ob_eq
    (by kernel_rfl) (fun s => by kernel_rfl) C23.run (by kernel_rfl) (by kernel_rfl) (by kernel_rfl) (by rfl) (by first | assumption | decide +kernel) (by decide +kernel) ⟨rfl, rfl, rfl, rfl, rfl, by decide +kernel⟩ ?hw ?hc
  case hw => w_witness2
  case hc =>
    refine DL.walk_ofG (l := PySem.Challenge.rw_saltvault_k23_whole_ways_and_closed_list) (n := 63) (k := 8) (x := "_law_script") (CX := fun w => L2.CX (PySem.Challenge.rw_saltvault_k23_whole_ways_and_closed_list).prog w) rfl (by decide) (by kernel_rfl) ⟨⟨rfl, by decide, by decide⟩, rfl⟩ ?F (fun w H s e s' z => DL.cx_none H s e s' z)
    intro w mg fa h Y G hmg0
    obtain ⟨K, KX, c⟩ := Y
    have fx : C23.Fx K mg := ⟨c, ⟨h, KX, G⟩⟩
    have hmg : mg ("law" : PySem.Str) = some (.ref fa) := by
      have e : (HandSHeadRun.topDef (OpenLaw.row PySem.Challenge.rw_saltvault_k23_whole_ways_and_closed_list).prog 23).name = ("law" : PySem.Str) := by kernel_rfl
      rw [← e]
      exact hmg0
    have e := hmg.symm.trans fx.g_law
    cases e
    obtain ⟨fd, F⟩ := fx.c.def_ 17 (d := C23.a_law) rfl
    have b := L2.FunD.bindsA (ps := ["_law_script"]) F fun _ _ _ _ _ _ us hl => match us, hl with | [_], _ => rfl
    exact ⟨K, fd, DL.spD K mg 1 C23.d_law, KX, fun s v => b s [v] rfl, fun H a ns hl hO hS => DL.sp_law hlaw H a ns hl hO hS, fun base _ _ => DL.OkF.at_ (C23.ok_law fx) F⟩
theorem PySem.Challenge.cw_saltvault_k23_whole_ways_and_closed_list_holds : PySem.Challenge.rw_saltvault_k23_whole_ways_and_closed_list.Holds := by
  exact C23.holds C23.law_ok
