import PyProof.Rows.All
import Wide.All
import OpenK.AllK
import Wide.FinOn
import PySem.Challenge.RW_floodline_k06_frames_switch_by_switch
import HandS.ForMost
import HandS.HeadHook1
import HandS.Lambda
import HandS.HeadHook4
import HandS.Wide
import KE.DataEq
import KE.KEqDict
import HandS.IsInst
import HandS.SortInts
import HandS.More
import HandS.WordsDict
import HandS.Zip
import HandS.Conv
import HandS.ListItems
import PyProof.ListStr
import HandS.HeadEnd
import HandS.Codes
import HandS.Style
import HandS.Walk
import HandS.DictComp
import HandS.EndTab
import HandS.EndBits
import HandS.Head0
import HandS.HeadHook2
import KE.KDictCopyH
import KE.KDictSum
import PyProof.ReprReads
import PyProof.ReprRoads
import HandS.RaiseMore
import HandS.Defaults
import HandS.TupLe
import HandS.SortRule
import KE.KSortAsk
import KE.KLam
import KE.KSortKey
import PyProof.WalkInts
import PyProof.NeKinds
import KE.KItemsList
import HandS.Text
import HandS.StrMore
import HandS.FStr
import HandS.Finally
import PyProof.StrBlock2
import KE.KStateDown
import HandS.WordsExc
import HandS.Head1
import HandS.Head2
set_option linter.all false
set_option Elab.async false
set_option maxRecDepth 100000
set_option maxHeartbeats 2000000
namespace FL
open PySem PySem.Spec L2

/-! ### data as trees -/
inductive D where
  | non | bl (b : Bool) | int (i : Int) | str (x : Str)
  | lst (xs : List D) | tup (xs : List D)
  | dic (kvs : List (Key × D)) | dit (kvs : List (List Key × D))
/-- what a name holds: frozen data; a list or dict that nobody else holds, its items frozen; an instance -/
inductive T where
  | fz (d : D) | ow (d : D) | ob (c : Str) (fs : List (Str × T)) | mv
  /-- a tuple of frozen data whose last item is a list or dict that nobody else holds -/
  | tl (ds : List D) (d : D)
  /-- a list that nobody else holds, its items lists and dicts that nobody else holds -/
  | ls (ds : List D)
  /-- a frozen dict of lists and dicts that nobody else holds -/
  | dd (es : List (Key × D))
/-- what an expression gives: frozen data; a new thing; the thing that slot i holds; a field of it -/
inductive R where
  | fz (d : D) | nw (t : T) | sl (i : Nat) | sf (i : Nat) (f : Str)
abbrev En := List (Option T)

def T.dat : T → Option D
  | .fz d => some d
  | .ow d => some d
  | .ob _ _ => none
  | .mv => none
  | .tl _ _ => none
  | .ls _ => none
  | .dd _ => none

section
variable (K : PySem.W.Frag) (Z : Hp)
mutual
inductive Rep : V → D → Prop
  | non : Rep .non .non
  | bl (b : Bool) : Rep (.bl b) (.bl b)
  | int (i : Int) : Rep (.int i) (.int i)
  | str (x : Str) : Rep (.str x) (.str x)
  | lst {a : Addr} {vs : List V} {ds : List D} : SqL K Z a vs → RepL vs ds → Rep (.ref a) (.lst ds)
  | tup {a : Addr} {vs : List V} {ds : List D} : Z a = some (.tup vs) → RepL vs ds → Rep (.ref a) (.tup ds)
  | dic {a : Addr} {kvs : List (Key × V)} {kds : List (Key × D)} : Z a = some (.dK kvs) → RepK kvs kds → Rep (.ref a) (.dic kds)
  | dit {a : Addr} {kvs : List (List Key × V)} {kds : List (List Key × D)} : Z a = some (.dT kvs) → RepJ kvs kds → Rep (.ref a) (.dit kds)
inductive RepL : List V → List D → Prop
  | nil : RepL [] []
  | cons {v : V} {d : D} {vs : List V} {ds : List D} : Rep v d → RepL vs ds → RepL (v :: vs) (d :: ds)
inductive RepK : List (Key × V) → List (Key × D) → Prop
  | nil : RepK [] []
  | cons {k : Key} {v : V} {d : D} {vs : List (Key × V)} {ds : List (Key × D)} : Rep v d → RepK vs ds → RepK ((k, v) :: vs) ((k, d) :: ds)
inductive RepJ : List (List Key × V) → List (List Key × D) → Prop
  | nil : RepJ [] []
  | cons {k : List Key} {v : V} {d : D} {vs : List (List Key × V)} {ds : List (List Key × D)} : Rep v d → RepJ vs ds → RepJ ((k, v) :: vs) ((k, d) :: ds)
end
end

/-- what is frozen stands in the heap, perhaps locked -/
def Sub (Z H : Hp) : Prop := ∀ a u, Z a = some u → H a = some u ∨ ((∃ o, H a = some (.frz o u)) ∧ Mut (some u))

section
variable {K : PySem.W.Frag} {Z Z' H H' : Hp}
theorem rd_mono {a : Addr} {u : HO} (s : Same Z Z') (h : Rd Z a u) : Rd Z' a u := by
  rcases h with h | ⟨o, h⟩
  · exact .inl (s _ _ h)
  · exact .inr ⟨o, s _ _ h⟩
theorem sql_mono {a : Addr} {vs : List V} (s : Same Z Z') (h : SqL K Z a vs) : SqL K Z' a vs := h.imp_left (rd_mono s)
theorem sqt_mono {a : Addr} {vs : List V} (s : Same Z Z') (h : SqT K Z a vs) : SqT K Z' a vs := by
  rcases h with (h | ⟨o, h⟩) | h
  · exact .inl (.inl (s _ _ h))
  · exact .inl (.inr ⟨o, s _ _ h⟩)
  · exact .inr h
mutual
theorem Rep.mono (s : Same Z Z') : ∀ {v : V} {d : D}, Rep K Z v d → Rep K Z' v d
  | _, _, .non => .non
  | _, _, .bl b => .bl b
  | _, _, .int i => .int i
  | _, _, .str x => .str x
  | _, _, .lst h r => .lst (sql_mono s h) (RepL.mono s r)
  | _, _, .tup h r => .tup (s _ _ h) (RepL.mono s r)
  | _, _, .dic h r => .dic (s _ _ h) (RepK.mono s r)
  | _, _, .dit h r => .dit (s _ _ h) (RepJ.mono s r)
theorem RepL.mono (s : Same Z Z') : ∀ {v : List V} {d : List D}, RepL K Z v d → RepL K Z' v d
  | _, _, .nil => .nil
  | _, _, .cons h r => .cons (Rep.mono s h) (RepL.mono s r)
theorem RepK.mono (s : Same Z Z') : ∀ {v : List (Key × V)} {d : List (Key × D)}, RepK K Z v d → RepK K Z' v d
  | _, _, .nil => .nil
  | _, _, .cons h r => .cons (Rep.mono s h) (RepK.mono s r)
theorem RepJ.mono (s : Same Z Z') : ∀ {v : List (List Key × V)} {d : List (List Key × D)}, RepJ K Z v d → RepJ K Z' v d
  | _, _, .nil => .nil
  | _, _, .cons h r => .cons (Rep.mono s h) (RepJ.mono s r)
end
theorem sub_l {a : Addr} {u : HO} (s : Sub Z H) (h : Rd Z a u) : Rd H a u := by
  rcases h with h | ⟨o, h⟩
  · rcases s _ _ h with q | ⟨⟨o, q⟩, _⟩
    · exact .inl q
    · exact .inr ⟨o, q⟩
  · rcases s _ _ h with q | ⟨_, m⟩
    · exact .inr ⟨o, q⟩
    · exact m.elim
theorem sub_sq {a : Addr} {vs : List V} (s : Sub Z H) (h : SqL K Z a vs) : SqL K H a vs := h.imp_left (sub_l s)
theorem sub_t {a : Addr} {vs : List V} (s : Sub Z H) (h : SqT K Z a vs) : SqT K H a vs := by
  rcases h with (h | ⟨o, h⟩) | h
  · rcases s _ _ h with q | ⟨⟨o, q⟩, _⟩
    · exact .inl (.inl q)
    · exact .inl (.inr ⟨o, q⟩)
  · rcases s _ _ h with q | ⟨_, m⟩
    · exact .inl (.inr ⟨o, q⟩)
    · exact m.elim
  · exact .inr h
theorem sub_r {a : Addr} {u : HO} (s : Sub Z H) (h : Z a = some u) : Rd H a u := by
  rcases s _ _ h with q | ⟨⟨o, q⟩, _⟩
  · exact .inl q
  · exact .inr ⟨o, q⟩
end

theorem RepL.length {K : PySem.W.Frag} {Z : Hp} : ∀ {v : List V} {d : List D}, RepL K Z v d → v.length = d.length
  | _, _, .nil => rfl
  | _, _, .cons _ r => congrArg (· + 1) (RepL.length r)
theorem RepL.append {K : PySem.W.Frag} {Z : Hp} : ∀ {v w : List V} {d e : List D}, RepL K Z v d → RepL K Z w e → RepL K Z (v ++ w) (d ++ e)
  | _, _, _, _, .nil, s => s
  | _, _, _, _, .cons h r, s => .cons h (RepL.append r s)
theorem RepL.get {K : PySem.W.Frag} {Z : Hp} : ∀ {v : List V} {d : List D} {i : Nat} {x : D}, RepL K Z v d → d[i]? = some x → ∃ y, v[i]? = some y ∧ Rep K Z y x
  | _, _, _, _, .nil, e => by simp at e
  | _, _, 0, _, .cons h r, e => by simp at e; subst e; exact ⟨_, rfl, h⟩
  | _, _, i + 1, _, .cons h r, e => by
    obtain ⟨y, h1, h2⟩ := RepL.get (i := i) r (by simpa using e)
    exact ⟨y, by simpa using h1, h2⟩
theorem RepL.getV {K : PySem.W.Frag} {Z : Hp} : ∀ {v : List V} {d : List D} {i : Nat} {x : V}, RepL K Z v d → v[i]? = some x → ∃ y, d[i]? = some y ∧ Rep K Z x y
  | _, _, _, _, .nil, e => by simp at e
  | _, _, 0, _, .cons h r, e => by simp at e; subst e; exact ⟨_, rfl, h⟩
  | _, _, i + 1, _, .cons h r, e => by
    obtain ⟨y, h1, h2⟩ := RepL.getV (i := i) r (by simpa using e)
    exact ⟨y, by simpa using h1, h2⟩

/-! ### what may be read -/
def RdD (K : PySem.W.Frag) (Z H : Hp) (v : V) : D → Prop
  | .lst ds => ∃ a vs, v = .ref a ∧ SqL K H a vs ∧ RepL K Z vs ds
  | .tup ds => ∃ a vs, v = .ref a ∧ H a = some (.tup vs) ∧ RepL K Z vs ds
  | .dic kds => ∃ a kvs, v = .ref a ∧ Rd H a (.dK kvs) ∧ RepK K Z kvs kds
  | .dit kds => ∃ a kvs, v = .ref a ∧ Rd H a (.dT kvs) ∧ RepJ K Z kvs kds
  | .non => v = .non
  | .bl b => v = .bl b
  | .int i => v = .int i
  | .str x => v = .str x
theorem Rep.rd {K : PySem.W.Frag} {Z H : Hp} {v : V} {d : D} (s : Sub Z H) (h : Rep K Z v d) : RdD K Z H v d := by
  cases h with
  | non => rfl
  | bl => rfl
  | int => rfl
  | str => rfl
  | lst h r => exact ⟨_, _, rfl, sub_sq s h, r⟩
  | tup h r => exact ⟨_, _, rfl, (s _ _ h).elim id fun z => z.2.elim, r⟩
  | dic h r => exact ⟨_, _, rfl, sub_r s h, r⟩
  | dit h r => exact ⟨_, _, rfl, sub_r s h, r⟩

/-- the table of the one def with a lambda, and the lambda's name -/
def lamD : He.Defn := ("law", none)
def lamQ : Str := (("ordered" : Str) ++ (".<locals>." : Str)) ++ ("<lambda>" : Str)
/-- the tables of code objects, and the code objects that they tell -/
def IsTx (o : HO) : Prop := (∃ ps, o = .tbl ps) ∨ ∃ f, o = .ext f
structure TbK (H H' : Hp) : Prop where
  ts : ∀ P, LamX.TabS H P lamQ → LamX.TabS H' P lamQ
  tl : ∀ p ps, H p = some (.tbl ps) → ∃ qs, H' p = some (.tbl qs)
theorem TbK.refl {H : Hp} : TbK H H := ⟨fun _ h => h, fun _ ps h => ⟨ps, h⟩⟩
theorem TbK.trans {H H1 H2 : Hp} (a : TbK H H1) (b : TbK H1 H2) : TbK H H2 := ⟨fun P h => b.ts P (a.ts P h), fun p ps h => by
  obtain ⟨qs, e⟩ := a.tl p ps h
  exact b.tl p qs e⟩
theorem TbK.of {H H' : Hp} (k : ∀ b o, H b = some o → IsTx o → H' b = some o) : TbK H H' := ⟨fun P ⟨ps, h1, h2, h3⟩ =>
  ⟨ps, k _ _ h1 (.inl ⟨ps, rfl⟩), h2, fun pos cv hc => by
    obtain ⟨c, e1, e2⟩ := h3 pos cv hc
    exact ⟨c, e1, k _ _ e2 (.inr ⟨_, rfl⟩)⟩⟩, fun p ps h => ⟨ps, k _ _ h (.inl ⟨ps, rfl⟩)⟩⟩
theorem TbK.ext {H H' : Hp} (k : ∀ b o, H b = some o → H' b = some o) : TbK H H' := .of fun b o h _ => k b o h
theorem TbK.at {H : Hp} {a : Addr} {u w : HO} (h : H a = some u) (n : ¬ IsTx u) : TbK H (upd H a w) := .of fun b o e t => by
  rw [upd_ne (fun z => ?_)]
  · exact e
  · subst z; rw [h] at e; cases e; exact n t
/-- it may be changed, and is no code object -/
def Mu (o : HO) : Prop := Mut (some o) ∧ ¬ IsTx o
theorem Mu.tbl {o : HO} (m : Mu o) : ∀ ps, o ≠ .tbl ps := fun ps e => m.2 (.inl ⟨ps, e⟩)
theorem mu_lst {vs : List V} : Mu (.lst vs) := ⟨True.intro, by rintro (⟨ps, e⟩ | ⟨f, e⟩) <;> cases e⟩
theorem mu_dK {vs : List (Key × V)} : Mu (.dK vs) := ⟨True.intro, by rintro (⟨ps, e⟩ | ⟨f, e⟩) <;> cases e⟩
theorem mu_dT {vs : List (List Key × V)} : Mu (.dT vs) := ⟨True.intro, by rintro (⟨ps, e⟩ | ⟨f, e⟩) <;> cases e⟩
theorem mu_ins {C dx : Addr} {fs : List (Str × V)} : Mu (.ins C dx fs) := ⟨True.intro, by rintro (⟨ps, e⟩ | ⟨f, e⟩) <;> cases e⟩
/-! ### what is owned -/
def OwTop (K : PySem.W.Frag) (Z H : Hp) (a : Addr) : D → Prop
  | .lst ds => ∃ vs, H a = some (.lst vs) ∧ RepL K Z vs ds
  | .dic kds => ∃ kvs, H a = some (.dK kvs) ∧ RepK K Z kvs kds
  | .dit kds => ∃ kvs, H a = some (.dT kvs) ∧ RepJ K Z kvs kds
  | _ => False
def Own1 (K : PySem.W.Frag) (Z H : Hp) (v : V) (t : T) (l : List Addr) : Prop := match t with
  | .fz d => Rep K Z v d ∧ l = []
  | .ow d => ∃ a, v = .ref a ∧ l = [a] ∧ Z a = none ∧ OwTop K Z H a d
  | .ob _ _ => False
  | .tl _ _ => False
  | .ls _ => False
  | .dd _ => False
  | .mv => l = []
inductive OwnF (K : PySem.W.Frag) (Z H : Hp) : List (Str × V) → List (Str × T) → List Addr → Prop
  | nil : OwnF K Z H [] [] []
  | cons {f : Str} {v : V} {t : T} {l ls : List Addr} {fv : List (Str × V)} {fs : List (Str × T)} : Own1 K Z H v t l → OwnF K Z H fv fs ls → (∀ p ∈ l, p ∉ ls) → OwnF K Z H ((f, v) :: fv) ((f, t) :: fs) (l ++ ls)
inductive OwnI (K : PySem.W.Frag) (Z H : Hp) : List V → List D → List Addr → Prop
  | nil : OwnI K Z H [] [] []
  | cons {q : Addr} {d : D} {vs : List V} {ds : List D} {ls : List Addr} : Z q = none → OwTop K Z H q d → q ∉ ls → OwnI K Z H vs ds ls → OwnI K Z H (V.ref q :: vs) (d :: ds) (q :: ls)
inductive OwnE (K : PySem.W.Frag) (Z H : Hp) : List (Key × V) → List (Key × D) → List Addr → Prop
  | nil : OwnE K Z H [] [] []
  | cons {k : Key} {q : Addr} {d : D} {vs : List (Key × V)} {ds : List (Key × D)} {ls : List Addr} : Z q = none → OwTop K Z H q d → q ∉ ls → OwnE K Z H vs ds ls → OwnE K Z H ((k, V.ref q) :: vs) ((k, d) :: ds) (q :: ls)
def OwnT (K : PySem.W.Frag) (Z H : Hp) (v : V) (t : T) (l : List Addr) : Prop := match t with
  | .ob c fs => ∃ a dx fv ls, v = V.ref a ∧ l = a :: ls ∧ Z a = none ∧ a ∉ ls ∧ H a = some (.ins (He.ga K c) dx fv) ∧ OwnF K Z H fv fs ls
  | .tl ds d => ∃ a vs q, v = V.ref a ∧ l = [q] ∧ Z a = some (.tup (vs ++ [V.ref q])) ∧ RepL K Z vs ds ∧ Z q = none ∧ OwTop K Z H q d
  | .ls ds => ∃ a vs ls, v = V.ref a ∧ l = a :: ls ∧ Z a = none ∧ a ∉ ls ∧ H a = some (.lst vs) ∧ OwnI K Z H vs ds ls
  | .dd es => ∃ a kvs, v = V.ref a ∧ Z a = some (.dK kvs) ∧ OwnE K Z H kvs es l
  | .fz d => Own1 K Z H v (.fz d) l
  | .ow d => Own1 K Z H v (.ow d) l
  | .mv => l = []

section
variable {K : PySem.W.Frag} {Z Z' H H' : Hp} {v : V} {t : T} {l : List Addr}
theorem OwTop.mono {a : Addr} {d : D} (s : Same Z Z') (e : ∀ o, H a = some o → H' a = some o) (h : OwTop K Z H a d) : OwTop K Z' H' a d := by
  cases d with
  | lst ds => obtain ⟨vs, h1, h2⟩ := h; exact ⟨vs, e _ h1, h2.mono s⟩
  | dic ds => obtain ⟨vs, h1, h2⟩ := h; exact ⟨vs, e _ h1, h2.mono s⟩
  | dit ds => obtain ⟨vs, h1, h2⟩ := h; exact ⟨vs, e _ h1, h2.mono s⟩
  | _ => exact h.elim
theorem OwTop.there {a : Addr} {d : D} (h : OwTop K Z H a d) : ∃ o, H a = some o ∧ Mu o := by
  cases d with
  | lst ds => obtain ⟨vs, h1, h2⟩ := h; exact ⟨_, h1, mu_lst⟩
  | dic ds => obtain ⟨vs, h1, h2⟩ := h; exact ⟨_, h1, mu_dK⟩
  | dit ds => obtain ⟨vs, h1, h2⟩ := h; exact ⟨_, h1, mu_dT⟩
  | _ => exact h.elim
theorem Own1.mono (s : Same Z Z') (e : ∀ p ∈ l, ∀ o, H p = some o → H' p = some o) (z : ∀ p ∈ l, Z' p = none) (h : Own1 K Z H v t l) : Own1 K Z' H' v t l := by
  cases t with
  | fz d => exact ⟨h.1.mono s, h.2⟩
  | ow d =>
    obtain ⟨a, rfl, rfl, z0, q⟩ := h
    exact ⟨a, rfl, rfl, z a (by simp), q.mono s (e a (by simp))⟩
  | mv => exact (show l = [] from h)
  | ob c fs => exact h.elim
  | tl ds d => exact h.elim
  | ls _ => exact h.elim
  | dd _ => exact h.elim
theorem Own1.there (h : Own1 K Z H v t l) : ∀ p ∈ l, (∃ o, H p = some o ∧ Mu o) ∧ Z p = none := by
  cases t with
  | fz d => intro p hp; rw [h.2] at hp; cases hp
  | ow d =>
    obtain ⟨a, rfl, rfl, z0, q⟩ := h
    intro p hp
    have e : p = a := by simpa using hp
    subst e
    exact ⟨q.there, z0⟩
  | mv => intro p hp; rw [(show l = [] from h)] at hp; cases hp
  | ob c fs => exact h.elim
  | tl ds d => exact h.elim
  | ls _ => exact h.elim
  | dd _ => exact h.elim
theorem OwnF.mono (s : Same Z Z') : ∀ {fv : List (Str × V)} {fs : List (Str × T)} {l : List Addr}, (∀ p ∈ l, ∀ o, H p = some o → H' p = some o) → (∀ p ∈ l, Z' p = none) → OwnF K Z H fv fs l → OwnF K Z' H' fv fs l
  | _, _, _, _, _, .nil => .nil
  | _, _, _, e, z, .cons h r n => .cons (h.mono s (fun p hp => e p (List.mem_append_left _ hp)) fun p hp => z p (List.mem_append_left _ hp)) (OwnF.mono s (fun p hp => e p (List.mem_append_right _ hp)) (fun p hp => z p (List.mem_append_right _ hp)) r) n
theorem OwnF.there : ∀ {fv : List (Str × V)} {fs : List (Str × T)} {l : List Addr}, OwnF K Z H fv fs l → ∀ p ∈ l, (∃ o, H p = some o ∧ Mu o) ∧ Z p = none
  | _, _, _, .nil => fun p hp => by cases hp
  | _, _, _, .cons h r n => fun p hp => (List.mem_append.mp hp).elim (h.there p) (r.there p)
theorem OwnI.mono (s : Same Z Z') : ∀ {vs : List V} {ds : List D} {l : List Addr}, (∀ p ∈ l, ∀ o, H p = some o → H' p = some o) → (∀ p ∈ l, Z' p = none) → OwnI K Z H vs ds l → OwnI K Z' H' vs ds l
  | _, _, _, _, _, .nil => .nil
  | _, _, _, e, z, .cons _ h n r => .cons (z _ List.mem_cons_self) (h.mono s (e _ List.mem_cons_self)) n (OwnI.mono s (fun p hp => e p (List.mem_cons_of_mem _ hp)) (fun p hp => z p (List.mem_cons_of_mem _ hp)) r)
theorem OwnI.there : ∀ {vs : List V} {ds : List D} {l : List Addr}, OwnI K Z H vs ds l → ∀ p ∈ l, (∃ o, H p = some o ∧ Mu o) ∧ Z p = none
  | _, _, _, .nil => fun p hp => by cases hp
  | _, _, _, .cons z h _ r => fun p hp => (List.mem_cons.mp hp).elim (fun e => e ▸ ⟨h.there, z⟩) (OwnI.there r p)
theorem OwnE.mono (s : Same Z Z') : ∀ {vs : List (Key × V)} {ds : List (Key × D)} {l : List Addr}, (∀ p ∈ l, ∀ o, H p = some o → H' p = some o) → (∀ p ∈ l, Z' p = none) → OwnE K Z H vs ds l → OwnE K Z' H' vs ds l
  | _, _, _, _, _, .nil => .nil
  | _, _, _, e, z, .cons _ h n r => .cons (z _ List.mem_cons_self) (h.mono s (e _ List.mem_cons_self)) n (OwnE.mono s (fun p hp => e p (List.mem_cons_of_mem _ hp)) (fun p hp => z p (List.mem_cons_of_mem _ hp)) r)
theorem OwnE.there : ∀ {vs : List (Key × V)} {ds : List (Key × D)} {l : List Addr}, OwnE K Z H vs ds l → ∀ p ∈ l, (∃ o, H p = some o ∧ Mu o) ∧ Z p = none
  | _, _, _, .nil => fun p hp => by cases hp
  | _, _, _, .cons z h _ r => fun p hp => (List.mem_cons.mp hp).elim (fun e => e ▸ ⟨h.there, z⟩) (OwnE.there r p)
theorem OwnT.mono (s : Same Z Z') (e : ∀ p ∈ l, ∀ o, H p = some o → H' p = some o) (z : ∀ p ∈ l, Z' p = none) (h : OwnT K Z H v t l) : OwnT K Z' H' v t l := by
  cases t with
  | fz d => exact Own1.mono (t := .fz d) s e z h
  | ow d => exact Own1.mono (t := .ow d) s e z h
  | mv => exact (show l = [] from h)
  | tl ds d =>
    obtain ⟨a, vs, q, rfl, rfl, h1, h2, z0, o⟩ := h
    exact ⟨a, vs, q, rfl, rfl, s _ _ h1, h2.mono s, z q (by simp), o.mono s (e q (by simp))⟩
  | dd es =>
    obtain ⟨a, kvs, rfl, h1, h2⟩ := h
    exact ⟨a, kvs, rfl, s _ _ h1, h2.mono s e z⟩
  | ls ds =>
    obtain ⟨a, vs, ls, rfl, rfl, z0, na, h1, h2⟩ := h
    exact ⟨a, vs, ls, rfl, rfl, z a (by simp), na, e a (by simp) _ h1, h2.mono s (fun p hp => e p (List.mem_cons_of_mem _ hp)) fun p hp => z p (List.mem_cons_of_mem _ hp)⟩
  | ob c fs =>
    obtain ⟨a, dx, fv, ls, rfl, rfl, z0, na, q, f⟩ := h
    exact ⟨a, dx, fv, ls, rfl, rfl, z a (by simp), na, e a (by simp) _ q, f.mono s (fun p hp => e p (List.mem_cons_of_mem _ hp)) fun p hp => z p (List.mem_cons_of_mem _ hp)⟩
theorem OwnT.there (h : OwnT K Z H v t l) : ∀ p ∈ l, (∃ o, H p = some o ∧ Mu o) ∧ Z p = none := by
  cases t with
  | fz d => exact Own1.there (t := .fz d) h
  | ow d => exact Own1.there (t := .ow d) h
  | mv => intro p hp; rw [(show l = [] from h)] at hp; cases hp
  | tl ds d =>
    obtain ⟨a, vs, q, rfl, rfl, h1, h2, z0, o⟩ := h
    intro p hp
    have e : p = q := by simpa using hp
    subst e
    exact ⟨o.there, z0⟩
  | dd es =>
    obtain ⟨a, kvs, rfl, h1, h2⟩ := h
    exact h2.there
  | ls ds =>
    obtain ⟨a, vs, ls, rfl, rfl, z0, na, h1, h2⟩ := h
    intro p hp
    rcases List.mem_cons.mp hp with e | hp
    · subst e; exact ⟨⟨_, h1, mu_lst⟩, z0⟩
    · exact h2.there p hp
  | ob c fs =>
    obtain ⟨a, dx, fv, ls, rfl, rfl, z0, na, q, f⟩ := h
    intro p hp
    rcases List.mem_cons.mp hp with e | hp
    · subst e; exact ⟨⟨_, q, mu_ins⟩, z0⟩
    · exact f.there p hp
end

/-! ### the state -/
def SlotOk (K : PySem.W.Frag) (Z H : Hp) : Option V → Option T → List Addr → Prop
  | none, none, l => l = []
  | some v, some t, l => OwnT K Z H v t l
  | _, _, _ => False
/-- nothing frozen is a table -/
def NoT (Z : Hp) : Prop := ∀ a ps, Z a ≠ some (.tbl ps)
theorem NoT.upd {Z : Hp} (n : NoT Z) {p : Addr} {o : HO} (h : ∀ ps, o ≠ .tbl ps) : NoT (upd Z p o) := fun a ps e => by
  by_cases c : a = p
  · rw [c, upd_same] at e; exact h ps (Option.some.inj e)
  · rw [upd_ne c] at e; exact n a ps e
structure Tz (K : PySem.W.Frag) (Z H : Hp) : Prop where
  ts : LamX.TabS H (He.cT K lamD).2 lamQ
  no : NoT Z
structure Good (K : PySem.W.Frag) (Z H : Hp) (σ : St) (ρ : En) (fp : Nat → List Addr) : Prop where
  len : σ.length = ρ.length
  sub : Sub Z H
  slot : ∀ i, SlotOk K Z H (σ.getD i none) (ρ.getD i none) (fp i)
  disj : ∀ i j p, p ∈ fp i → p ∈ fp j → i = j
  tz : Tz K Z H
def E (fp : Nat → List Addr) (p : Addr) : Prop := ∃ i, p ∈ fp i
/-- the fields of an instance only get more -/
def Grow (H H' : Hp) : Prop := ∀ a C dx fv, H a = some (.ins C dx fv) → ∃ fv', H' a = some (.ins C dx fv') ∧ ∀ f v, fv.lookup f = some v → fv'.lookup f = some v
theorem Grow.refl {H : Hp} : Grow H H := fun _ _ _ fv e => ⟨fv, e, fun _ _ h => h⟩
theorem Grow.trans {H H1 H2 : Hp} (a : Grow H H1) (b : Grow H1 H2) : Grow H H2 := fun x C dx fv e => by
  obtain ⟨fv1, e1, h1⟩ := a x C dx fv e
  obtain ⟨fv2, e2, h2⟩ := b x C dx fv1 e1
  exact ⟨fv2, e2, fun f v h => h2 f v (h1 f v h)⟩
theorem Grow.same {H H' : Hp} (h : ∀ p o, H p = some o → H' p = some o) : Grow H H' := fun a C dx fv e => ⟨fv, h _ _ e, fun _ _ h => h⟩
structure Post (Z H : Hp) (A : Addr → Prop) (Z' H' : Hp) (A' : Addr → Prop) : Prop where
  zz : Same Z Z'
  fr : ∀ p o, H p = some o → ¬ A p → (∀ ps, o ≠ .tbl ps) → H' p = some o
  nw : ∀ p, A' p → A p ∨ H p = none
  zn : ∀ p o, Z' p = some o → Z p = some o ∨ A p ∨ H p = none
  ic : Grow H H'
  tb : TbK H H'
section
variable {Z Z1 Z2 H H1 H2 : Hp} {A A1 A2 : Addr → Prop}
theorem Post.refl : Post Z H A Z H A := ⟨Same.refl _, fun _ _ h _ _ => h, fun _ h => .inl h, fun _ _ h => .inl h, Grow.refl, TbK.refl⟩
theorem Post.none_back (a : Post Z H A Z1 H1 A1) {p : Addr} (h : H1 p = none) : A p ∨ H p = none := by
  by_cases q : A p
  · exact .inl q
  · cases e : H p with
    | none => exact .inr rfl
    | some o =>
      by_cases t : ∃ ps, o = .tbl ps
      · obtain ⟨ps, rfl⟩ := t
        obtain ⟨qs, e2⟩ := a.tb.tl p ps e
        rw [e2] at h; cases h
      · rw [a.fr p o e q fun ps z => t ⟨ps, z⟩] at h; cases h
theorem Post.trans (a : Post Z H A Z1 H1 A1) (b : Post Z1 H1 A1 Z2 H2 A2) : Post Z H A Z2 H2 A2 where
  zz := a.zz.trans b.zz
  fr := fun p o h n t => b.fr p o (a.fr p o h n t) (fun q => by
    rcases a.nw p q with r | r
    · exact n r
    · rw [h] at r; cases r) t
  nw := fun p h => by
    rcases b.nw p h with r | r
    · exact a.nw p r
    · exact a.none_back r
  zn := fun p o h => by
    rcases b.zn p o h with r | r | r
    · exact a.zn p o r
    · exact .inr (a.nw p r)
    · exact .inr (a.none_back r)
  ic := a.ic.trans b.ic
  tb := a.tb.trans b.tb
theorem Post.weak {B : Addr → Prop} (a : Post Z H A Z1 H1 A1) (h : ∀ p, B p → A1 p) : Post Z H A Z1 H1 B := ⟨a.zz, a.fr, fun p q => a.nw p (h p q), a.zn, a.ic, a.tb⟩
theorem Post.wide {B B' : Addr → Prop} (a : Post Z H A Z1 H1 A1) (h : ∀ p, A p → B p) (h' : ∀ p, B' p → A1 p ∨ B p) : Post Z H B Z1 H1 B' :=
  ⟨a.zz, fun p o e n t => a.fr p o e (fun q => n (h p q)) t, fun p q => (h' p q).elim (fun r => (a.nw p r).imp_left (h p)) .inl, fun p o q => (a.zn p o q).imp_right fun r => r.imp_left (h p), a.ic, a.tb⟩
end

/-! ### what an expression gives -/
def lookF (fs : List (Str × T)) (f : Str) : Option T := (fs.find? fun q => q.1 == f).map (·.2)
def peek (ρ : En) : R → Option D
  | .fz d => some d
  | .nw t => t.dat
  | .sl i => (ρ.getD i none).bind T.dat
  | .sf i f => match ρ.getD i none with
    | some (.ob _ fs) => (fs.lookup f).bind T.dat
    | _ => none
def RR (K : PySem.W.Frag) (Z H : Hp) (σ : St) (v : V) (r : R) (l : List Addr) : Prop := match r with
  | .fz d => Rep K Z v d ∧ l = []
  | .nw t => OwnT K Z H v t l
  | .sl i => σ.getD i none = some v ∧ l = []
  | .sf i f => (∃ a C dx fv, σ.getD i none = some (V.ref a) ∧ H a = some (HO.ins C dx fv) ∧ fv.lookup f = some v) ∧ l = []
section
variable {K : PySem.W.Frag} {Z Z' H H' : Hp} {σ : St} {ρ ρ' : En} {fp fp' : Nat → List Addr} {v : V} {r : R} {l : List Addr} {A A' : Addr → Prop}
theorem RR.there (h : RR K Z H σ v r l) : ∀ p ∈ l, (∃ o, H p = some o ∧ Mu o) ∧ Z p = none := by
  cases r with
  | fz d => intro p hp; rw [h.2] at hp; cases hp
  | nw t => exact OwnT.there (t := t) h
  | sl i => intro p hp; rw [h.2] at hp; cases hp
  | sf i f => intro p hp; rw [h.2] at hp; cases hp
/-- what was given stays while other things are done -/
theorem RR.stay (h : RR K Z H σ v r l) (n : ∀ p ∈ l, ¬ A p) (P : Post Z H A Z' H' A') : RR K Z' H' σ v r l ∧ ∀ p ∈ l, ¬ A' p := by
  have t := h.there
  have hn : ∀ p ∈ l, ¬ A' p := fun p hp q => by
    obtain ⟨⟨o, e, _⟩, _⟩ := t p hp
    rcases P.nw p q with r | r
    · exact n p hp r
    · rw [e] at r; cases r
  refine ⟨?_, hn⟩
  cases r with
  | fz d => exact ⟨h.1.mono P.zz, h.2⟩
  | nw t' =>
    refine OwnT.mono (t := t') P.zz (fun p hp o e => P.fr p o e (n p hp) (by
      obtain ⟨⟨o2, e2, m⟩, _⟩ := t p hp
      rw [e] at e2; cases e2
      exact m.tbl)) (fun p hp => ?_) h
    obtain ⟨⟨o, e, _⟩, z⟩ := t p hp
    cases q : Z' p with
    | none => rfl
    | some u =>
      rcases P.zn p u q with r | r | r
      · rw [z] at r; cases r
      · exact absurd r (n p hp)
      · rw [e] at r; cases r
  | sl i => exact (show _ ∧ _ from h)
  | sf i f =>
    obtain ⟨⟨a, C, dx, fv, e1, e2, e3⟩, e4⟩ := h
    obtain ⟨fv', e5, e6⟩ := P.ic _ _ _ _ e2
    exact ⟨⟨a, C, dx, fv', e1, e5, e6 _ _ e3⟩, e4⟩
theorem OwTop.rd {a : Addr} {d : D} (h : OwTop K Z H a d) : RdD K Z H (.ref a) d := by
  cases d with
  | lst ds => obtain ⟨vs, h1, h2⟩ := h; exact ⟨a, vs, rfl, SqL.of h1, h2⟩
  | dic ds => obtain ⟨vs, h1, h2⟩ := h; exact ⟨a, vs, rfl, Rd.of h1, h2⟩
  | dit ds => obtain ⟨vs, h1, h2⟩ := h; exact ⟨a, vs, rfl, Rd.of h1, h2⟩
  | _ => exact h.elim
theorem Own1.rd {t : T} {d : D} (s : Sub Z H) (h : Own1 K Z H v t l) (e : t.dat = some d) : RdD K Z H v d := by
  cases t with
  | fz d' => cases e; exact h.1.rd s
  | ow d' => cases e; obtain ⟨a, rfl, rfl, z0, q⟩ := h; exact q.rd
  | ob c fs => cases e
  | mv => cases e
  | tl ds d => cases e
  | ls _ => cases e
  | dd _ => cases e
theorem OwnT.rd {t : T} {d : D} (s : Sub Z H) (h : OwnT K Z H v t l) (e : t.dat = some d) : RdD K Z H v d := by
  cases t with
  | fz d' => exact Own1.rd (t := .fz d') s h e
  | ow d' => exact Own1.rd (t := .ow d') s h e
  | ob c fs => cases e
  | mv => cases e
  | tl ds d => cases e
  | ls _ => cases e
  | dd _ => cases e
theorem OwnF.get : ∀ {fv : List (Str × V)} {fs : List (Str × T)} {l : List Addr} {f : Str} {t : T}, OwnF K Z H fv fs l → fs.lookup f = some t → ∃ v l', fv.lookup f = some v ∧ Own1 K Z H v t l' ∧ ∀ p ∈ l', p ∈ l
  | _, _, _, f, t, .nil, h => by cases h
  | _, _, _, f, t, .cons (f := g) (v := v) (t := t') (l := l0) h r n, e => by
    rw [List.lookup_cons] at e
    rw [List.lookup_cons]
    cases q : (f == g) with
    | true =>
      rw [q] at e
      cases e
      exact ⟨v, l0, rfl, h, fun p hp => List.mem_append_left _ hp⟩
    | false =>
      rw [q] at e
      obtain ⟨v', l', e1, e2, e3⟩ := OwnF.get r e
      exact ⟨v', l', e1, e2, fun p hp => List.mem_append_right _ (e3 p hp)⟩
theorem Good.at (g : Good K Z H σ ρ fp) {i : Nat} {t : T} (e : ρ.getD i none = some t) : ∃ v, σ.getD i none = some v ∧ OwnT K Z H v t (fp i) := by
  have q := g.slot i
  rw [e] at q
  cases s : σ.getD i none with
  | none => rw [s] at q; exact q.elim
  | some v => rw [s] at q; exact ⟨v, rfl, q⟩
theorem peek_ok {d : D} (g : Good K Z H σ ρ fp) (h : RR K Z H σ v r l) (e : peek ρ r = some d) : RdD K Z H v d := by
  cases r with
  | fz d' => cases e; exact h.1.rd g.sub
  | nw t => exact OwnT.rd (t := t) g.sub h e
  | sl i =>
    have e' : (ρ.getD i none).bind T.dat = some d := e
    cases q : ρ.getD i none with
    | none => rw [q] at e'; cases e'
    | some t =>
      rw [q] at e'
      obtain ⟨v', e1, o⟩ := g.at q
      rw [h.1] at e1
      cases e1
      exact o.rd g.sub e'
  | sf i f =>
    have e' : (match ρ.getD i none with
      | some (.ob _ fs) => (fs.lookup f).bind T.dat
      | _ => none) = some d := e
    cases q : ρ.getD i none with
    | none => rw [q] at e'; cases e'
    | some t =>
      rw [q] at e'
      cases t with
      | fz _ => cases e'
      | ow _ => cases e'
      | mv => cases e'
      | tl _ _ => cases e'
      | ls _ => cases e'
      | dd _ => cases e'
      | ob c fs =>
        obtain ⟨v', e1, a, dx, fv, ls, rfl, e2, z0, na, hh, F⟩ := g.at q
        obtain ⟨⟨a', C, dx', fv', e3, e4, e5⟩, _⟩ := h
        rw [e3] at e1
        cases e1
        rw [e4] at hh
        cases hh
        have e6 : (fs.lookup f).bind T.dat = some d := e'
        cases w : fs.lookup f with
        | none => rw [w] at e6; cases e6
        | some t =>
          rw [w] at e6
          obtain ⟨v2, l', k1, k2, k3⟩ := F.get w
          rw [e5] at k1
          cases k1
          exact k2.rd g.sub e6
end
end FL

set_option Elab.async false
set_option maxRecDepth 100000
set_option maxHeartbeats 2000000
namespace FL
open PySem PySem.Spec L2

/-! ### operations on data -/
def all2 {α β : Type} (f : α → β → Bool) : List α → List β → Bool
  | [], [] => true
  | x :: xs, y :: ys => f x y && all2 f xs ys
  | _, _ => false
def dfind {κ : Type} [DecidableEq κ] (kvs : List (κ × D)) (k : κ) : Option D := (kvs.find? fun kv => decide (kv.1 = k)).map (·.2)
def dput {κ : Type} [DecidableEq κ] (kvs : List (κ × D)) (k : κ) (v : D) : List (κ × D) :=
  if (kvs.any fun kv => decide (kv.1 = k)) = true then kvs.map fun kv => if kv.1 = k then (kv.1, v) else kv else kvs ++ [(k, v)]
/-- no dict within, nested at most n deep -/
def flat : Nat → D → Bool
  | _, .non | _, .bl _ | _, .int _ | _, .str _ => true
  | n + 1, .lst xs => xs.all (flat n)
  | n + 1, .tup xs => xs.all (flat n)
  | _, _ => false
def eqF : Nat → D → D → Bool
  | _, .non, .non => true
  | _, .bl a, .bl b => a == b
  | _, .bl a, .int j => (if a then 1 else 0) == j
  | _, .int i, .bl b => i == (if b then 1 else 0)
  | _, .int i, .int j => i == j
  | _, .str x, .str y => x == y
  | n + 1, .lst xs, .lst ys => all2 (eqF n) xs ys
  | n + 1, .tup xs, .tup ys => all2 (eqF n) xs ys
  | _, _, _ => false
def flatV (kvs : List (Key × D)) : Bool := kvs.all fun p => flat 40 p.2
def eqK (ks ls : List (Key × D)) : Bool := ks.length == ls.length && ks.all fun p => match dfind ls p.1 with
  | some d => eqF 40 p.2 d
  | none => false
/-- == as the programs use it: data without dicts; two dicts of such -/
def eqT : D → D → Option Bool
  | .dic ks, .dic ls => if flatV ks ∧ flatV ls then some (eqK ks ls) else none
  | d, e => if flat 40 d ∧ flat 40 e then some (eqF 40 d e) else none
/-- no list or dict within -/
def stab : Nat → D → Bool
  | _, .non | _, .bl _ | _, .int _ | _, .str _ => true
  | n + 1, .tup xs => xs.all (stab n)
  | _, _ => false
def bigE : Nat := 100000
@[irreducible] def big : Nat := 2 ^ bigE
def keyOf : D → Option Key
  | .int i => some (.inl i)
  | .str x => some (.inr x)
  | _ => none
def keysOf : List D → Option (List Key)
  | [] => some []
  | d :: ds => do
    let k ← keyOf d
    let ks ← keysOf ds
    some (k :: ks)
def dOf : Key → D
  | .inl i => .int i
  | .inr x => .str x
/-- the place of an index -/
def ixOf (n : Nat) (i : Int) : Option Nat := if 0 ≤ i then (if i < n then some i.toNat else none) else if 0 ≤ i + n then some (i + n).toNat else none
def charsOf (x : Str) : List D := x.cps.toList.map fun c => .str ⟨#[c]⟩

inductive B2 where
  | add | sub | mul | fdv | mod | pow | eq | ne | lt | le | gt | ge | isin | notin
def lexLt : List D → List D → Option Bool
  | [], [] => some false
  | [], _ :: _ => some true
  | _ :: _, [] => some false
  | .int i :: xs, .int j :: ys => if i = j then lexLt xs ys else some (decide (i < j))
  | .str x :: xs, .str y :: ys => if x = y then lexLt xs ys else some (decide (x.cps.toList < y.cps.toList))
  | _, _ => none
def bR (b : Bool) : Option R := some (.fz (.bl b))
def addD : D → D → Option R
  | .int i, .int j => some (.fz (.int (i + j)))
  | .str x, .str y => if x.length + y.length ≤ sizeLine then some (.fz (.str (x ++ y))) else none
  | .lst xs, .lst ys => if xs.length + ys.length ≤ sizeLine then some (.nw (.ow (.lst (xs ++ ys)))) else none
  | _, _ => none
def mulD : D → D → Option R
  | .int i, .int j => if i.natAbs < big ∧ j.natAbs < big then some (.fz (.int (i * j))) else none
  | _, _ => none
def inD : D → D → Option Bool
  | .str c, .str z => match c.cps.toList with
    | [n] => some (decide (n ∈ z.cps.toList))
    | _ => none
  | d, .lst xs => if flat 40 d ∧ xs.all (flat 40) then some (xs.any fun x => eqF 40 x d) else none
  | d, .tup xs => if flat 40 d ∧ xs.all (flat 40) then some (xs.any fun x => eqF 40 x d) else none
  | d, .dic kvs => (keyOf d).map fun k => (dfind kvs k).isSome
  | .tup ds, .dit kvs => (keysOf ds).map fun k => (dfind kvs k).isSome
  | _, _ => none
def op2 : B2 → D → D → Option R
  | .add, x, y => addD x y
  | .sub, .int i, .int j => some (.fz (.int (i - j)))
  | .mul, x, y => mulD x y
  | .fdv, .int i, .int j => if 0 < j ∧ j.natAbs < 2 ^ 256 then some (.fz (.int (i / j))) else none
  | .mod, .int i, .int j => if 0 < j then some (.fz (.int (i % j))) else none
  | .eq, x, y => (eqT x y).bind bR
  | .ne, x, y => (eqT x y).bind fun b => bR (!b)
  | .pow, .int i, .int j => if 0 ≤ j ∧ j ≤ 1000 ∧ i.natAbs < 2 ^ 32 then some (.fz (.int (i ^ j.toNat))) else none
  | .lt, .int i, .int j => bR (decide (i < j))
  | .le, .int i, .int j => bR (decide (i ≤ j))
  | .gt, .int i, .int j => bR (decide (j < i))
  | .ge, .int i, .int j => bR (decide (j ≤ i))
  | .isin, x, y => (inD x y).bind bR
  | .notin, x, y => (inD x y).bind fun b => bR (!b)
  | _, _, _ => none

/-! ### builtins of one argument -/
inductive B1 where
  | len | abs | sorted | list | dict | tuple | sum | all | any | int | lenset | neg | itemsL | valuesL | keysL | sortedV | sortedI | str | repr | rev
def lenD : D → Option Nat
  | .str x => some x.length
  | .lst xs => some xs.length
  | .tup xs => some xs.length
  | .dic kvs => some kvs.length
  | .dit kvs => some kvs.length
  | _ => none

/-! ### places, freezing -/
inductive Pl where
  | s (i : Nat) | f (i : Nat) (x : Str)
def frz (ρ : En) : R → Option (D × En)
  | .fz d => some (d, ρ)
  | .nw t => t.dat.map fun d => (d, ρ)
  | .sl i => match ρ.getD i none with
    | some (.fz d) => some (d, ρ)
    | some (.ow d) => some (d, ρ.set i (some (.fz d)))
    | _ => none
  | .sf _ _ => none
def plGet (ρ : En) : Pl → Option D
  | .s i => match ρ.getD i none with
    | some (.ow d) => some d
    | _ => none
  | .f i x => match ρ.getD i none with
    | some (.ob _ fs) => match fs.lookup x with
      | some (.ow d) => some d
      | _ => none
    | _ => none
def fput : List (Str × T) → Str → T → List (Str × T)
  | [], _, _ => []
  | q :: r, x, t => if (x == q.1) = true then (q.1, t) :: r else q :: fput r x t
def plSet (ρ : En) (d : D) : Pl → En
  | .s i => ρ.set i (some (.ow d))
  | .f i x => match ρ.getD i none with
    | some (.ob c fs) => ρ.set i (some (.ob c (fput fs x (.ow d))))
    | _ => ρ
end FL

set_option Elab.async false
set_option maxRecDepth 100000
set_option maxHeartbeats 2000000
namespace FL
open PySem PySem.Spec L2

abbrev Sm := En → Option (R × En)
/-- what must hold behind an expression that gives r -/
def Kt (K : PySem.W.Frag) (Z H : Hp) (fp : Nat → List Addr) (σ : St) (ρ' : En) (r : R) (Q : VK) : Prop :=
  ∀ Z' H' v fp' l, Good K Z' H' σ ρ' fp' → RR K Z' H' σ v r l → (∀ p ∈ l, ¬ E fp' p) → Post Z H (E fp) Z' H' (fun p => E fp' p ∨ p ∈ l) → Q v H'
/-- the reading of an expression whose meaning is F -/
def tE (K : PySem.W.Frag) (F : Sm) : TE := fun σ H Q => ∃ Z ρ fp r ρ', Good K Z H σ ρ fp ∧ F ρ = some (r, ρ') ∧ Kt K Z H fp σ ρ' r Q
/-- a reading that asks less -/
theorem pe_weak {X : Cx} {e : Expr} {t t' : TE} (h : PE X e t) (w : ∀ σ H Q, t' σ H Q → t σ H Q) : PE X e t' := ⟨fun pins s σ H Q I q => h.run pins s σ H Q I (w σ H Q q)⟩

/-! ### how results come -/
inductive Out (K : PySem.W.Frag) (Z H : Hp) : R → V → Hp → Prop
  | same {v : V} {d : D} : Rep K Z v d → Out K Z H (.fz d) v H
  | new {p : Addr} {o : HO} {d : D} : H p = none → OwTop K Z (upd H p o) p d → Out K Z H (.nw (.ow d)) (.ref p) (upd H p o)
  | tup {p : Addr} {vs : List V} {ds : List D} : H p = none → RepL K Z vs ds → Out K Z H (.fz (.tup ds)) (.ref p) (upd H p (.tup vs))
section
variable {K : PySem.W.Frag} {Z H H' : Hp} {σ : St} {ρ : En} {fp : Nat → List Addr} {p : Addr} {o : HO}
theorem upd_keep {H : Hp} {p : Addr} {o : HO} (h : H p = none) : ∀ q u, H q = some u → upd H p o q = some u := fun q u e => by rw [upd_ne (ne_of_none e h)]; exact e
theorem Good.mono {Z' : Hp} (g : Good K Z H σ ρ fp) (s : Same Z Z') (sub : Sub Z' H') (t : TbK H H') (n : NoT Z') (e : ∀ q u, E fp q → H q = some u → H' q = some u) (z : ∀ q, E fp q → Z' q = none) : Good K Z' H' σ ρ fp := by
  refine ⟨g.len, sub, fun i => ?_, g.disj, ⟨t.ts _ g.tz.ts, n⟩⟩
  have q := g.slot i
  cases h1 : σ.getD i none with
  | none =>
    rw [h1] at q
    cases h2 : ρ.getD i none with
    | none => rw [h2] at q; exact q
    | some t => rw [h2] at q; exact q.elim
  | some v =>
    rw [h1] at q
    cases h2 : ρ.getD i none with
    | none => rw [h2] at q; exact q.elim
    | some t => rw [h2] at q; exact OwnT.mono s (fun x hx u eu => e x u ⟨i, hx⟩ eu) (fun x hx => z x ⟨i, hx⟩) q
theorem Good.there (g : Good K Z H σ ρ fp) {q : Addr} (h : E fp q) : (∃ o, H q = some o ∧ Mu o) ∧ Z q = none := by
  obtain ⟨i, hi⟩ := h
  have k := g.slot i
  cases h1 : σ.getD i none with
  | none =>
    rw [h1] at k
    cases h2 : ρ.getD i none with
    | none => rw [h2] at k; rw [(show fp i = [] from k)] at hi; cases hi
    | some t => rw [h2] at k; exact k.elim
  | some v =>
    rw [h1] at k
    cases h2 : ρ.getD i none with
    | none => rw [h2] at k; exact k.elim
    | some t => rw [h2] at k; exact OwnT.there k q hi
theorem Sub.new (s : Sub Z H) (h : H p = none) : Sub Z (upd H p o) := fun a u e => by
  rcases s a u e with q | ⟨⟨w, q⟩, m⟩
  · exact .inl (upd_keep h _ _ q)
  · exact .inr ⟨⟨w, upd_keep h _ _ q⟩, m⟩
theorem Sub.none (s : Sub Z H) (h : H p = none) : Z p = none := by
  cases e : Z p with
  | none => rfl
  | some u =>
    rcases s p u e with q | ⟨⟨w, q⟩, m⟩
    · rw [h] at q; cases q
    · rw [h] at q; cases q
/-- a new thing -/
theorem Good.new (g : Good K Z H σ ρ fp) (h : H p = none) : Good K Z (upd H p o) σ ρ fp :=
  g.mono (Same.refl _) (g.sub.new h) (.ext (upd_keep h)) g.tz.no (fun _ _ _ e => upd_keep h _ _ e) fun _ q => (g.there q).2
/-- .. that is frozen -/
theorem Good.newZ (g : Good K Z H σ ρ fp) (h : H p = none) (nt : ∀ ps, o ≠ .tbl ps) : Good K (upd Z p o) (upd H p o) σ ρ fp := by
  have hz : Z p = Option.none := g.sub.none h
  refine g.mono (upd_keep hz) (fun a u e => ?_) (.ext (upd_keep h)) (g.tz.no.upd nt) (fun _ _ _ e => upd_keep h _ _ e) fun q hq => ?_
  · by_cases hb : a = p
    · subst hb; rw [upd_same] at e; cases e; exact .inl upd_same
    · rw [upd_ne hb] at e
      exact (g.sub.new h) a u e
  · obtain ⟨⟨w, e, _⟩, z⟩ := g.there hq
    rw [upd_ne (ne_of_none e h)]
    exact z
theorem Post.new {A : Addr → Prop} (h : H p = none) : Post Z H A Z (upd H p o) (fun q => A q ∨ q ∈ [p]) :=
  ⟨Same.refl _, fun q u e _ _ => upd_keep h _ _ e, fun q e => e.imp_right fun r => (by rw [List.mem_singleton.mp r]; exact h), fun _ _ e => .inl e, .same fun _ _ e => upd_keep h _ _ e, .ext (upd_keep h)⟩
theorem Post.newZ {A : Addr → Prop} (hz : Z p = none) (h : H p = none) : Post Z H A (upd Z p o) (upd H p o) A :=
  ⟨upd_keep hz, fun q u e _ _ => upd_keep h _ _ e, fun q e => .inl e, fun q u e => by
    by_cases hb : q = p
    · subst hb; exact .inr (.inr h)
    · rw [upd_ne hb] at e; exact .inl e, .same fun _ _ e => upd_keep h _ _ e, .ext (upd_keep h)⟩
end
section
variable {K : PySem.W.Frag} {Z H Z2 H2 H' : Hp} {σ : St} {ρ : En} {fp fp2 : Nat → List Addr} {A : Addr → Prop} {r : R} {Q : VK} {v : V}
theorem kt_out (k : Kt K Z H fp σ ρ r Q) (g : Good K Z2 H2 σ ρ fp2) (P : Post Z H (E fp) Z2 H2 A) (hA : ∀ p, E fp2 p → A p) (o : Out K Z2 H2 r v H') : Q v H' := by
  have P' : Post Z H (E fp) Z2 H2 (E fp2) := P.weak hA
  cases o with
  | same h => exact k _ _ _ _ [] g ⟨h, rfl⟩ (fun p hp => by cases hp) (P'.weak fun p q => q.elim id fun z => by cases z)
  | @new p o d hn ho =>
    refine k _ _ _ fp2 [p] (g.new hn) ⟨p, rfl, rfl, g.sub.none hn, ho⟩ (fun q hq => ?_) (P'.trans (Post.new hn))
    have e : q = p := by simpa using hq
    rw [e]
    intro z
    obtain ⟨⟨w, e, _⟩, _⟩ := g.there z
    rw [hn] at e
    cases e
  | @tup p vs ds hn hr =>
    have hz : Z2 p = none := g.sub.none hn
    refine k _ _ _ fp2 [] (g.newZ (o := .tup vs) hn fun ps z => by cases z) ⟨.tup upd_same (hr.mono (upd_keep hz)), rfl⟩ (fun q hq => by cases hq) ((P'.trans (Post.newZ hz hn)).weak fun p q => q.elim id fun z => by cases z)
end

/-! ### operations by data -/
def OpD (X : Cx) (f : Value → Value → Sem Value) (g : D → D → Option R) : Prop :=
  ∀ (pins : List (Addr × Obj)) (s : Shared) (σ : St) (H : Hp) (x y : V) (v u : Value) (Q : VK) (Z : Hp) (dx dy : D) (r : R), Inv X pins σ H s → RelV x v → RelV y u → Sub Z H → RdD X.K Z H x dx → RdD X.K Z H y dy → g dx dy = some r →
    (∀ z H', Out X.K Z H r z H' → Q z H') → wpAny (model X.prog X.w) X.A (f v u) (EP X pins σ Q) X.xe s
/-- the result of two things evaluated one after the other -/
def two (Fa Fb : Sm) : En → Option (R × R × En) := fun ρ => (Fa ρ).bind fun p => (Fb p.2).bind fun q => some (p.1, q.1, q.2)
def bin (g : D → D → Option R) (Fa Fb : Sm) : Sm := fun ρ => (two Fa Fb ρ).bind fun p => (peek p.2.2 p.1).bind fun x => (peek p.2.2 p.2.1).bind fun y => (g x y).map fun r => (r, p.2.2)
theorem two_some {Fa Fb : Sm} {ρ ρ2 : En} {r1 r2 : R} (h : two Fa Fb ρ = some (r1, r2, ρ2)) : ∃ ρ1, Fa ρ = some (r1, ρ1) ∧ Fb ρ1 = some (r2, ρ2) := by
  unfold two at h
  obtain ⟨⟨a, ρ1⟩, h1, h⟩ := Option.bind_eq_some_iff.mp h
  obtain ⟨⟨b, ρ2'⟩, h2, h⟩ := Option.bind_eq_some_iff.mp h
  cases h
  exact ⟨ρ1, h1, h2⟩
theorem bin_some {g : D → D → Option R} {Fa Fb : Sm} {ρ ρ2 : En} {r : R} (h : bin g Fa Fb ρ = some (r, ρ2)) : ∃ r1 r2 x y, two Fa Fb ρ = some (r1, r2, ρ2) ∧ peek ρ2 r1 = some x ∧ peek ρ2 r2 = some y ∧ g x y = some r := by
  unfold bin at h
  obtain ⟨⟨r1, r2, ρ2'⟩, h1, h⟩ := Option.bind_eq_some_iff.mp h
  obtain ⟨x, h2, h⟩ := Option.bind_eq_some_iff.mp h
  obtain ⟨y, h3, h⟩ := Option.bind_eq_some_iff.mp h
  obtain ⟨r', h4, e⟩ := Option.map_eq_some_iff.mp h
  cases e
  exact ⟨r1, r2, x, y, h1, h2, h3, h4⟩
section
variable {K : PySem.W.Frag} {Z H : Hp} {σ : St} {ρ ρ2 : En} {fp : Nat → List Addr} {Fa Fb : Sm} {r1 r2 : R}
theorem two_go (g : Good K Z H σ ρ fp) (h : two Fa Fb ρ = some (r1, r2, ρ2)) {k : V → V → Hp → Prop}
    (c : ∀ Z' H' v1 v2 fp' l1 l2, Good K Z' H' σ ρ2 fp' → RR K Z' H' σ v1 r1 l1 → RR K Z' H' σ v2 r2 l2 → (∀ p ∈ l1, ¬ (E fp' p ∨ p ∈ l2)) → (∀ p ∈ l2, ¬ E fp' p) → Post Z H (E fp) Z' H' (fun p => (E fp' p ∨ p ∈ l2) ∨ p ∈ l1) → k v1 v2 H') :
    tE K Fa σ H fun x H1 => tE K Fb σ H1 fun y H2 => k x y H2 := by
  obtain ⟨ρ1, e1, e2⟩ := two_some h
  refine ⟨Z, ρ, fp, r1, ρ1, g, e1, fun Z1 H1 v1 fp1 l1 g1 R1 n1 P1 => ⟨Z1, ρ1, fp1, r2, ρ2, g1, e2, fun Z2 H2 v2 fp2 l2 g2 R2 n2 P2 => ?_⟩⟩
  obtain ⟨R1', n1'⟩ := R1.stay n1 P2
  refine c Z2 H2 v1 v2 fp2 l1 l2 g2 R1' R2 n1' n2 (P1.trans (P2.wide (fun p q => .inl q) fun p q => ?_))
  exact q.elim .inl fun z => .inr (.inr z)
theorem se_bin {X : Cx} {op : Operator} {gg : D → D → Option R} {a b : Expr} {pos : Pos} (hop : OpD X (binaryOp op) gg) (ha : PE X a (tE X.K Fa)) (hb : PE X b (tE X.K Fb)) : PE X (.BinOp a op b pos) (tE X.K (bin gg Fa Fb)) := by
  refine pe_weak (pe_op (r := fun x y H Q => ∃ Z dx dy r, Sub Z H ∧ RdD X.K Z H x dx ∧ RdD X.K Z H y dy ∧ gg dx dy = some r ∧ ∀ z H', Out X.K Z H r z H' → Q z H') (fun pins s σ H x y v u Q I rx ry ⟨Z, dx, dy, r, q1, q2, q3, q4, q5⟩ => hop pins s σ H x y v u Q Z dx dy r I rx ry q1 q2 q3 q4 q5) ha hb) ?_
  rintro σ H Q ⟨Z, ρ, fp, r, ρ2, g, h, k⟩
  obtain ⟨r1, r2, x, y, h1, h2, h3, h4⟩ := bin_some h
  refine two_go g h1 fun Z' H' v1 v2 fp' l1 l2 g' R1 R2 n1 n2 P => ⟨Z', x, y, r, g'.sub, peek_ok g' R1 h2, peek_ok g' R2 h3, h4, fun z H'' o => ?_⟩
  exact kt_out k g' P (fun p q => .inl (.inl q)) o
end

/-! ### operators -/
theorem add_any {prog : Program} {w : World} {A : Around} {E : Value → Shared → Prop} {s : Shared} {l b : Addr} {vs ws : List Value} {Q : Value → Shared → Prop} (hl : PlainL s.heap l vs.toArray) (hb : PlainL s.heap b ws.toArray)
    (h : Q (.ref s.heap.objs.size) { s with heap := s.heap.push { cls := .type "list", data := .seq (vs ++ ws).toArray } }) (hz : vs.length + ws.length ≤ sizeLine) : wpAny (model prog w) A (binaryOp .Add (.ref l) (.ref b)) Q E s := by
  obtain ⟨⟨c1, d1, x1, sl1⟩, n1, h1, e1, e2, e3⟩ := hl
  obtain ⟨⟨c2, d2, x2, sl2⟩, n2, h2, e4, e5, e6⟩ := hb
  simp only at e1 e2 e3 e4 e5 e6
  subst e1 e2 e3 e4 e5 e6
  have ec : vs.toArray ++ ws.toArray = (vs ++ ws).toArray := by simp
  rw [← ec] at h
  exact PySem.concat_meets ⟨_, h1, rfl⟩ ⟨_, h2, rfl⟩ PySem.noFill_list_add PySem.seq_list_add PySem.F.slot_list_add PySem.F.entry_list_add (PySem.F.args_list_add_2 _ _) (PyProof.Rows.list_addW l b vs.toArray ws.toArray n1 n2 none none sl1 sl2 (by simpa using hz)) ⟨h1, h2, h⟩
section
variable {X : Cx}
theorem opd_sub : OpD X (binaryOp .Sub) (op2 .sub) := by
  intro pins s σ H x y v u Q Z dx dy r I rx ry sb hx hy e q
  cases dx <;> cases dy <;> try (cases e; done)
  rename_i i j
  have hx' : x = .int i := hx
  have hy' : y = .int j := hy
  cases e
  exact op_sub pins s σ H x y v u Q I rx ry ⟨i, j, hx', hy', q _ _ (.same (.int _))⟩
theorem opd_add : OpD X (binaryOp .Add) (op2 .add) := by
  intro pins s σ H x y v u Q Z dx dy r I rx ry sb hx hy e q
  cases dx <;> cases dy <;> try (cases e; done)
  · rename_i i j
    have hx' : x = .int i := hx
    have hy' : y = .int j := hy
    cases e
    exact op_add pins s σ H x y v u Q I rx ry ⟨i, j, hx', hy', q _ _ (.same (.int _))⟩
  · rename_i i j
    have hx' : x = .str i := hx
    have hy' : y = .str j := hy
    have e' : (if i.length + j.length ≤ sizeLine then some (R.fz (.str (i ++ j))) else none) = some r := e
    by_cases hz : i.length + j.length ≤ sizeLine
    · rw [if_pos hz] at e'
      cases e'
      exact op_add_str pins s σ H x y v u Q I rx ry ⟨i, j, hx', hy', hz, q _ _ (.same (.str _))⟩
    · rw [if_neg hz] at e'; cases e'
  · rename_i ds es
    have e' : (if ds.length + es.length ≤ sizeLine then some (R.nw (.ow (.lst (ds ++ es)))) else none) = some r := e
    by_cases hz : ds.length + es.length ≤ sizeLine
    · rw [if_pos hz] at e'
      cases e'
      obtain ⟨a, vs, rfl, ra, la⟩ := hx
      obtain ⟨b, ws, rfl, rb, lb⟩ := hy
      cases rx
      cases ry
      obtain ⟨its, rv, pa, z1⟩ := I.list ra
      obtain ⟨its2, rv2, pb, z2⟩ := I.list rb
      have hl1 := RepL.length la
      have hl2 := RepL.length lb
      have hv1 := rv.length
      have hv2 := rv2.length
      refine add_any pa pb ?_ (by omega)
      refine ⟨.ref _, _, I.lnew (t' := s.toks) (rv.append rv2) (by rw [List.length_append]; omega), rfl, q _ _ (.new I.fresh ⟨vs ++ ws, upd_same, la.append lb⟩)⟩
    · rw [if_neg hz] at e'; cases e'
end
end FL

set_option Elab.async false
set_option maxRecDepth 100000
set_option maxHeartbeats 2000000
namespace FL
open PySem PySem.Spec L2

/-! ### freezing -/
theorem getD_set {α : Type} (l : List (Option α)) (i j : Nat) (x : Option α) : (l.set i x).getD j none = if i = j ∧ i < l.length then x else l.getD j none := by
  rw [List.getD_eq_getElem?_getD, List.getElem?_set, List.getD_eq_getElem?_getD]
  by_cases h : i = j
  · subst h
    by_cases hl : i < l.length
    · simp [hl]
    · simp [hl]
  · simp [h]
theorem lt_of_getD {α : Type} {l : List (Option α)} {i : Nat} {x : α} (h : l.getD i none = some x) : i < l.length := by
  by_cases hl : i < l.length
  · exact hl
  · rw [List.getD_eq_getElem?_getD, List.getElem?_eq_none (by omega)] at h; cases h
section
variable {K : PySem.W.Frag} {Z Z' H H' : Hp} {σ : St} {ρ ρ' : En} {fp fp' : Nat → List Addr} {v : V} {r : R} {l : List Addr} {d : D} {a : Addr}
theorem OwTop.rep {o : HO} (e : H a = some o) (hz : Z a = none) (h : OwTop K Z H a d) : Rep K (upd Z a o) (.ref a) d := by
  have k := upd_keep (o := o) hz
  cases d with
  | lst ds => obtain ⟨vs, h1, h2⟩ := h; rw [e] at h1; cases h1; exact .lst (SqL.of upd_same) (h2.mono k)
  | dic ds => obtain ⟨vs, h1, h2⟩ := h; rw [e] at h1; cases h1; exact .dic upd_same (h2.mono k)
  | dit ds => obtain ⟨vs, h1, h2⟩ := h; rw [e] at h1; cases h1; exact .dit upd_same (h2.mono k)
  | _ => exact h.elim
theorem Sub.frz {o : HO} (s : Sub Z H) (e : H a = some o) : Sub (upd Z a o) H := fun b u h => by
  by_cases hb : b = a
  · subst hb; rw [upd_same] at h; cases h; exact .inl e
  · rw [upd_ne hb] at h; exact s b u h
/-- slot i takes another content, of a part of its cells or of cells that are nobody's -/
theorem Good.put (g : Good K Z H σ ρ fp) {i : Nat} {w : V} {t : T} {m : List Addr} (hi : i < ρ.length) (h : OwnT K Z H w t m) (n : ∀ p ∈ m, p ∈ fp i ∨ ¬ E fp p) : Good K Z H (σ.set i (some w)) (ρ.set i (some t)) (fun j => if j = i then m else fp j) := by
  refine ⟨by rw [List.length_set, List.length_set]; exact g.len, g.sub, fun j => ?_, fun j k p h1 h2 => ?_, g.tz⟩
  · rw [getD_set, getD_set]
    by_cases e : i = j
    · rw [if_pos ⟨e, by rw [g.len]; exact hi⟩, if_pos ⟨e, hi⟩, if_pos e.symm]
      exact h
    · rw [if_neg (fun q => e q.1), if_neg (fun q => e q.1), if_neg (fun q => e q.symm)]
      exact g.slot j
  · have key : ∀ j, p ∈ (if j = i then m else fp j) → (j = i ∧ p ∈ m) ∨ (j ≠ i ∧ p ∈ fp j) := fun j hj => by
      by_cases e : j = i
      · rw [if_pos e] at hj; exact .inl ⟨e, hj⟩
      · rw [if_neg e] at hj; exact .inr ⟨e, hj⟩
    rcases key j h1 with ⟨ej, pj⟩ | ⟨ej, pj⟩ <;> rcases key k h2 with ⟨ek, pk⟩ | ⟨ek, pk⟩
    · rw [ej, ek]
    · rcases n p pj with q | q
      · exact absurd (g.disj _ _ p q pk).symm ek
      · exact absurd ⟨k, pk⟩ q
    · rcases n p pk with q | q
      · exact absurd (g.disj _ _ p q pj).symm ej
      · exact absurd ⟨j, pj⟩ q
    · exact g.disj j k p pj pk
theorem E_put {i : Nat} {m : List Addr} {p : Addr} (h : E (fun j => if j = i then m else fp j) p) : p ∈ m ∨ E fp p := by
  obtain ⟨j, hj⟩ := h
  by_cases e : j = i
  · have hj' : p ∈ (if j = i then m else fp j) := hj
    rw [if_pos e] at hj'; exact .inl hj'
  · have hj' : p ∈ (if j = i then m else fp j) := hj
    rw [if_neg e] at hj'; exact .inr ⟨j, hj'⟩
theorem getD_set_same (h : σ.getD i none = some v) : σ.set i (some v) = σ := by
  apply List.ext_getElem?
  intro j
  rw [List.getElem?_set]
  by_cases e : i = j
  · subst e
    have hl := lt_of_getD h
    rw [if_pos rfl, if_pos hl]
    rw [List.getD_eq_getElem?_getD] at h
    cases q : σ[i]? with
    | none => rw [q] at h; cases h
    | some z => rw [q] at h; exact congrArg some h.symm
  · rw [if_neg e]
theorem frz_ok (g : Good K Z H σ ρ fp) (h : RR K Z H σ v r l) (n : ∀ p ∈ l, ¬ E fp p) (e : frz ρ r = some (d, ρ')) :
    ∃ Z' fp', Good K Z' H σ ρ' fp' ∧ Rep K Z' v d ∧ Post Z H (fun p => E fp p ∨ p ∈ l) Z' H (E fp') := by
  cases r with
  | fz d' =>
    cases e
    exact ⟨Z, fp, g, h.1, Post.refl.weak fun p q => .inl q⟩
  | nw t =>
    cases t with
    | fz d' =>
      cases e
      exact ⟨Z, fp, g, (show Rep K Z v d ∧ l = [] from h).1, Post.refl.weak fun p q => .inl q⟩
    | ob c fs => cases e
    | mv => cases e
    | tl _ _ => cases e
    | ls _ => cases e
    | dd _ => cases e
    | ow d' =>
      cases e
      obtain ⟨a, rfl, rfl, hz, q⟩ := (show ∃ a, v = .ref a ∧ l = [a] ∧ Z a = none ∧ OwTop K Z H a d from h)
      obtain ⟨o, ho, mo⟩ := q.there
      have k := upd_keep (o := o) hz
      refine ⟨upd Z a o, fp, g.mono k (g.sub.frz ho) .refl (g.tz.no.upd mo.tbl) (fun _ _ _ e => e) (fun p hp => ?_), q.rep ho hz, ⟨k, fun _ _ e _ _ => e, fun p hp => .inl (.inl hp), fun p u hu => ?_, ?_, .refl⟩⟩
      · have : p ≠ a := fun z => n a (by simp) (z ▸ hp)
        rw [upd_ne this]; exact (g.there hp).2
      · by_cases hb : p = a
        · exact .inr (.inl (.inr (by simp [hb])))
        · rw [upd_ne hb] at hu; exact .inl hu
      · exact Grow.refl
  | sl i =>
    have e' : (match ρ.getD i none with
      | some (.fz d) => some (d, ρ)
      | some (.ow d) => some (d, ρ.set i (some (.fz d)))
      | _ => none) = some (d, ρ') := e
    cases q : ρ.getD i none with
    | none => rw [q] at e'; cases e'
    | some t =>
      rw [q] at e'
      obtain ⟨w, hw, o⟩ := g.at q
      rw [h.1] at hw
      cases hw
      cases t with
      | ob c fs => cases e'
      | mv => cases e'
      | tl _ _ => cases e'
      | ls _ => cases e'
      | dd _ => cases e'
      | fz d' =>
        cases e'
        exact ⟨Z, fp, g, (show Rep K Z v d ∧ _ from o).1, Post.refl.weak fun p q => .inl q⟩
      | ow d' =>
        cases e'
        obtain ⟨a, rfl, hl, hz, q2⟩ := (show ∃ a, v = .ref a ∧ fp i = [a] ∧ Z a = none ∧ OwTop K Z H a d from o)
        obtain ⟨ob, ho, mo⟩ := q2.there
        have k := upd_keep (o := ob) hz
        have rp := q2.rep ho hz
        have g1 := g.put (i := i) (w := .ref a) (t := .ow d) (m := fp i) (lt_of_getD q) o (fun p hp => .inl hp)
        -- the slot without its cell
        have g2 : Good K (upd Z a ob) H (σ.set i (some (.ref a))) (ρ.set i (some (.fz d))) (fun j => if j = i then [] else fp j) := by
          refine ⟨by rw [List.length_set, List.length_set]; exact g.len, g.sub.frz ho, fun j => ?_, fun j k p h1 h2 => ?_, ⟨g.tz.ts, g.tz.no.upd mo.tbl⟩⟩
          · rw [getD_set, getD_set]
            by_cases e : i = j
            · rw [if_pos ⟨e, by rw [g.len]; exact lt_of_getD q⟩, if_pos ⟨e, lt_of_getD q⟩, if_pos e.symm]
              exact ⟨rp, rfl⟩
            · rw [if_neg (fun q => e q.1), if_neg (fun q => e q.1), if_neg (fun q => e q.symm)]
              have sl := g.slot j
              have na : a ∉ fp j := fun z => e (g.disj i j a (by rw [hl]; simp) z)
              cases h1 : σ.getD j none with
              | none =>
                rw [h1] at sl
                cases h2 : ρ.getD j none with
                | none => rw [h2] at sl; exact sl
                | some t => rw [h2] at sl; exact sl.elim
              | some x =>
                rw [h1] at sl
                cases h2 : ρ.getD j none with
                | none => rw [h2] at sl; exact sl.elim
                | some t =>
                  rw [h2] at sl
                  exact OwnT.mono k (fun _ _ _ e => e) (fun p hp => by
                    rw [upd_ne (fun z => na (by rw [← z]; exact hp))]
                    exact (OwnT.there sl p hp).2) sl
          · have key : ∀ j, p ∈ (if j = i then [] else fp j) → p ∈ fp j := fun j hj => by
              by_cases e : j = i
              · rw [if_pos e] at hj; cases hj
              · rw [if_neg e] at hj; exact hj
            exact g.disj j k p (key j h1) (key k h2)
        rw [getD_set_same h.1] at g2
        refine ⟨_, _, g2, rp, ⟨k, fun _ _ e _ _ => e, fun p hp => .inl (.inl ((E_put hp).elim (fun z => by cases z) id)), fun p u hu => ?_, Grow.refl, .refl⟩⟩
        by_cases hb : p = a
        · exact .inr (.inl (.inl ⟨i, by rw [hl, hb]; simp⟩))
        · rw [upd_ne hb] at hu; exact .inl hu
  | sf i f => cases e
end

/-! ### several things, from the left -/
def seqs : List Sm → En → Option (List R × En)
  | [], ρ => some ([], ρ)
  | F :: Fs, ρ => (F ρ).bind fun p => (seqs Fs p.2).bind fun q => some (p.1 :: q.1, q.2)
inductive RRs (K : PySem.W.Frag) (Z H : Hp) (σ : St) : List V → List R → List Addr → Prop
  | nil : RRs K Z H σ [] [] []
  | cons {v : V} {r : R} {l ls : List Addr} {vs : List V} {rs : List R} : RR K Z H σ v r l → RRs K Z H σ vs rs ls → (∀ p ∈ l, p ∉ ls) → RRs K Z H σ (v :: vs) (r :: rs) (l ++ ls)
def tA (K : PySem.W.Frag) (Fs : List Sm) : TA := fun σ H Q => ∃ Z ρ fp rs ρ', Good K Z H σ ρ fp ∧ seqs Fs ρ = some (rs, ρ') ∧
  ∀ Z' H' vs fp' l, Good K Z' H' σ ρ' fp' → RRs K Z' H' σ vs rs l → (∀ p ∈ l, ¬ E fp' p) → Post Z H (E fp) Z' H' (fun p => E fp' p ∨ p ∈ l) → Q vs H'
theorem pa_weak {X : Cx} {es : List Expr} {t t' : TA} (h : PA X es t) (w : ∀ σ H Q, t' σ H Q → t σ H Q) : PA X es t' := ⟨fun pos pins s σ H Q I q => h.run pos pins s σ H Q I (w σ H Q q)⟩
def notStar : Expr → Bool
  | .Starred _ _ => false
  | _ => true
theorem star_ok {X : Cx} {e : Expr} {es : List Expr} (h : notStar e = true) : starEach (e :: es) X.env = (false, eval e X.env) :: starEach es X.env := by
  cases e <;> first | rfl | cases h
theorem sa_nil {X : Cx} : PA X [] (tA X.K []) := pa_weak pa_nil fun σ H Q ⟨Z, ρ, fp, rs, ρ', g, e, k⟩ => by
  cases e
  exact k Z H [] fp [] g .nil (fun p hp => by cases hp) (Post.refl.weak fun p q => q.elim id fun z => by cases z)
theorem sa_cons {X : Cx} {e : Expr} {es : List Expr} {F : Sm} {Fs : List Sm} (hs : notStar e = true) (he : PE X e (tE X.K F)) (hr : PA X es (tA X.K Fs)) : PA X (e :: es) (tA X.K (F :: Fs)) := pa_weak (pa_cons he hr (star_ok hs)) fun σ H Q ⟨Z, ρ, fp, rs, ρ', g, h, k⟩ => by
  obtain ⟨⟨r1, ρ1⟩, h1, h⟩ := Option.bind_eq_some_iff.mp h
  obtain ⟨⟨rs', ρ2⟩, h2, h⟩ := Option.bind_eq_some_iff.mp h
  · cases h
    refine ⟨Z, ρ, fp, r1, ρ1, g, h1, fun Z1 H1 v1 fp1 l1 g1 R1 n1 P1 => ⟨Z1, ρ1, fp1, rs', ρ2, g1, h2, fun Z2 H2 vs fp2 l2 g2 R2 n2 P2 => ?_⟩⟩
    obtain ⟨R1', n1'⟩ := R1.stay n1 P2
    refine k Z2 H2 _ fp2 (l1 ++ l2) g2 (.cons R1' R2 fun p hp z => n1' p hp (.inr z)) (fun p hp => (List.mem_append.mp hp).elim (fun z w => n1' p z (.inl w)) (n2 p)) (P1.trans (P2.wide (fun p q => .inl q) fun p q => ?_))
    rcases q with q | q
    · exact .inl (.inl q)
    · exact (List.mem_append.mp q).elim (fun z => .inr (.inr z)) fun z => .inl (.inr z)
def frzs : List R → En → Option (List D × En)
  | [], ρ => some ([], ρ)
  | r :: rs, ρ => (frz ρ r).bind fun p => (frzs rs p.2).map fun q => (p.1 :: q.1, q.2)
section
variable {K : PySem.W.Frag} {Z Z' H H' : Hp} {σ : St} {ρ ρ' : En} {fp fp' : Nat → List Addr} {A A' : Addr → Prop}
theorem RRs.stay : ∀ {vs : List V} {rs : List R} {l : List Addr}, RRs K Z H σ vs rs l → (∀ p ∈ l, ¬ A p) → Post Z H A Z' H' A' → RRs K Z' H' σ vs rs l ∧ ∀ p ∈ l, ¬ A' p
  | _, _, _, .nil, _, _ => ⟨.nil, fun p hp => by cases hp⟩
  | _, _, _, .cons h r n, na, P => by
    obtain ⟨h1, n1⟩ := h.stay (fun p hp => na p (List.mem_append_left _ hp)) P
    obtain ⟨h2, n2⟩ := RRs.stay r (fun p hp => na p (List.mem_append_right _ hp)) P
    exact ⟨.cons h1 h2 n, fun p hp => (List.mem_append.mp hp).elim (n1 p) (n2 p)⟩
theorem frzs_ok : ∀ {rs : List R} {vs : List V} {l : List Addr} {ds : List D} {Z : Hp} {ρ ρ' : En} {fp : Nat → List Addr}, Good K Z H σ ρ fp → RRs K Z H σ vs rs l → (∀ p ∈ l, ¬ E fp p) → frzs rs ρ = some (ds, ρ') →
    ∃ Z' fp', Good K Z' H σ ρ' fp' ∧ RepL K Z' vs ds ∧ Post Z H (fun p => E fp p ∨ p ∈ l) Z' H (E fp')
  | [], _, _, ds, Z, ρ, ρ', fp, g, .nil, n, e => by
    cases e
    exact ⟨Z, fp, g, .nil, Post.refl.weak fun p q => .inl q⟩
  | r :: rs, _, _, ds, Z, ρ, ρ', fp, g, .cons (l := l1) (ls := ls) h hr nd, n, e => by
    obtain ⟨⟨d, ρ1⟩, h1, e⟩ := Option.bind_eq_some_iff.mp e
    obtain ⟨⟨ds', ρ2⟩, h2, e⟩ := Option.map_eq_some_iff.mp e
    cases e
    obtain ⟨Z1, fp1, g1, R1, P1⟩ := frz_ok g h (fun p hp => n p (List.mem_append_left _ hp)) h1
    obtain ⟨hr1, n1⟩ := RRs.stay hr (fun p hp z => z.elim (n p (List.mem_append_right _ hp)) fun w => nd p w hp) P1
    obtain ⟨Z2, fp2, g2, R2, P2⟩ := frzs_ok g1 hr1 n1 h2
    refine ⟨Z2, fp2, g2, .cons (R1.mono P2.zz) R2, ?_⟩
    have P1' : Post Z H (fun p => E fp p ∨ p ∈ l1 ++ ls) Z1 H (fun p => E fp1 p ∨ p ∈ ls) := P1.wide (fun p q => q.imp_right (List.mem_append_left _)) fun p q => q.elim .inl fun z => .inr (.inr (List.mem_append_right _ z))
    exact P1'.trans P2
end
/-- what comes of frozen things -/
def froz (Fs : List Sm) (f : List D → Option R) : Sm := fun ρ => (seqs Fs ρ).bind fun p => (frzs p.1 p.2).bind fun q => (f q.1).map fun r => (r, q.2)
theorem froz_go {K : PySem.W.Frag} {Fs : List Sm} {f : List D → Option R} {σ : St} {H : Hp} {Q : VK} (h : tE K (froz Fs f) σ H Q) {k : List V → Hp → Prop}
    (c : ∀ Z H' vs ds r, Sub Z H' → RepL K Z vs ds → f ds = some r → (∀ z H'', Out K Z H' r z H'' → Q z H'') → k vs H') : tA K Fs σ H k := by
  obtain ⟨Z, ρ, fp, r, ρ3, g, h, kt⟩ := h
  obtain ⟨⟨rs, ρ1⟩, h1, h⟩ := Option.bind_eq_some_iff.mp h
  obtain ⟨⟨ds, ρ2⟩, h2, h⟩ := Option.bind_eq_some_iff.mp h
  obtain ⟨r', h3, e⟩ := Option.map_eq_some_iff.mp h
  cases e
  refine ⟨Z, ρ, fp, rs, ρ1, g, h1, fun Z1 H1 vs fp1 l g1 R1 n1 P1 => ?_⟩
  obtain ⟨Z2, fp2, g2, R2, P2⟩ := frzs_ok g1 R1 n1 h2
  exact c Z2 H1 vs ds _ g2.sub R2 h3 fun z H'' o => kt_out kt g2 (P1.trans P2) (fun p q => q) o
def tupF (ds : List D) : Option R := if ds.length ≤ sizeLine then some (.fz (.tup ds)) else none
def lstF (ds : List D) : Option R := if ds.length ≤ sizeLine then some (.nw (.ow (.lst ds))) else none
section
variable {X : Cx} {es : List Expr} {Fs : List Sm} {pos : Pos}
theorem se_tup {k : Nat} (h : PA X es (tA X.K Fs)) : PE X (.Tuple es k pos) (tE X.K (froz Fs tupF)) := pe_weak (pe_tup h) fun σ H Q q => froz_go q fun Z H' vs ds r sb rl e o => by
  have e' : (if ds.length ≤ sizeLine then some (R.fz (.tup ds)) else none) = some r := e
  by_cases hz : ds.length ≤ sizeLine
  · rw [if_pos hz] at e'
    cases e'
    exact ⟨by rw [rl.length]; exact hz, fun p hp => o _ _ (.tup hp rl)⟩
  · rw [if_neg hz] at e'; cases e'
theorem se_lst (h : PA X es (tA X.K Fs)) : PE X (.List es pos) (tE X.K (froz Fs lstF)) := pe_weak (pe_lst h) fun σ H Q q => froz_go q fun Z H' vs ds r sb rl e o => by
  have e' : (if ds.length ≤ sizeLine then some (R.nw (.ow (.lst ds))) else none) = some r := e
  by_cases hz : ds.length ≤ sizeLine
  · rw [if_pos hz] at e'
    cases e'
    exact ⟨by rw [rl.length]; exact hz, fun p hp => o _ _ (.new (o := .lst vs) (d := .lst ds) hp ⟨vs, upd_same, rl⟩)⟩
  · rw [if_neg hz] at e'; cases e'
end

/-! ### names, constants -/
def cst (d : D) : Sm := fun ρ => some (.fz d, ρ)
def vr (i : Nat) : Sm := fun ρ => match ρ.getD i none with
  | some (.fz d) => some (.fz d, ρ)
  | some (.ow _) => some (.sl i, ρ)
  | some (.ob _ _) => some (.sl i, ρ)
  | _ => none
theorem kt_rep {K : PySem.W.Frag} {Z H : Hp} {σ : St} {ρ : En} {fp : Nat → List Addr} {Q : VK} {v : V} {d : D} (g : Good K Z H σ ρ fp) (k : Kt K Z H fp σ ρ (.fz d) Q) (h : Rep K Z v d) : Q v H :=
  kt_out k g Post.refl (fun _ q => q) (.same h)
theorem getD_get {α : Type} {l : List (Option α)} {i : Nat} {x : α} (h : l.getD i none = some x) : l[i]? = some (some x) := by
  rw [List.getD_eq_getElem?_getD] at h
  cases q : l[i]? with
  | none => rw [q] at h; cases h
  | some z => rw [q] at h; exact congrArg some h
section
variable {X : Cx} {pos : Pos}
theorem se_var {x : Str} {i : Nat} (h : PE X (.Name x pos) (tVar i)) : PE X (.Name x pos) (tE X.K (vr i)) := pe_weak h fun σ H Q ⟨Z, ρ, fp, r, ρ', g, e, k⟩ => by
  have e' : (match ρ.getD i none with
    | some (.fz d) => some (R.fz d, ρ)
    | some (.ow _) => some (R.sl i, ρ)
    | some (.ob _ _) => some (R.sl i, ρ)
    | _ => none) = some (r, ρ') := e
  cases q : ρ.getD i none with
  | none => rw [q] at e'; cases e'
  | some t =>
    rw [q] at e'
    obtain ⟨v, hv, o⟩ := g.at q
    refine ⟨v, getD_get hv, ?_⟩
    have sl : some (R.sl i, ρ) = some (r, ρ') → Q v H := fun e => by
      cases e
      exact k Z H v fp [] g ⟨hv, rfl⟩ (fun p hp => by cases hp) (Post.refl.weak fun p q => q.elim id fun z => by cases z)
    cases t with
    | fz d => cases e'; exact kt_rep g k (show Rep X.K Z v d ∧ _ from o).1
    | ow d => exact sl e'
    | ob c fs => exact sl e'
    | mv => cases e'
    | tl _ _ => cases e'
    | ls _ => cases e'
    | dd _ => cases e'
theorem se_cst {e : Expr} {v : V} {d : D} (h : PE X e (tC v)) (hr : ∀ Z, Rep X.K Z v d) : PE X e (tE X.K (cst d)) := pe_weak h fun σ H Q ⟨Z, ρ, fp, r, ρ', g, e, k⟩ => by
  cases e
  exact kt_rep g k (hr Z)
end
end FL

set_option Elab.async false
set_option maxRecDepth 100000
set_option maxHeartbeats 2000000
namespace FL
open PySem PySem.Spec L2

/-! ### the library's data -/
def pk : Key → PyData
  | .inl i => .int i
  | .inr x => .str x
mutual
def py : D → PyData
  | .non => .none
  | .bl b => .bool b
  | .int i => .int i
  | .str x => .str x
  | .lst xs => .list (pyL xs)
  | .tup xs => .tuple (pyL xs)
  | .dic kvs => .dict (pyK kvs)
  | .dit kvs => .dict (pyJ kvs)
def pyL : List D → List PyData
  | [] => []
  | d :: ds => py d :: pyL ds
def pyK : List (Key × D) → List (PyData × PyData)
  | [] => []
  | (k, d) :: ds => (pk k, py d) :: pyK ds
def pyJ : List (List Key × D) → List (PyData × PyData)
  | [] => []
  | (k, d) :: ds => (.tuple (k.map pk), py d) :: pyJ ds
end
theorem lay_all {n : Nat} (ih : ∀ d, flat n d = true → (py d).plain = true ∧ (py d).depth ≤ n) : ∀ {xs : List D}, xs.all (flat n) = true → PyData.plainAll (pyL xs) = true ∧ PyData.depthAll (pyL xs) ≤ n
  | [], _ => by simp [pyL, PyData.plainAll, PyData.depthAll]
  | x :: xs, h => by
    rw [List.all_cons, Bool.and_eq_true] at h
    obtain ⟨h1, h2⟩ := ih x h.1
    obtain ⟨h3, h4⟩ := lay_all ih h.2
    simp only [pyL, PyData.plainAll, PyData.depthAll, h1, h3]
    exact ⟨by decide, by omega⟩
theorem flat_lay : ∀ (n : Nat) (d : D), flat n d = true → (py d).plain = true ∧ (py d).depth ≤ n
  | n, .non, _ => by simp [py, PyData.plain, PyData.depth]
  | n, .bl b, _ => by simp [py, PyData.plain, PyData.depth]
  | n, .int i, _ => by simp [py, PyData.plain, PyData.depth]
  | n, .str x, _ => by simp [py, PyData.plain, PyData.depth]
  | n + 1, .lst xs, h => by
    have h' : xs.all (flat n) = true := by simpa [flat] using h
    obtain ⟨h1, h2⟩ := lay_all (flat_lay n) h'
    simp only [py, PyData.plain, PyData.depth]
    exact ⟨h1, by omega⟩
  | n + 1, .tup xs, h => by
    have h' : xs.all (flat n) = true := by simpa [flat] using h
    obtain ⟨h1, h2⟩ := lay_all (flat_lay n) h'
    simp only [py, PyData.plain, PyData.depth]
    exact ⟨h1, by omega⟩
  | 0, .lst xs, h => by simp [flat] at h
  | 0, .tup xs, h => by simp [flat] at h
  | 0, .dic xs, h => by simp [flat] at h
  | 0, .dit xs, h => by simp [flat] at h
  | n + 1, .dic xs, h => by simp [flat] at h
  | n + 1, .dit xs, h => by simp [flat] at h
theorem eqF_all {n : Nat} (ih : ∀ d e, flat n d = true → eqF n d e = PyData.eqv (py d) (py e)) : ∀ {xs ys : List D}, xs.all (flat n) = true → all2 (eqF n) xs ys = PyData.eqvAll (pyL xs) (pyL ys)
  | [], [], _ => by simp [all2, pyL, PyData.eqvAll]
  | [], _ :: _, _ => by simp [all2, pyL, PyData.eqvAll]
  | _ :: _, [], _ => by simp [all2, pyL, PyData.eqvAll]
  | x :: xs, y :: ys, h => by
    rw [List.all_cons, Bool.and_eq_true] at h
    simp only [all2, pyL, PyData.eqvAll, ih x y h.1, eqF_all ih h.2]
theorem eqF_eqv : ∀ (n : Nat) (d e : D), flat n d = true → eqF n d e = PyData.eqv (py d) (py e) := by
  intro n
  induction n with
  | zero => intro d e h; cases d <;> cases e <;> simp [eqF, py, PyData.eqv, flat] at h ⊢
  | succ n ih =>
    intro d e h
    cases d <;> cases e <;> simp only [eqF, py, PyData.eqv] <;> try rfl
    · exact eqF_all ih (by simpa [flat] using h)
    · exact eqF_all ih (by simpa [flat] using h)
section
variable {X : Cx} {pins : List (Addr × Obj)} {σ : St} {H Z : Hp} {s : Shared}
mutual
theorem Rep.reads (I : Inv X pins σ H s) (sb : Sub Z H) : ∀ {v : V} {d : D} {u : Value}, Rep X.K Z v d → RelV v u → (∀ n, flat n d = true → ∃ as, Reads s.heap u (py d) as)
  | _, _, _, .non, r, _, _ => by cases r; exact ⟨_, Reads.none⟩
  | _, _, _, .bl b, r, _, _ => by cases r; exact ⟨_, Reads.bool b⟩
  | _, _, _, .int i, r, _, _ => by obtain ⟨t, rfl⟩ := r; exact ⟨_, Reads.int i t⟩
  | _, _, _, .str x, r, _, _ => by obtain ⟨t, rfl⟩ := r; exact ⟨_, Reads.str x t⟩
  | _, _, _, .lst h l, r, n, f => by
    cases r
    obtain ⟨its, rv, ⟨o, k, ho, hc, _, hd⟩, _⟩ := I.list (sub_sq sb h)
    cases n with
    | zero => simp [flat] at f
    | succ n =>
      obtain ⟨as, hr⟩ := RepL.reads I sb l rv n (by simpa [flat] using f)
      exact ⟨_, Reads.list ho hc hd hr⟩
  | _, _, _, .tup h l, r, n, f => by
    cases r
    obtain ⟨its, rv, ⟨o, ho, hc, k, hd⟩, _⟩ := I.tuple (SqT.of ((sb _ _ h).elim id fun z => z.2.elim))
    cases n with
    | zero => simp [flat] at f
    | succ n =>
      obtain ⟨as, hr⟩ := RepL.reads I sb l rv n (by simpa [flat] using f)
      exact ⟨_, Reads.tuple ho hc hd hr⟩
  | _, _, _, .dic h l, r, n, f => by cases n <;> simp [flat] at f
  | _, _, _, .dit h l, r, n, f => by cases n <;> simp [flat] at f
theorem RepL.reads (I : Inv X pins σ H s) (sb : Sub Z H) : ∀ {vs : List V} {ds : List D} {us : List Value}, RepL X.K Z vs ds → Vals vs us → (∀ n, ds.all (flat n) = true → ∃ as, ReadsAll s.heap us (pyL ds) as)
  | _, _, _, .nil, r, _, _ => by cases r; exact ⟨_, ReadsAll.nil⟩
  | _, _, _, .cons h l, r, n, f => by
    rw [List.all_cons, Bool.and_eq_true] at f
    cases r with
    | cons r1 r2 =>
      obtain ⟨as, q1⟩ := Rep.reads I sb h r1 n f.1
      obtain ⟨bs, q2⟩ := RepL.reads I sb l r2 n f.2
      exact ⟨_, ReadsAll.cons q1 q2⟩
end
theorem RdD.reads (I : Inv X pins σ H s) (sb : Sub Z H) {v : V} {d : D} {u : Value} (h : RdD X.K Z H v d) (r : RelV v u) {n : Nat} (f : flat n d = true) : ∃ as, Reads s.heap u (py d) as := by
  cases d with
  | non => exact Rep.reads I sb (by rw [(show v = .non from h)]; exact .non) r _ f
  | bl b => exact Rep.reads I sb (by rw [(show v = .bl b from h)]; exact .bl b) r _ f
  | int i => exact Rep.reads I sb (by rw [(show v = .int i from h)]; exact .int i) r _ f
  | str x => exact Rep.reads I sb (by rw [(show v = .str x from h)]; exact .str x) r _ f
  | lst ds =>
    obtain ⟨a, vs, rfl, h, l⟩ := h
    cases r
    obtain ⟨its, rv, ⟨o, k, ho, hc, _, hd⟩, _⟩ := I.list h
    cases n with
    | zero => simp [flat] at f
    | succ n =>
      obtain ⟨as, hr⟩ := RepL.reads I sb l rv n (by simpa [flat] using f)
      exact ⟨_, Reads.list ho hc hd hr⟩
  | tup ds =>
    obtain ⟨a, vs, rfl, h, l⟩ := h
    cases r
    obtain ⟨its, rv, ⟨o, ho, hc, k, hd⟩, _⟩ := I.tuple (SqT.of h)
    cases n with
    | zero => simp [flat] at f
    | succ n =>
      obtain ⟨as, hr⟩ := RepL.reads I sb l rv n (by simpa [flat] using f)
      exact ⟨_, Reads.tuple ho hc hd hr⟩
  | dic => cases n <;> simp [flat] at f
  | dit => cases n <;> simp [flat] at f
/-- the items of two dicts -/
theorem dfind_val {kvs : List (Key × V)} {kds : List (Key × D)} (h : RepK X.K Z kvs kds) (k : Key) : (valV kvs k = none ∧ dfind kds k = none) ∨ ∃ v d, valV kvs k = some v ∧ dfind kds k = some d ∧ Rep X.K Z v d := by
  induction kvs generalizing kds with
  | nil =>
    cases h
    exact .inl ⟨rfl, rfl⟩
  | cons p ps ih =>
    cases h with
    | @cons k' v d vs ds h r =>
      by_cases e : k' = k
      · subst e
        exact .inr ⟨v, d, by simp [valV], by simp [dfind], h⟩
      · have e1 : valV ((k', v) :: ps) k = valV ps k := by simp [valV, e]
        have e2 : dfind ((k', d) :: ds) k = dfind ds k := by simp [dfind, e]
        rw [e1, e2]
        exact ih r
theorem RepK.length {kvs : List (Key × V)} {kds : List (Key × D)} (h : RepK X.K Z kvs kds) : kvs.length = kds.length := by
  induction kvs generalizing kds with
  | nil => cases h; rfl
  | cons p ps ih =>
    cases h with
    | cons h r => exact congrArg (· + 1) (ih r)
theorem dfind_valJ {kvs : List (List Key × V)} {kds : List (List Key × D)} (h : RepJ X.K Z kvs kds) (k : List Key) : (valV kvs k = none ∧ dfind kds k = none) ∨ ∃ v d, valV kvs k = some v ∧ dfind kds k = some d ∧ Rep X.K Z v d := by
  induction kvs generalizing kds with
  | nil =>
    cases h
    exact .inl ⟨rfl, rfl⟩
  | cons p ps ih =>
    cases h with
    | @cons k' v d vs ds h r =>
      by_cases e : k' = k
      · subst e
        exact .inr ⟨v, d, by simp [valV], by simp [dfind], h⟩
      · have e1 : valV ((k', v) :: ps) k = valV ps k := by simp [valV, e]
        have e2 : dfind ((k', d) :: ds) k = dfind ds k := by simp [dfind, e]
        rw [e1, e2]
        exact ih r
theorem hits_eq (I : Inv X pins σ H s) (sb : Sub Z H) {A : Around} (hu : A.units + 64 < cLine) {ls : List (Key × V)} {els : List (Key × D)} {vb : List (Key × Value)} (lb : RepK X.K Z ls els) (rb : KV ls vb) (fb : (els.all fun p => flat 40 p.2) = true)
    {ks : List (Key × V)} : ∀ {eks : List (Key × D)} {va : List (Key × Value)}, RepK X.K Z ks eks → KV ks va → (eks.all fun p => flat 40 p.2) = true → PySem.W.KeqHits A s vb va (eks.all fun p => match dfind els p.1 with
    | some d => eqF 40 p.2 d
    | none => false) := by
  induction ks with
  | nil =>
    intro eks va h r _
    cases h
    have r' : Paired (fun (p : Key × V) (q : Key × Value) => p.1 = q.1 ∧ RelV p.2 q.2) [] va := r
    cases r'
    exact .nil
  | cons kv ks ih =>
    intro eks va h r f
    cases h with
    | @cons k v d _ ds h l =>
      rw [List.all_cons, Bool.and_eq_true] at f
      have r' : Paired (fun (p : Key × V) (q : Key × Value) => p.1 = q.1 ∧ RelV p.2 q.2) ((k, v) :: ks) va := r
      cases r' with
      | @cons p q ps qs h1 h2 =>
        obtain ⟨k2, u⟩ := q
        obtain ⟨e1, ru⟩ := h1
        have e1' : k = k2 := e1
        subst e1'
        rw [List.all_cons]
        have vv := rb.val k
        have tl := ih l h2 f.2
        rcases dfind_val lb k with ⟨n1, n2⟩ | ⟨y, e, m1, m2, ry⟩
        · rw [n1] at vv
          have hv : valueAt vb k = none := by
            cases q : valueAt vb k with
            | none => rfl
            | some z => rw [q] at vv; exact vv.elim
          simp only [n2, Bool.false_and]
          exact .miss hv
        · rw [m1] at vv
          obtain ⟨y2, hy2, ry2⟩ := vv.some_of
          have fe : flat 40 e = true := by
            obtain ⟨q, hq, rfl⟩ := Option.map_eq_some_iff.mp m2
            exact List.all_eq_true.mp fb q (List.mem_of_find?_eq_some hq)
          obtain ⟨as, q1⟩ := Rep.reads I sb h ru 40 f.1
          obtain ⟨bs, q2⟩ := Rep.reads I sb ry ry2 40 fe
          have eqa : SeqAt.EqAt A s u y2 (eqF 40 d e) := by
            rw [eqF_eqv 40 d e f.1]
            exact (SeqAt.eqAt_plain _ _ A s _ _ _ _ q1 q2 (flat_lay 40 d f.1).1 (flat_lay 40 e fe).1 (by
              have := (flat_lay 40 d f.1).2
              have := Nat.min_le_left (py d).depth (py e).depth
              omega))
          simp only [m2]
          exact .hit hy2 eqa tl
end
end FL

set_option Elab.async false
set_option maxRecDepth 100000
set_option maxHeartbeats 2000000
namespace FL
open PySem PySem.Spec L2

theorem ite_some {α : Type} {c : Prop} [Decidable c] {a b : α} (h : (if c then some a else none) = some b) : c ∧ a = b := by
  by_cases hc : c
  · rw [if_pos hc] at h; exact ⟨hc, Option.some.inj h⟩
  · rw [if_neg hc] at h; cases h
theorem out_b {K : PySem.W.Frag} {Z H : Hp} {b : Bool} {r : R} {Q : VK} (e : bR b = some r) (q : ∀ z H', Out K Z H r z H' → Q z H') : Q (.bl b) H := by
  cases e
  exact q _ _ (.same (.bl b))
theorem big_le : bigE + bigE ≤ 1000000 := by unfold bigE; omega
theorem big_pos : 0 < bigE := by unfold bigE; omega
theorem big_wide {i j : Int} (h1 : i.natAbs < big) (h2 : j.natAbs < big) : CMulW i j := by
  unfold big at h1 h2
  exact @wide_mul i j bigE bigE h1 h2 big_pos big_pos big_le
section
variable {X : Cx}
theorem opd_mul : OpD X (binaryOp .Mult) (op2 .mul) := by
  intro pins s σ H x y v u Q Z dx dy r I rx ry sb hx hy e q
  cases dx <;> cases dy <;> try (cases e; done)
  rename_i i j
  have hx' : x = .int i := hx
  have hy' : y = .int j := hy
  obtain ⟨hz, e'⟩ := ite_some (show (if i.natAbs < big ∧ j.natAbs < big then some (R.fz (.int (i * j))) else none) = some r from e)
  cases e'
  exact op_mulW pins s σ H x y v u Q I rx ry ⟨i, j, hx', hy', big_wide hz.1 hz.2, q _ _ (.same (.int _))⟩
theorem opd_fdv : OpD X (binaryOp .FloorDiv) (op2 .fdv) := by
  intro pins s σ H x y v u Q Z dx dy r I rx ry sb hx hy e q
  cases dx <;> cases dy <;> try (cases e; done)
  rename_i i j
  have hx' : x = .int i := hx
  have hy' : y = .int j := hy
  obtain ⟨hz, e'⟩ := ite_some (show (if 0 < j ∧ j.natAbs < 2 ^ 256 then some (R.fz (.int (i / j))) else none) = some r from e)
  cases e'
  exact op_fdivW pins s σ H x y v u Q I rx ry ⟨i, j, hx', hy', wide_div (b := 256) hz.1 hz.2 (by decide) (by decide), q _ _ (.same (.int _))⟩
theorem opd_mod : OpD X (binaryOp .Mod) (op2 .mod) := by
  intro pins s σ H x y v u Q Z dx dy r I rx ry sb hx hy e q
  cases dx <;> cases dy <;> try (cases e; done)
  rename_i i j
  have hx' : x = .int i := hx
  have hy' : y = .int j := hy
  obtain ⟨hz, e'⟩ := ite_some (show (if 0 < j then some (R.fz (.int (i % j))) else none) = some r from e)
  cases e'
  refine op_modN pins s σ H x y v u Q I rx ry ⟨i, j, hx', hy', by omega, ?_⟩
  show Q (.int (i.fmod j)) H
  rw [Int.fmod_eq_emod_of_nonneg i (by omega)]
  exact q _ _ (.same (.int _))
theorem opd_pow : OpD X (binaryOp .Pow) (op2 .pow) := by
  intro pins s σ H x y v u Q Z dx dy r I rx ry sb hx hy e q
  cases dx <;> cases dy <;> try (cases e; done)
  rename_i i j
  have hx' : x = .int i := hx
  have hy' : y = .int j := hy
  obtain ⟨hz, e'⟩ := ite_some (show (if 0 ≤ j ∧ j ≤ 1000 ∧ i.natAbs < 2 ^ 32 then some (R.fz (.int (i ^ j.toNat))) else none) = some r from e)
  cases e'
  exact op_pow pins s σ H x y v u Q I rx ry ⟨i, j, hx', hy', ⟨hz.1, by omega, by omega⟩, q _ _ (.same (.int _))⟩
theorem opd_lt : OpD X (compareOp .Lt) (op2 .lt) := by
  intro pins s σ H x y v u Q Z dx dy r I rx ry sb hx hy e q
  cases dx <;> cases dy <;> try (cases e; done)
  exact op_lt pins s σ H x y v u Q I rx ry ⟨_, _, hx, hy, out_b e q⟩
theorem opd_le : OpD X (compareOp .LtE) (op2 .le) := by
  intro pins s σ H x y v u Q Z dx dy r I rx ry sb hx hy e q
  cases dx <;> cases dy <;> try (cases e; done)
  exact op_le pins s σ H x y v u Q I rx ry ⟨_, _, hx, hy, out_b e q⟩
theorem opd_gt : OpD X (compareOp .Gt) (op2 .gt) := by
  intro pins s σ H x y v u Q Z dx dy r I rx ry sb hx hy e q
  cases dx <;> cases dy <;> try (cases e; done)
  exact op_gt pins s σ H x y v u Q I rx ry ⟨_, _, hx, hy, out_b e q⟩
theorem opd_ge : OpD X (compareOp .GtE) (op2 .ge) := by
  intro pins s σ H x y v u Q Z dx dy r I rx ry sb hx hy e q
  cases dx <;> cases dy <;> try (cases e; done)
  exact op_ge pins s σ H x y v u Q I rx ry ⟨_, _, hx, hy, out_b e q⟩

/-! ### equality -/
theorem eq_kinds {x y : D} {b : Bool} (h : eqT x y = some b) : (flat 40 x = true ∧ flat 40 y = true ∧ b = eqF 40 x y) ∨ ∃ ks ls, x = .dic ks ∧ y = .dic ls ∧ flatV ks = true ∧ flatV ls = true ∧ b = eqK ks ls := by
  unfold eqT at h
  split at h
  · obtain ⟨hz, e⟩ := ite_some h
    exact .inr ⟨_, _, rfl, rfl, hz.1, hz.2, e.symm⟩
  · obtain ⟨hz, e⟩ := ite_some h
    exact .inl ⟨hz.1, hz.2, e.symm⟩
theorem dic_hits {pins : List (Addr × Obj)} {s : Shared} {σ : L2.St} {H Z : Hp} (I : Inv X pins σ H s) (sb : Sub Z H) (hu : X.A.units + 200 < cLine) {x y : V} {v u : Value} {ks ls : List (Key × D)} (rx : RelV x v) (ry : RelV y u) (hx : RdD X.K Z H x (.dic ks)) (hy : RdD X.K Z H y (.dic ls))
    (f1 : flatV ks = true) (f2 : flatV ls = true) : ∃ (a b : Addr) (ka kb : List (Key × Value)) (r : Bool), v = .ref a ∧ u = .ref b ∧ (a == sysModules) = false ∧ (b == sysModules) = false ∧ s.heap.DictOf (mixKind X.prog X.w) a ka ∧ s.heap.DictOf (mixKind X.prog X.w) b kb ∧
      (ka.length = kb.length → PySem.W.KeqHits X.A.in1 s kb ka r) ∧ (ka.length == kb.length && r) = eqK ks ls := by
  obtain ⟨a, kv, rfl, ra, la⟩ := hx
  obtain ⟨b, kw, rfl, rb, lb⟩ := hy
  cases rx
  cases ry
  obtain ⟨_, ha, va, va', da⟩ := dk_rd I.hok ra
  obtain ⟨_, hb, vb, vb', db⟩ := dk_rd I.hok rb
  refine ⟨a, b, va, vb, _, rfl, rfl, ha, hb, da, db, fun _ => hits_eq I sb (by show X.A.units + 1 + 64 < cLine; omega) lb vb' f2 la va' f1, ?_⟩
  have l1 : va.length = ks.length := by rw [← va'.length]; exact la.length
  have l2 : vb.length = ls.length := by rw [← vb'.length]; exact lb.length
  rw [l1, l2]
  rfl
theorem opd_eq (hu : X.A.units + 200 < cLine) : OpD X (compareOp .Eq) (op2 .eq) := by
  intro pins s σ H x y v u Q Z dx dy r I rx ry sb hx hy e q
  obtain ⟨b, h1, h2⟩ := Option.bind_eq_some_iff.mp (show (eqT dx dy).bind bR = some r from e)
  rcases eq_kinds h1 with ⟨f1, f2, rfl⟩ | ⟨ks, ls, rfl, rfl, f1, f2, rfl⟩
  · obtain ⟨as, q1⟩ := RdD.reads I sb hx rx f1
    obtain ⟨bs, q2⟩ := RdD.reads I sb hy ry f2
    refine SeqAt.eq_plain q1 q2 (flat_lay 40 dx f1).1 (flat_lay 40 dy f2).1 ?_ ?_
    · have := (flat_lay 40 dx f1).2
      have := Nat.min_le_left (py dx).depth (py dy).depth
      omega
    · rw [← eqF_eqv 40 dx dy f1]
      exact ⟨.bl _, H, I, rfl, out_b h2 q⟩
  · obtain ⟨a, b, ka, kb, rr, rfl, rfl, ha, hb, da, db, hh, hr⟩ := dic_hits I sb hu rx ry hx hy f1 f2
    refine PySem.W.keq_eq ha hb da db (by omega) hh ?_
    rw [hr]
    exact ⟨.bl _, H, I, rfl, out_b h2 q⟩
theorem opd_ne (hu : X.A.units + 200 < cLine) : OpD X (compareOp .NotEq) (op2 .ne) := by
  intro pins s σ H x y v u Q Z dx dy r I rx ry sb hx hy e q
  obtain ⟨b, h1, h2⟩ := Option.bind_eq_some_iff.mp (show ((eqT dx dy).bind fun b => bR (!b)) = some r from e)
  rcases eq_kinds h1 with ⟨f1, f2, rfl⟩ | ⟨ks, ls, rfl, rfl, f1, f2, rfl⟩
  · obtain ⟨as, q1⟩ := RdD.reads I sb hx rx f1
    obtain ⟨bs, q2⟩ := RdD.reads I sb hy ry f2
    refine SeqAt.ne_plain q1 q2 (flat_lay 40 dx f1).1 (flat_lay 40 dy f2).1 ?_ ?_
    · have := (flat_lay 40 dx f1).2
      have := Nat.min_le_left (py dx).depth (py dy).depth
      omega
    · rw [← eqF_eqv 40 dx dy f1]
      exact ⟨.bl _, H, I, rfl, out_b h2 q⟩
  · obtain ⟨a, b, ka, kb, rr, rfl, rfl, ha, hb, da, db, hh, hr⟩ := dic_hits I sb hu rx ry hx hy f1 f2
    refine PySem.W.keq_ne ha hb da db (by omega) hh ?_
    rw [hr]
    exact ⟨.bl _, H, I, rfl, out_b h2 q⟩

/-! ### in -/
theorem pyL_any {d : D} : ∀ {xs : List D}, xs.all (flat 40) = true → (xs.any fun x => eqF 40 x d) = (pyL xs).any fun y => PyData.eqv y (py d)
  | [], _ => rfl
  | x :: xs, h => by
    rw [List.all_cons, Bool.and_eq_true] at h
    simp only [pyL, List.any_cons, eqF_eqv 40 x d h.1, pyL_any h.2]
theorem in_room {d : D} {xs : List D} (hu : X.A.units + 200 < cLine) (fd : flat 40 d = true) (fx : xs.all (flat 40) = true) : X.A.units + 1 + min (PyData.depthAll (pyL xs)) (py d).depth < cLine := by
  have h1 := (flat_lay 40 d fd).2
  have := Nat.min_le_right (PyData.depthAll (pyL xs)) (py d).depth
  omega
theorem in_kinds {x y : D} {b : Bool} (h : inD x y = some b) : (∃ (c : Nat) (z : Str), x = .str ⟨#[c]⟩ ∧ y = .str z ∧ b = decide (c ∈ z.cps.toList)) ∨
    (∃ xs, y = .lst xs ∧ flat 40 x = true ∧ xs.all (flat 40) = true ∧ b = xs.any fun z => eqF 40 z x) ∨ (∃ xs, y = .tup xs ∧ flat 40 x = true ∧ xs.all (flat 40) = true ∧ b = xs.any fun z => eqF 40 z x) ∨
    (∃ kvs k, y = .dic kvs ∧ keyOf x = some k ∧ b = (dfind kvs k).isSome) ∨ ∃ ds kvs k, x = .tup ds ∧ y = .dit kvs ∧ keysOf ds = some k ∧ b = (dfind kvs k).isSome := by
  unfold inD at h
  split at h
  · rename_i c z
    split at h
    · rename_i n e
      have ec : c = ⟨#[n]⟩ := by
        cases c with
        | mk cps => exact congrArg Str.mk (Array.toList_inj.mp e)
      exact .inl ⟨n, z, by rw [ec], rfl, (Option.some.inj h).symm⟩
    · cases h
  · obtain ⟨hz, e⟩ := ite_some h
    exact .inr (.inl ⟨_, rfl, hz.1, hz.2, e.symm⟩)
  · obtain ⟨hz, e⟩ := ite_some h
    exact .inr (.inr (.inl ⟨_, rfl, hz.1, hz.2, e.symm⟩))
  · obtain ⟨k, e1, e2⟩ := Option.map_eq_some_iff.mp h
    exact .inr (.inr (.inr (.inl ⟨_, k, rfl, e1, e2.symm⟩)))
  · obtain ⟨k, e1, e2⟩ := Option.map_eq_some_iff.mp h
    exact .inr (.inr (.inr (.inr ⟨_, _, k, rfl, rfl, e1, e2.symm⟩)))
  · cases h
theorem keyOf_v {K : PySem.W.Frag} {Z H : Hp} {x : V} {d : D} {k : Key} (h : RdD K Z H x d) (e : keyOf d = some k) : x = kV k := by
  cases d <;> cases e
  · exact h
  · exact h
theorem rep_key {K : PySem.W.Frag} {Z : Hp} {x : V} {d : D} {k : Key} (h : Rep K Z x d) (e : keyOf d = some k) : x = kV k := by
  cases d <;> cases e <;> cases h <;> rfl
theorem keysOf_v {K : PySem.W.Frag} {Z : Hp} : ∀ {vs : List V} {ds : List D} {ks : List Key}, RepL K Z vs ds → keysOf ds = some ks → vs = ks.map kV
  | _, _, _, .nil, e => by cases e; rfl
  | _, _, _, .cons h r, e => by
    obtain ⟨k, e1, e⟩ := Option.bind_eq_some_iff.mp e
    obtain ⟨ks, e2, e⟩ := Option.bind_eq_some_iff.mp e
    cases e
    rw [rep_key h e1, keysOf_v r e2]
    rfl
/-- what a dict holds at a key -/
theorem dget_k {K : PySem.W.Frag} {Z H : Hp} {a : Addr} {kvs : List (Key × V)} {k : Key} (ra : Rd H a (.dK kvs)) : DGet H a (kV k) (valV kvs k) := .inl ⟨kvs, k, ra, rfl, rfl⟩
theorem isSome_val {X : Cx} {Z : Hp} {kvs : List (Key × V)} {kds : List (Key × D)} (h : RepK X.K Z kvs kds) (k : Key) : (valV kvs k).isSome = (dfind kds k).isSome := by
  rcases dfind_val h k with ⟨h1, h2⟩ | ⟨v, d, h1, h2, _⟩ <;> rw [h1, h2] <;> rfl
theorem isSome_valJ {X : Cx} {Z : Hp} {kvs : List (List Key × V)} {kds : List (List Key × D)} (h : RepJ X.K Z kvs kds) (k : List Key) : (valV kvs k).isSome = (dfind kds k).isSome := by
  rcases dfind_valJ h k with ⟨h1, h2⟩ | ⟨v, d, h1, h2, _⟩ <;> rw [h1, h2] <;> rfl
theorem opd_in (hu : X.A.units + 200 < cLine) : OpD X (compareOp .In) (op2 .isin) := by
  intro pins s σ H x y v u Q Z dx dy r I rx ry sb hx hy e q
  obtain ⟨b, h1, h2⟩ := Option.bind_eq_some_iff.mp (show (inD dx dy).bind bR = some r from e)
  rcases in_kinds h1 with ⟨c, z, rfl, rfl, rfl⟩ | ⟨xs, rfl, f1, f2, rfl⟩ | ⟨xs, rfl, f1, f2, rfl⟩ | ⟨kvs, k, rfl, hk, rfl⟩ | ⟨ds, kvs, k, rfl, rfl, hk, rfl⟩
  · exact op_in_sign pins s σ H x y v u Q I rx ry ⟨c, z, hx, hy, out_b h2 q⟩
  · obtain ⟨as, q1⟩ := RdD.reads I sb hx rx f1
    obtain ⟨bs, q2⟩ := RdD.reads I sb hy ry (n := 41) (by simpa [flat] using f2)
    refine SeqAt.in_list_data q2 q1 (lay_all (flat_lay 40) f2).1 (flat_lay 40 dx f1).1 (in_room hu f1 f2) ?_
    rw [← pyL_any f2]
    exact ⟨.bl _, H, I, rfl, out_b h2 q⟩
  · obtain ⟨as, q1⟩ := RdD.reads I sb hx rx f1
    obtain ⟨bs, q2⟩ := RdD.reads I sb hy ry (n := 41) (by simpa [flat] using f2)
    refine SeqAt.in_tuple_data q2 q1 (lay_all (flat_lay 40) f2).1 (flat_lay 40 dx f1).1 (in_room hu f1 f2) ?_
    rw [← pyL_any f2]
    exact ⟨.bl _, H, I, rfl, out_b h2 q⟩
  · obtain ⟨a, kv, rfl, ra, la⟩ := hy
    cases ry
    have ex := keyOf_v hx hk
    subst ex
    refine d_in (by omega) I (dget_k (K := X.K) (Z := Z) ra) rx fun s' I' => ?_
    rw [isSome_val la k]
    exact ⟨.bl _, H, I', rfl, out_b h2 q⟩
  · obtain ⟨a, vs, rfl, ra, la⟩ := hx
    obtain ⟨b, kv, rfl, rb, lb⟩ := hy
    cases ry
    have ev := keysOf_v la hk
    subst ev
    refine d_in (by omega) I (.inr ⟨kv, k, a, rb, rfl, ra, rfl⟩) rx fun s' I' => ?_
    rw [isSome_valJ lb k]
    exact ⟨.bl _, H, I', rfl, out_b h2 q⟩
theorem opd_notin (hu : X.A.units + 200 < cLine) : OpD X (compareOp .NotIn) (op2 .notin) := by
  intro pins s σ H x y v u Q Z dx dy r I rx ry sb hx hy e q
  obtain ⟨b, h1, h2⟩ := Option.bind_eq_some_iff.mp (show ((inD dx dy).bind fun b => bR (!b)) = some r from e)
  rcases in_kinds h1 with ⟨c, z, rfl, rfl, rfl⟩ | ⟨xs, rfl, f1, f2, rfl⟩ | ⟨xs, rfl, f1, f2, rfl⟩ | ⟨kvs, k, rfl, hk, rfl⟩ | ⟨ds, kvs, k, rfl, rfl, hk, rfl⟩
  · exact op_notIn_sign pins s σ H x y v u Q I rx ry ⟨c, z, hx, hy, out_b h2 q⟩
  · obtain ⟨as, q1⟩ := RdD.reads I sb hx rx f1
    obtain ⟨bs, q2⟩ := RdD.reads I sb hy ry (n := 41) (by simpa [flat] using f2)
    refine SeqAt.notIn_list_data q2 q1 (lay_all (flat_lay 40) f2).1 (flat_lay 40 dx f1).1 (in_room hu f1 f2) ?_
    rw [← pyL_any f2]
    exact ⟨.bl _, H, I, rfl, out_b h2 q⟩
  · obtain ⟨as, q1⟩ := RdD.reads I sb hx rx f1
    obtain ⟨bs, q2⟩ := RdD.reads I sb hy ry (n := 41) (by simpa [flat] using f2)
    refine SeqAt.notIn_tuple_data q2 q1 (lay_all (flat_lay 40) f2).1 (flat_lay 40 dx f1).1 (in_room hu f1 f2) ?_
    rw [← pyL_any f2]
    exact ⟨.bl _, H, I, rfl, out_b h2 q⟩
  · obtain ⟨a, kv, rfl, ra, la⟩ := hy
    cases ry
    have ex := keyOf_v hx hk
    subst ex
    refine d_notIn (by omega) I (dget_k (K := X.K) (Z := Z) ra) rx fun s' I' => ?_
    rw [isSome_val la k]
    exact ⟨.bl _, H, I', rfl, out_b h2 q⟩
  · obtain ⟨a, vs, rfl, ra, la⟩ := hx
    obtain ⟨b, kv, rfl, rb, lb⟩ := hy
    cases ry
    have ev := keysOf_v la hk
    subst ev
    refine d_notIn (by omega) I (.inr ⟨kv, k, a, rb, rfl, ra, rfl⟩) rx fun s' I' => ?_
    rw [isSome_valJ lb k]
    exact ⟨.bl _, H, I', rfl, out_b h2 q⟩
end
end FL

set_option Elab.async false
namespace FL
open PySem PySem.Spec L2 PyProof.Rows

/-! ### sorting, as plain functions -/
theorem ltCps_iff : ∀ (a b : List Nat), ltCps a b = true ↔ a < b
  | [], [] => by simp [ltCps]
  | [], b :: bs => by simp [ltCps]
  | a :: as, [] => by simp [ltCps]
  | a :: as, b :: bs => by
    rw [List.cons_lt_cons_iff]
    unfold ltCps
    have ih := ltCps_iff as bs
    by_cases h : a < b
    · simp [h]
    · by_cases e : a = b
      · subst e; simp [ih]
      · simp [h, e]
def leS (x y : Str) : Bool := !ltCps y.cps.toList x.cps.toList
theorem leS_iff {x y : Str} : leS x y = true ↔ x.cps.toList ≤ y.cps.toList := by
  unfold leS
  rw [Bool.not_eq_true']
  constructor
  · intro h
    exact List.not_lt.mp fun q => by rw [(ltCps_iff _ _).mpr q] at h; cases h
  · intro h
    cases q : ltCps y.cps.toList x.cps.toList with
    | false => rfl
    | true => exact absurd ((ltCps_iff _ _).mp q) (List.not_lt.mpr h)
theorem str_ext {x y : Str} (h : x.cps.toList = y.cps.toList) : x = y := by
  cases x; cases y
  exact congrArg Str.mk (Array.toList_inj.mp h)
theorem leS_trans (a b c : Str) (h1 : leS a b = true) (h2 : leS b c = true) : leS a c = true := leS_iff.mpr (List.le_trans (leS_iff.mp h1) (leS_iff.mp h2))
theorem leS_total (a b : Str) : (leS a b || leS b a) = true := by
  rw [Bool.or_eq_true, leS_iff, leS_iff]
  exact List.le_total _ _
theorem leS_anti {a b : Str} (h1 : leS a b = true) (h2 : leS b a = true) : a = b := str_ext (List.le_antisymm (leS_iff.mp h1) (leS_iff.mp h2))
def sortS (xs : List Str) : List Str := xs.mergeSort leS
def sortI (xs : List Int) : List Int := xs.mergeSort fun a b => decide (a ≤ b)
theorem sortS_perm (xs : List Str) : (sortS xs).Perm xs := List.mergeSort_perm xs _
theorem sortS_pw (xs : List Str) : (sortS xs).Pairwise fun a b => leS a b = true := List.pairwise_mergeSort (le := leS) leS_trans leS_total xs
theorem sortI_perm (xs : List Int) : (sortI xs).Perm xs := List.mergeSort_perm xs _
theorem sortI_pw (xs : List Int) : (sortI xs).Pairwise (· ≤ ·) := by
  have h := List.pairwise_mergeSort (le := fun a b : Int => decide (a ≤ b)) (fun a b c h1 h2 => decide_eq_true (Int.le_trans (of_decide_eq_true h1) (of_decide_eq_true h2))) (fun a b => by
    rw [Bool.or_eq_true, decide_eq_true_eq, decide_eq_true_eq]; exact Int.le_total a b) xs
  exact h.imp fun h => of_decide_eq_true h
theorem sortI_eq {xs ys : List Int} (p : ys.Perm xs) (h : ys.Pairwise (· ≤ ·)) : ys = sortI xs :=
  List.Perm.eq_of_pairwise (fun x y _ _ h1 h2 => Int.le_antisymm h1 h2) h (sortI_pw xs) (p.trans (sortI_perm xs).symm)
theorem rising_pw : ∀ {p : Str} {ss : List Str}, risingS p ss = true → (p :: ss).Pairwise fun a b => leS a b = true
  | p, [], _ => List.pairwise_singleton _ _
  | p, x :: r, h => by
    have h' : (!ltCps x.cps.toList p.cps.toList && risingS x r) = true := h
    rw [Bool.and_eq_true] at h'
    have ih := rising_pw h'.2
    refine List.pairwise_cons.mpr ⟨fun y hy => ?_, ih⟩
    rcases List.mem_cons.mp hy with rfl | hy
    · exact h'.1
    · exact leS_trans p x y h'.1 ((List.pairwise_cons.mp ih).1 y hy)
theorem sortS_eq {xs ys : List Str} (p : ys.Perm xs) (h : sortedS ys = true) : ys = sortS xs := by
  have pw : ys.Pairwise fun a b => leS a b = true := by
    cases ys with
    | nil => exact List.Pairwise.nil
    | cons y r => exact rising_pw h
  exact List.Perm.eq_of_pairwise (fun x y _ _ h1 h2 => leS_anti h1 h2) pw (sortS_pw xs) (p.trans (sortS_perm xs).symm)
def intsOf : List D → Option (List Int)
  | [] => some []
  | .int i :: ds => (intsOf ds).map (i :: ·)
  | _ => none
def strsOf : List D → Option (List Str)
  | [] => some []
  | .str x :: ds => (strsOf ds).map (x :: ·)
  | _ => none
def boolsOf : List D → Option (List Bool)
  | [] => some []
  | .bl b :: ds => (boolsOf ds).map (b :: ·)
  | _ => none
theorem intsOf_eq : ∀ {ds : List D} {ns : List Int}, intsOf ds = some ns → ds = ns.map .int
  | [], _, h => by cases h; rfl
  | .int i :: ds, _, h => by
    obtain ⟨r, h1, rfl⟩ := Option.map_eq_some_iff.mp h
    rw [intsOf_eq h1]; rfl
  | .non :: _, _, h => by cases h
  | .bl _ :: _, _, h => by cases h
  | .str _ :: _, _, h => by cases h
  | .lst _ :: _, _, h => by cases h
  | .tup _ :: _, _, h => by cases h
  | .dic _ :: _, _, h => by cases h
  | .dit _ :: _, _, h => by cases h
theorem strsOf_eq : ∀ {ds : List D} {ns : List Str}, strsOf ds = some ns → ds = ns.map .str
  | [], _, h => by cases h; rfl
  | .str i :: ds, _, h => by
    obtain ⟨r, h1, rfl⟩ := Option.map_eq_some_iff.mp h
    rw [strsOf_eq h1]; rfl
  | .non :: _, _, h => by cases h
  | .bl _ :: _, _, h => by cases h
  | .int _ :: _, _, h => by cases h
  | .lst _ :: _, _, h => by cases h
  | .tup _ :: _, _, h => by cases h
  | .dic _ :: _, _, h => by cases h
  | .dit _ :: _, _, h => by cases h
theorem boolsOf_eq : ∀ {ds : List D} {ns : List Bool}, boolsOf ds = some ns → ds = ns.map .bl
  | [], _, h => by cases h; rfl
  | .bl i :: ds, _, h => by
    obtain ⟨r, h1, rfl⟩ := Option.map_eq_some_iff.mp h
    rw [boolsOf_eq h1]; rfl
  | .non :: _, _, h => by cases h
  | .str _ :: _, _, h => by cases h
  | .int _ :: _, _, h => by cases h
  | .lst _ :: _, _, h => by cases h
  | .tup _ :: _, _, h => by cases h
  | .dic _ :: _, _, h => by cases h
  | .dit _ :: _, _, h => by cases h
theorem intsOf_map (ns : List Int) : intsOf (ns.map .int) = some ns := by
  induction ns with
  | nil => rfl
  | cons n ns ih => simp [intsOf, ih]
theorem strsOf_map (ns : List Str) : strsOf (ns.map .str) = some ns := by
  induction ns with
  | nil => rfl
  | cons n ns ih => simp [strsOf, ih]
theorem boolsOf_map (ns : List Bool) : boolsOf (ns.map .bl) = some ns := by
  induction ns with
  | nil => rfl
  | cons n ns ih => simp [boolsOf, ih]
end FL

set_option Elab.async false
set_option maxRecDepth 100000
set_option maxHeartbeats 2000000
namespace FL
open PySem PySem.Spec L2

/-! ### calls of built-ins by data -/
inductive RdL (K : PySem.W.Frag) (Z H : Hp) : List V → List D → Prop
  | nil : RdL K Z H [] []
  | cons {v : V} {d : D} {vs : List V} {ds : List D} : RdD K Z H v d → RdL K Z H vs ds → RdL K Z H (v :: vs) (d :: ds)
def CallD (X : Cx) (f : Value) (g : List D → Option R) : Prop :=
  ∀ (pins : List (Addr × Obj)) (s : Shared) (σ : L2.St) (H : Hp) (vs : List V) (us : List Value) (Q : VK) (Z : Hp) (ds : List D) (r : R), Inv X pins σ H s → Vals vs us → Sub Z H → RdL X.K Z H vs ds → g ds = some r →
    (∀ z H', Out X.K Z H r z H' → Q z H') → wpAny (model X.prog X.w) X.A (call f us) (EP X pins σ Q) X.xe s
def peeks (ρ : En) : List R → Option (List D)
  | [] => some []
  | r :: rs => (peek ρ r).bind fun d => (peeks ρ rs).map (d :: ·)
def cal (g : List D → Option R) (Fs : List Sm) : Sm := fun ρ => (seqs Fs ρ).bind fun p => (peeks p.2 p.1).bind fun ds => (g ds).map fun r => (r, p.2)
theorem peeks_ok {K : PySem.W.Frag} {Z H : Hp} {σ : L2.St} {ρ : En} {fp : Nat → List Addr} (g : Good K Z H σ ρ fp) : ∀ {rs : List R} {vs : List V} {l : List Addr} {ds : List D}, RRs K Z H σ vs rs l → peeks ρ rs = some ds → RdL K Z H vs ds
  | [], _, _, _, .nil, e => by cases e; exact .nil
  | r :: rs, _, _, _, .cons h t n, e => by
    obtain ⟨d, e1, e⟩ := Option.bind_eq_some_iff.mp e
    obtain ⟨ds, e2, rfl⟩ := Option.map_eq_some_iff.mp e
    exact .cons (peek_ok g h e1) (peeks_ok g t e2)
theorem cal_go {K : PySem.W.Frag} {Fs : List Sm} {g : List D → Option R} {σ : L2.St} {H : Hp} {Q : VK} (h : tE K (cal g Fs) σ H Q) {k : List V → Hp → Prop}
    (c : ∀ Z H' vs ds r, Sub Z H' → RdL K Z H' vs ds → g ds = some r → (∀ z H'', Out K Z H' r z H'' → Q z H'') → k vs H') : tA K Fs σ H k := by
  obtain ⟨Z, ρ, fp, r, ρ3, gd, h, kt⟩ := h
  obtain ⟨⟨rs, ρ1⟩, h1, h⟩ := Option.bind_eq_some_iff.mp h
  obtain ⟨ds, h2, h⟩ := Option.bind_eq_some_iff.mp h
  obtain ⟨r', h3, e⟩ := Option.map_eq_some_iff.mp h
  cases e
  refine ⟨Z, ρ, fp, rs, ρ1, gd, h1, fun Z1 H1 vs fp1 l g1 R1 n1 P1 => ?_⟩
  exact c Z1 H1 vs ds _ g1.sub (peeks_ok g1 R1 h2) h3 fun z H'' o => kt_out kt g1 P1 (fun p q => .inl q) o
section
variable {X : Cx} {x : Str} {p pos : Pos} {e : Expr} {es : List Expr} {Fs : List Sm} {g : List D → Option R} {id T : String}
theorem plain_args : ∀ {es : List Expr}, es.all notStar = true → (starEach es X.env).any (·.1) = false
  | [], _ => rfl
  | e :: es, h => by
    rw [List.all_cons, Bool.and_eq_true] at h
    rw [star_ok h.1, List.any_cons, plain_args h.2]
    rfl
theorem plain_back {es : List Expr} (h : es.all notStar = true) : (backTo pos (starEach es X.env)).any (·.1) = false := by
  unfold backTo
  rw [List.any_map]
  exact plain_args h
theorem se_callB (hc : CallD X (.builtin id) g) (hg : Gl X x) (hm : X.mg x = none) (hv : bootBuiltins x = some (.builtin id)) (ha : PA X (e :: es) (tA X.K Fs)) (hs : (e :: es).all notStar = true) (hn : x ≠ "__name__") (hdb : (x == ("__debug__" : Str)) = false) :
    PE X (.Call (.Name x p) (e :: es) [] pos) (tE X.K (cal g Fs)) := by
  have hs2 := hs
  rw [List.all_cons, Bool.and_eq_true] at hs2
  refine pe_weak (pe_callB (r := fun vs H Q => ∃ Z ds r, Sub Z H ∧ RdL X.K Z H vs ds ∧ g ds = some r ∧ ∀ z H', Out X.K Z H r z H' → Q z H') (fun pins s σ H vs us Q I rv ⟨Z, ds, r, q1, q2, q3, q4⟩ => hc pins s σ H vs us Q Z ds r I rv q1 q2 q3 q4) hg hm hv ha hn hdb (star_ok hs2.1) (plain_back hs2.2)) ?_
  exact fun σ H Q q => cal_go q fun Z H' vs ds r q1 q2 q3 q4 => ⟨Z, ds, r, q1, q2, q3, q4⟩
theorem se_callTy (hc : CallD X (.type T) g) (hg : Gl X x) (hm : X.mg x = none) (hv : bootBuiltins x = some (.type T)) (ha : PA X (e :: es) (tA X.K Fs)) (hs : (e :: es).all notStar = true) (hn : x ≠ "__name__") (hdb : (x == ("__debug__" : Str)) = false) :
    PE X (.Call (.Name x p) (e :: es) [] pos) (tE X.K (cal g Fs)) := by
  have hs2 := hs
  rw [List.all_cons, Bool.and_eq_true] at hs2
  refine pe_weak (pe_callTy (r := fun vs H Q => ∃ Z ds r, Sub Z H ∧ RdL X.K Z H vs ds ∧ g ds = some r ∧ ∀ z H', Out X.K Z H r z H' → Q z H') (fun pins s σ H vs us Q I rv ⟨Z, ds, r, q1, q2, q3, q4⟩ => hc pins s σ H vs us Q Z ds r I rv q1 q2 q3 q4) hg hm hv ha hn hdb (star_ok hs2.1) (plain_back hs2.2)) ?_
  exact fun σ H Q q => cal_go q fun Z H' vs ds r q1 q2 q3 q4 => ⟨Z, ds, r, q1, q2, q3, q4⟩
end

/-! ### the built-ins -/
def d1 (g : D → Option R) : List D → Option R
  | [d] => g d
  | _ => none
def d2 (g : D → D → Option R) : List D → Option R
  | [d, e] => g d e
  | _ => none
theorem d1_some {g : D → Option R} {ds : List D} {r : R} (h : d1 g ds = some r) : ∃ d, ds = [d] ∧ g d = some r := by
  match ds, h with
  | [d], h => exact ⟨d, rfl, h⟩
theorem d2_some {g : D → D → Option R} {ds : List D} {r : R} (h : d2 g ds = some r) : ∃ d e, ds = [d, e] ∧ g d e = some r := by
  match ds, h with
  | [d, e], h => exact ⟨d, e, rfl, h⟩
def lenF : D → Option R
  | .str x => if x.length ≤ sizeLine then some (.fz (.int x.length)) else none
  | .lst xs => some (.fz (.int xs.length))
  | .tup xs => some (.fz (.int xs.length))
  | .dic kvs => some (.fz (.int kvs.length))
  | _ => none
def absF : D → Option R
  | .int i => some (.fz (.int (if i < 0 then -i else i)))
  | _ => none
def intF : D → Option R
  | .int i => some (.fz (.int i))
  | .bl b => some (.fz (.int (if b then 1 else 0)))
  | _ => none
def listF : D → Option R
  | .lst xs => some (.nw (.ow (.lst xs)))
  | .tup xs => some (.nw (.ow (.lst xs)))
  | .dic kvs => some (.nw (.ow (.lst (kvs.map fun p => dOf p.1))))
  | .str x => if x.cps.size ≤ sizeLine then some (.nw (.ow (.lst (charsOf x)))) else none
  | _ => none
def tupleF : D → Option R
  | .lst xs => some (.fz (.tup xs))
  | _ => none
def pairsOf : List D → Option (List (Key × D))
  | [] => some []
  | .tup [k, v] :: ds => (keyOf k).bind fun k => (pairsOf ds).map ((k, v) :: ·)
  | _ => none
def dmerge (kvs more : List (Key × D)) : List (Key × D) := more.foldl (fun acc p => dput acc p.1 p.2) kvs
def dictF : D → Option R
  | .dic kvs => some (.nw (.ow (.dic kvs)))
  | .lst ds => (pairsOf ds).map fun kvs => .nw (.ow (.dic (dmerge [] kvs)))
  | _ => none
def keyStrs : List (Key × D) → Option (List Str)
  | [] => some []
  | (.inr x, _) :: r => (keyStrs r).map (x :: ·)
  | _ => none
def sortedF : D → Option R
  | .lst ds => match intsOf ds with
    | some ns => some (.nw (.ow (.lst ((sortI ns).map .int))))
    | none => match strsOf ds with
      | some ss => if ss.length < 64 then some (.nw (.ow (.lst ((sortS ss).map .str)))) else none
      | none => none
  | .dic kvs => match keyStrs kvs with
    | some ss => if ss.length < 64 then some (.nw (.ow (.lst ((sortS ss).map .str)))) else none
    | none => none
  | _ => none
def sumF : D → Option R
  | .lst ds => (intsOf ds).map fun ns => .fz (.int ns.sum)
  | _ => none
def allF : D → Option R
  | .lst ds => (boolsOf ds).map fun bs => .fz (.bl (bs.all id))
  | _ => none
def anyF : D → Option R
  | .lst ds => (boolsOf ds).map fun bs => .fz (.bl (bs.any id))
  | _ => none
def minF : D → D → Option R
  | .int i, .int j => some (.fz (.int (if j < i then j else i)))
  | _, _ => none
def maxF : D → D → Option R
  | .int i, .int j => some (.fz (.int (if j > i then j else i)))
  | _, _ => none

theorem rep_ints {K : PySem.W.Frag} {Z : Hp} : ∀ {ns : List Int} {vs : List V}, RepL K Z vs (ns.map .int) → vs = ns.map V.int
  | [], _, h => by cases h; rfl
  | n :: ns, _, h => by
    cases h with
    | cons h t => cases h; rw [rep_ints t]; rfl
theorem rep_strs {K : PySem.W.Frag} {Z : Hp} : ∀ {ns : List Str} {vs : List V}, RepL K Z vs (ns.map .str) → vs = ns.map V.str
  | [], _, h => by cases h; rfl
  | n :: ns, _, h => by
    cases h with
    | cons h t => cases h; rw [rep_strs t]; rfl
theorem rep_bools {K : PySem.W.Frag} {Z : Hp} : ∀ {ns : List Bool} {vs : List V}, RepL K Z vs (ns.map .bl) → vs = ns.map V.bl
  | [], _, h => by cases h; rfl
  | n :: ns, _, h => by
    cases h with
    | cons h t => cases h; rw [rep_bools t]; rfl
theorem ints_rep {K : PySem.W.Frag} {Z : Hp} : ∀ (ns : List Int), RepL K Z (ns.map V.int) (ns.map .int)
  | [] => .nil
  | n :: ns => .cons (.int n) (ints_rep ns)
theorem strs_rep {K : PySem.W.Frag} {Z : Hp} : ∀ (ns : List Str), RepL K Z (ns.map V.str) (ns.map .str)
  | [] => .nil
  | n :: ns => .cons (.str n) (strs_rep ns)
theorem keys_rep {K : PySem.W.Frag} {Z : Hp} : ∀ {kvs : List (Key × V)} {kds : List (Key × D)}, RepK K Z kvs kds → RepL K Z (kvs.map fun p => kV p.1) (kds.map fun p => dOf p.1)
  | _, _, .nil => .nil
  | _, _, .cons (k := k) h t => by
    refine .cons ?_ (keys_rep t)
    cases k with
    | inl i => exact .int i
    | inr x => exact .str x
theorem vals_ix : ∀ {xs : List V} {us : List Value}, xs.length = us.length → (∀ (j : Nat) (x : V), xs[j]? = some x → ∃ u, us[j]? = some u ∧ RelV x u) → Vals xs us
  | [], [], _, _ => .nil
  | [], _ :: _, h, _ => by cases h
  | _ :: _, [], h, _ => by cases h
  | x :: xs, u :: us, h, f => by
    obtain ⟨u', e1, r⟩ := f 0 x rfl
    cases e1
    exact .cons r (vals_ix (Nat.succ.inj h) fun j y e => f (j + 1) y e)
section
variable {X : Cx}
theorem cd_len : CallD X (.builtin "len") (d1 lenF) := by
  intro pins s σ H vs us Q Z ds r I rv sb hd e q
  obtain ⟨d, rfl, e⟩ := d1_some e
  cases hd with
  | cons h t =>
    cases t
    cases d with
    | str x =>
      obtain ⟨hz, e'⟩ := ite_some (show (if x.length ≤ sizeLine then some (R.fz (.int x.length)) else none) = some r from e)
      cases e'
      exact call_len_str pins s σ H _ us Q I rv ⟨x, by rw [(show _ = V.str x from h)], hz, q _ _ (.same (.int _))⟩
    | lst xs =>
      cases e
      obtain ⟨a, ws, rfl, h1, h2⟩ := h
      refine call_len_seq pins s σ H _ us Q I rv ⟨a, ws, rfl, .inl h1, ?_⟩
      rw [h2.length]
      exact q _ _ (.same (.int _))
    | tup xs =>
      cases e
      obtain ⟨a, ws, rfl, h1, h2⟩ := h
      refine call_len_seq pins s σ H _ us Q I rv ⟨a, ws, rfl, .inr (SqT.of h1), ?_⟩
      rw [h2.length]
      exact q _ _ (.same (.int _))
    | dic kvs =>
      cases e
      obtain ⟨a, ws, rfl, h1, h2⟩ := h
      obtain ⟨u, rfl, ru⟩ := vals1 rv
      cases ru
      refine d_len I h1 fun t s' I' => ⟨.int ws.length, H, I', ⟨t, rfl⟩, ?_⟩
      rw [h2.length]
      exact q _ _ (.same (.int _))
    | _ => cases e
theorem cd_abs : CallD X (.builtin "abs") (d1 absF) := by
  intro pins s σ H vs us Q Z ds r I rv sb hd e q
  obtain ⟨d, rfl, e⟩ := d1_some e
  cases hd with
  | cons h t =>
    cases t
    cases d with
    | int i =>
      cases e
      exact call_abs pins s σ H _ us Q I rv ⟨i, by rw [(show _ = V.int i from h)], q _ _ (.same (.int _))⟩
    | _ => cases e
theorem cd_int : CallD X (.type "int") (d1 intF) := by
  intro pins s σ H vs us Q Z ds r I rv sb hd e q
  obtain ⟨d, rfl, e⟩ := d1_some e
  cases hd with
  | cons h t =>
    cases t
    cases d with
    | int i =>
      cases e
      exact call_int1 pins s σ H _ us Q I rv (.inl ⟨i, by rw [(show _ = V.int i from h)], q _ _ (.same (.int _))⟩)
    | bl b =>
      cases e
      exact call_int1 pins s σ H _ us Q I rv (.inr ⟨b, by rw [(show _ = V.bl b from h)], q _ _ (.same (.int _))⟩)
    | _ => cases e
theorem cd_min (hc : X.calm = true) : CallD X (.builtin "min") (d2 minF) := by
  intro pins s σ H vs us Q Z ds r I rv sb hd e q
  obtain ⟨d, d', rfl, e⟩ := d2_some e
  cases hd with
  | cons h t =>
    cases t with
    | cons h' t =>
      cases t
      cases d with
      | int i =>
        cases d' with
        | int j =>
          cases e
          exact call_min2 hc pins s σ H _ us Q I rv ⟨i, j, by rw [(show _ = V.int i from h), (show _ = V.int j from h')], q _ _ (.same (.int _))⟩
        | _ => cases e
      | _ => cases d' <;> cases e
theorem cd_max (hc : X.calm = true) : CallD X (.builtin "max") (d2 maxF) := by
  intro pins s σ H vs us Q Z ds r I rv sb hd e q
  obtain ⟨d, d', rfl, e⟩ := d2_some e
  cases hd with
  | cons h t =>
    cases t with
    | cons h' t =>
      cases t
      cases d with
      | int i =>
        cases d' with
        | int j =>
          cases e
          exact call_max2 hc pins s σ H _ us Q I rv ⟨i, j, by rw [(show _ = V.int i from h), (show _ = V.int j from h')], q _ _ (.same (.int _))⟩
        | _ => cases e
      | _ => cases d' <;> cases e
theorem cd_sum (hc : X.calm = true) : CallD X (.builtin "sum") (d1 sumF) := by
  intro pins s σ H vs us Q Z ds r I rv sb hd e q
  obtain ⟨d, rfl, e⟩ := d1_some e
  cases hd with
  | cons h t =>
    cases t
    cases d with
    | lst xs =>
      obtain ⟨ns, e1, rfl⟩ := Option.map_eq_some_iff.mp (show (intsOf xs).map (fun ns => R.fz (.int ns.sum)) = some r from e)
      obtain ⟨a, ws, rfl, h1, h2⟩ := h
      rw [intsOf_eq e1] at h2
      rw [rep_ints h2] at h1
      exact cr_sum hc pins s σ H _ us Q I rv ⟨a, ns, rfl, h1, q _ _ (.same (.int _))⟩
    | _ => cases e
theorem cd_all (hc : X.calm = true) : CallD X (.builtin "all") (d1 allF) := by
  intro pins s σ H vs us Q Z ds r I rv sb hd e q
  obtain ⟨d, rfl, e⟩ := d1_some e
  cases hd with
  | cons h t =>
    cases t
    cases d with
    | lst xs =>
      obtain ⟨ns, e1, rfl⟩ := Option.map_eq_some_iff.mp (show (boolsOf xs).map (fun bs => R.fz (.bl (bs.all id))) = some r from e)
      obtain ⟨a, ws, rfl, h1, h2⟩ := h
      rw [boolsOf_eq e1] at h2
      rw [rep_bools h2] at h1
      exact cr_all hc pins s σ H _ us Q I rv ⟨a, ns, rfl, h1, q _ _ (.same (.bl _))⟩
    | _ => cases e
theorem cd_any (hc : X.calm = true) : CallD X (.builtin "any") (d1 anyF) := by
  intro pins s σ H vs us Q Z ds r I rv sb hd e q
  obtain ⟨d, rfl, e⟩ := d1_some e
  cases hd with
  | cons h t =>
    cases t
    cases d with
    | lst xs =>
      obtain ⟨ns, e1, rfl⟩ := Option.map_eq_some_iff.mp (show (boolsOf xs).map (fun bs => R.fz (.bl (bs.any id))) = some r from e)
      obtain ⟨a, ws, rfl, h1, h2⟩ := h
      rw [boolsOf_eq e1] at h2
      rw [rep_bools h2] at h1
      exact cr_any hc pins s σ H _ us Q I rv ⟨a, ns, rfl, h1, q _ _ (.same (.bl _))⟩
    | _ => cases e
theorem chars_rep {K : PySem.W.Frag} {Z : Hp} (x : Str) : RepL K Z (x.cps.toList.map fun c => V.str ⟨#[c]⟩) (charsOf x) := by
  unfold charsOf
  induction x.cps.toList with
  | nil => exact .nil
  | cons c cs ih => exact .cons (.str _) ih
theorem cd_list (hc : X.calm = true) : CallD X (.type "list") (d1 listF) := by
  intro pins s σ H vs us Q Z ds r I rv sb hd e q
  obtain ⟨d, rfl, e⟩ := d1_some e
  cases hd with
  | cons h t =>
    cases t
    cases d with
    | lst xs =>
      cases e
      obtain ⟨a, ws, rfl, h1, h2⟩ := h
      exact call_list_of pins s σ H _ us Q I rv ⟨a, ws, rfl, .inl h1, fun l hl => q _ _ (.new (o := .lst ws) (d := .lst xs) hl ⟨ws, upd_same, h2⟩)⟩
    | tup xs =>
      cases e
      obtain ⟨a, ws, rfl, h1, h2⟩ := h
      exact call_list_of pins s σ H _ us Q I rv ⟨a, ws, rfl, .inr (SqT.of h1), fun l hl => q _ _ (.new (o := .lst ws) (d := .lst xs) hl ⟨ws, upd_same, h2⟩)⟩
    | dic kvs =>
      cases e
      obtain ⟨a, ws, rfl, h1, h2⟩ := h
      exact call_listD hc pins s σ H _ us Q I rv ⟨a, ws, rfl, h1, fun l hl => q _ _ (.new (o := .lst _) (d := .lst _) hl ⟨_, upd_same, keys_rep h2⟩)⟩
    | str x =>
      obtain ⟨hz, e'⟩ := ite_some (show (if x.cps.size ≤ sizeLine then some (R.nw (.ow (.lst (charsOf x)))) else none) = some r from e)
      cases e'
      obtain ⟨u, rfl, ru⟩ := vals1 rv
      rw [(show _ = V.str x from h)] at ru
      obtain ⟨tk, rfl⟩ := ru
      refine call_list_str (I.ok.hd hc) x tk (hn := hz) fun h' tk' acc c hk hS hacc => ?_
      have hlen : acc.toList.length = (x.cps.toList.map fun c => V.str ⟨#[c]⟩).length := by rw [Array.length_toList, hacc.1, List.length_map, Array.length_toList]
      have hv : Vals (x.cps.toList.map fun c => V.str ⟨#[c]⟩) acc.toList := vals_ix hlen.symm fun j v e => by
        rw [List.getElem?_map] at e
        cases e1 : x.cps.toList[j]? with
        | none => rw [e1] at e; cases e
        | some c =>
          rw [e1] at e
          cases e
          have hj : j < acc.toList.length := by rw [hlen, List.length_map]; exact (List.getElem?_eq_some_iff.mp e1).1
          refine ⟨acc.toList[j], List.getElem?_eq_getElem hj, ?_⟩
          obtain ⟨c', u', e2, e3⟩ := hacc.2 j acc.toList[j] (by rw [← Array.getElem?_toList, List.getElem?_eq_getElem hj])
          rw [← Array.getElem?_toList, e1] at e2
          cases e2
          exact ⟨u', e3⟩
      have I2 : Inv X pins σ (upd H s.heap.objs.size (.lst (x.cps.toList.map fun c => V.str ⟨#[c]⟩))) { s with heap := h', toks := tk' } :=
        I.laid hk (Nat.le_refl _) ⟨by rw [List.length_map, Array.length_toList]; exact hz, acc.toList, c, hv, by rw [Array.toArray_toList]; exact hS⟩
      exact ⟨.ref _, _, I2, rfl, q _ _ (.new (o := .lst _) (d := .lst _) I.fresh ⟨_, upd_same, chars_rep x⟩)⟩
    | _ => cases e
theorem cd_tuple : CallD X (.type "tuple") (d1 tupleF) := by
  intro pins s σ H vs us Q Z ds r I rv sb hd e q
  obtain ⟨d, rfl, e⟩ := d1_some e
  cases hd with
  | cons h t =>
    cases t
    cases d with
    | lst xs =>
      cases e
      obtain ⟨a, ws, rfl, h1, h2⟩ := h
      exact call_tuple_of pins s σ H _ us Q I rv ⟨a, ws, rfl, .inl ⟨h1, fun l hl => q _ _ (.tup hl h2)⟩⟩
    | _ => cases e
theorem keyStrs_eq {K : PySem.W.Frag} {Z : Hp} : ∀ {kvs : List (Key × V)} {kds : List (Key × D)} {ss : List Str}, RepK K Z kvs kds → keyStrs kds = some ss → kvs.map (·.1) = ss.map Sum.inr
  | _, [], _, .nil, e => by cases e; rfl
  | _, (.inr x, d) :: _, _, .cons h t, e => by
    obtain ⟨r, e1, rfl⟩ := Option.map_eq_some_iff.mp (show (keyStrs _).map (x :: ·) = some _ from e)
    rw [List.map_cons, List.map_cons, keyStrs_eq t e1]
  | _, (.inl x, d) :: _, _, .cons h t, e => by cases e
theorem cd_sorted (hc : X.calm = true) : CallD X (.builtin "sorted") (d1 sortedF) := by
  intro pins s σ H vs us Q Z ds r I rv sb hd e q
  obtain ⟨d, rfl, e⟩ := d1_some e
  cases hd with
  | cons h t =>
    cases t
    cases d with
    | lst xs =>
      obtain ⟨a, ws, rfl, h1, h2⟩ := h
      have e' : (match intsOf xs with
        | some ns => some (R.nw (.ow (.lst ((sortI ns).map .int))))
        | none => match strsOf xs with
          | some ss => if ss.length < 64 then some (R.nw (.ow (.lst ((sortS ss).map .str)))) else none
          | none => none) = some r := e
      cases q1 : intsOf xs with
      | some ns =>
        rw [q1] at e'
        cases e'
        rw [intsOf_eq q1] at h2
        rw [rep_ints h2] at h1
        refine cr_sortedI pins s σ H _ us Q I rv ⟨a, ns, rfl, h1, fun ns' p hp hs hn => ?_⟩
        rw [sortI_eq hp hs]
        exact q _ _ (.new (o := .lst _) (d := .lst _) hn ⟨_, upd_same, ints_rep _⟩)
      | none =>
        rw [q1] at e'
        cases q2 : strsOf xs with
        | none => rw [q2] at e'; cases e'
        | some ss =>
          rw [q2] at e'
          obtain ⟨hz, e2⟩ := ite_some e'
          cases e2
          rw [strsOf_eq q2] at h2
          rw [rep_strs h2] at h1
          refine cr_sortedS pins s σ H _ us Q I rv ⟨a, ss, rfl, h1, hz, fun ns' p hp hs hn => ?_⟩
          rw [sortS_eq hp hs]
          exact q _ _ (.new (o := .lst _) (d := .lst _) hn ⟨_, upd_same, strs_rep _⟩)
    | dic kvs =>
      obtain ⟨a, ws, rfl, h1, h2⟩ := h
      have e' : (match keyStrs kvs with
        | some ss => if ss.length < 64 then some (R.nw (.ow (.lst ((sortS ss).map .str)))) else none
        | none => none) = some r := e
      cases q2 : keyStrs kvs with
      | none => rw [q2] at e'; cases e'
      | some ss =>
        rw [q2] at e'
        obtain ⟨hz, e2⟩ := ite_some e'
        cases e2
        refine call_sortedD hc pins s σ H _ us Q I rv ⟨a, ws, ss, rfl, h1, keyStrs_eq h2 q2, hz, fun ns' p hp hs hn => ?_⟩
        rw [sortS_eq hp hs]
        exact q _ _ (.new (o := .lst _) (d := .lst _) hn ⟨_, upd_same, strs_rep _⟩)
    | _ => cases e
theorem dput_rep {K : PySem.W.Frag} {Z : Hp} {kvs : List (Key × V)} {kds : List (Key × D)} (h : RepK K Z kvs kds) {k : Key} {v : V} {d : D} (hv : Rep K Z v d) : RepK K Z (putK kvs k v) (dput kds k d) := by
  have anyE : ∀ {kvs : List (Key × V)} {kds : List (Key × D)}, RepK K Z kvs kds → (kvs.any fun kv => decide (kv.1 = k)) = (kds.any fun kv => decide (kv.1 = k)) := by
    intro kvs
    induction kvs with
    | nil => intro kds h; cases h; rfl
    | cons p ps ih =>
      intro kds h
      cases h with
      | @cons k' v' d' _ ds h r =>
        rw [List.any_cons, List.any_cons, ih r]
  have mapE : ∀ {kvs : List (Key × V)} {kds : List (Key × D)}, RepK K Z kvs kds → RepK K Z (kvs.map fun kv => if kv.1 = k then (kv.1, v) else kv) (kds.map fun kv => if kv.1 = k then (kv.1, d) else kv) := by
    intro kvs
    induction kvs with
    | nil => intro kds h; cases h; exact .nil
    | cons p ps ih =>
      intro kds h
      cases h with
      | @cons k' v' d' _ ds h r =>
        rw [List.map_cons, List.map_cons]
        by_cases e : k' = k
        · rw [if_pos e, if_pos e]; exact .cons hv (ih r)
        · rw [if_neg e, if_neg e]; exact .cons h (ih r)
  have app : ∀ {kvs : List (Key × V)} {kds : List (Key × D)}, RepK K Z kvs kds → RepK K Z (kvs ++ [(k, v)]) (kds ++ [(k, d)]) := by
    intro kvs
    induction kvs with
    | nil => intro kds h; cases h; exact .cons hv .nil
    | cons p ps ih =>
      intro kds h
      cases h with
      | cons h r => exact .cons h (ih r)
  unfold putK dput
  rw [← anyE h]
  split
  · exact mapE h
  · exact app h
theorem dmerge_rep {K : PySem.W.Frag} {Z : Hp} {more : List (Key × V)} : ∀ {mds : List (Key × D)} {kvs : List (Key × V)} {kds : List (Key × D)}, RepK K Z kvs kds → RepK K Z more mds → RepK K Z (mergeK kvs more) (dmerge kds mds) := by
  induction more with
  | nil => intro mds kvs kds h m; cases m; exact h
  | cons p ps ih =>
    intro mds kvs kds h m
    cases m with
    | @cons k v d _ ds hv t => exact ih (kvs := putK kvs k v) (kds := dput kds k d) (dput_rep h hv) t
theorem pairsOf_rep {K : PySem.W.Frag} {Z H : Hp} (sb : Sub Z H) : ∀ {ds : List D} {vs : List V} {kds : List (Key × D)}, RepL K Z vs ds → pairsOf ds = some kds → ∃ (ps : List Addr) (kvs : List (Key × V)), vs = ps.map V.ref ∧ Paired (fun p kv => SqT K H p [kV kv.1, kv.2]) ps kvs ∧ RepK K Z kvs kds
  | [], _, _, .nil, e => by cases e; exact ⟨[], [], rfl, .nil, .nil⟩
  | .tup [k, v] :: ds, _, _, .cons h t, e => by
    obtain ⟨k', e1, e⟩ := Option.bind_eq_some_iff.mp (show (keyOf k).bind (fun k => (pairsOf ds).map ((k, v) :: ·)) = some _ from e)
    obtain ⟨r, e2, rfl⟩ := Option.map_eq_some_iff.mp e
    obtain ⟨ps, kvs, rfl, h1, h2⟩ := pairsOf_rep sb t e2
    cases h with
    | @tup a ws _ ha hl =>
      cases hl with
      | cons r1 t1 =>
        cases t1 with
        | cons r2 t2 =>
          cases t2
          have ek := rep_key r1 e1
          subst ek
          exact ⟨a :: ps, (k', _) :: kvs, rfl, .cons (SqT.of ((sb _ _ ha).elim id fun z => z.2.elim)) h1, .cons r2 h2⟩
  | .tup [] :: ds, _, _, _, e => by cases e
  | .tup [_] :: ds, _, _, _, e => by cases e
  | .tup (_ :: _ :: _ :: _) :: ds, _, _, _, e => by cases e
  | .non :: ds, _, _, _, e => by cases e
  | .bl _ :: ds, _, _, _, e => by cases e
  | .int _ :: ds, _, _, _, e => by cases e
  | .str _ :: ds, _, _, _, e => by cases e
  | .lst _ :: ds, _, _, _, e => by cases e
  | .dic _ :: ds, _, _, _, e => by cases e
  | .dit _ :: ds, _, _, _, e => by cases e
theorem cd_dict (hc : X.calm = true) : CallD X (.type "dict") (d1 dictF) := by
  intro pins s σ H vs us Q Z ds r I rv sb hd e q
  obtain ⟨d, rfl, e⟩ := d1_some e
  cases hd with
  | cons h t =>
    cases t
    cases d with
    | lst xs =>
      obtain ⟨kds, e1, rfl⟩ := Option.map_eq_some_iff.mp (show (pairsOf xs).map (fun kvs => R.nw (.ow (.dic (dmerge [] kvs)))) = some r from e)
      obtain ⟨a, ws, rfl, h1, h2⟩ := h
      obtain ⟨ps, kvs, rfl, k1, k2⟩ := pairsOf_rep sb h2 e1
      exact call_dictP hc pins s σ H _ us Q I rv ⟨a, ps, kvs, rfl, h1, k1, fun p hp => q _ _ (.new (o := .dK _) (d := .dic _) hp ⟨_, upd_same, dmerge_rep .nil k2⟩)⟩
    | dic kvs =>
      cases e
      obtain ⟨a, ws, rfl, h1, h2⟩ := h
      exact call_dictD pins s σ H _ us Q I rv ⟨a, ws, rfl, h1, fun p hp => q _ _ (.new (o := .dK _) (d := .dic _) hp ⟨_, upd_same, h2⟩)⟩
    | _ => cases e

/-! ### isinstance -/
def kindD : D → String
  | .non => "NoneType"
  | .bl _ => "bool"
  | .int _ => "int"
  | .str _ => "str"
  | .lst _ => "list"
  | .tup _ => "tuple"
  | .dic _ => "dict"
  | .dit _ => "dict"
def isT (T : String) (d : D) : Bool := kindD d == T || (T == "int" && kindD d == "bool")
def isF (T : String) : D → Option R
  | .dit _ => none
  | d => bR (isT T d)
theorem ty_of {K : PySem.W.Frag} {Z H : Hp} {v : V} {d : D} {T : String} {r : R} (h : RdD K Z H v d) (e : isF T d = some r) : TyX K H v (.type (kindD d)) ∧ bR (isT T d) = some r := by
  cases d with
  | non => rw [(show v = V.non from h)]; exact ⟨.base .non, e⟩
  | bl b => rw [(show v = V.bl b from h)]; exact ⟨.base (.bl b), e⟩
  | int i => rw [(show v = V.int i from h)]; exact ⟨.base (.int i), e⟩
  | str x => rw [(show v = V.str x from h)]; exact ⟨.base (.str x), e⟩
  | lst ds =>
    refine ⟨?_, e⟩
    obtain ⟨a, vs, rfl, h1, h2⟩ := h
    rcases h1 with (h1 | ⟨o, h1⟩) | ⟨o, its, n, k1, k2, _⟩
    · exact .base (.lst h1)
    · exact .base (.frz h1)
    · exact .kList k1 k2
  | tup ds => obtain ⟨a, vs, rfl, h1, h2⟩ := h; exact ⟨.base (.tup h1), e⟩
  | dic ds =>
    refine ⟨?_, e⟩
    obtain ⟨a, vs, rfl, h1, h2⟩ := h
    rcases h1 with h1 | ⟨o, h1⟩
    · exact .base (.dK h1)
    · exact .fDict h1
  | dit ds => cases e
def tyNames : List String := ["int", "bool", "str", "dict", "tuple", "list"]
theorem kit_kinds : ∀ d ∈ ["NoneType", "bool", "int", "str", "list", "tuple", "dict"], ∀ T ∈ tyNames, kitB d T = some (d == T || (T == "int" && d == "bool")) := by
  intro d hd T hT
  simp only [tyNames, List.mem_cons, List.not_mem_nil, or_false] at hd hT
  rcases hd with rfl | rfl | rfl | rfl | rfl | rfl | rfl <;> rcases hT with rfl | rfl | rfl | rfl | rfl | rfl <;> decide +kernel
theorem kind_mem (d : D) : kindD d ∈ ["NoneType", "bool", "int", "str", "list", "tuple", "dict"] := by cases d <;> simp [kindD]
end
/-- one thing, by its data -/
def uno (g : D → Option R) (F : Sm) : Sm := fun ρ => (F ρ).bind fun p => (peek p.2 p.1).bind fun d => (g d).map fun r => (r, p.2)
theorem uno_go {K : PySem.W.Frag} {F : Sm} {g : D → Option R} {σ : L2.St} {H : Hp} {Q : VK} (h : tE K (uno g F) σ H Q) {k : V → Hp → Prop}
    (c : ∀ Z H' v d r, Sub Z H' → RdD K Z H' v d → g d = some r → (∀ z H'', Out K Z H' r z H'' → Q z H'') → k v H') : tE K F σ H k := by
  obtain ⟨Z, ρ, fp, r, ρ3, gd, h, kt⟩ := h
  obtain ⟨⟨r1, ρ1⟩, h1, h⟩ := Option.bind_eq_some_iff.mp h
  obtain ⟨d, h2, h⟩ := Option.bind_eq_some_iff.mp h
  obtain ⟨r', h3, e⟩ := Option.map_eq_some_iff.mp h
  cases e
  refine ⟨Z, ρ, fp, r1, ρ1, gd, h1, fun Z1 H1 v fp1 l g1 R1 n1 P1 => ?_⟩
  exact c Z1 H1 v d _ g1.sub (peek_ok g1 R1 h2) h3 fun z H'' o => kt_out kt g1 P1 (fun p q => .inl q) o
section
variable {X : Cx} {p pos pT : Pos} {e : Expr} {F : Sm}
theorem se_isi {T : Str} {n : String} (hn : n ∈ tyNames) (hg : Gl X "isinstance") (hm : X.mg "isinstance" = none) (hT : Gl X T) (hmT : X.mg T = none) (hv : bootBuiltins T = some (.type n)) (he : PE X e (tE X.K F)) (hs : notStar e = true) (h1 : T ≠ "__name__") (h2 : (T == ("__debug__" : Str)) = false) :
    PE X (.Call (.Name "isinstance" p) [e, .Name T pT] [] pos) (tE X.K (uno (isF n) F)) := by
  refine pe_weak (pe_callB call_isi hg hm PyProof.Rows.boot_isinstance (pa_cons he (pa_cons (pe_bltn (v := .ty n) hT hmT hv rfl h1 h2) pa_nil) (star_ok hs)) (by decide) (by decide) (star_ok hs) (by rfl)) ?_
  intro σ H Q q
  refine uno_go q fun Z H' v d r sb hd e2 o => ?_
  obtain ⟨t1, t2⟩ := ty_of hd e2
  exact ⟨v, .ty n, _, _, _, rfl, .ty n, t1, kit_ty (kit_kinds _ (kind_mem d) n hn), out_b t2 o⟩
end
end FL

set_option Elab.async false
set_option maxRecDepth 100000
set_option maxHeartbeats 2000000
namespace FL
open PySem PySem.Spec L2

/-! ### subscripts -/
def ixD : D → D → Option R
  | .lst xs, .int i => (atI xs i).map .fz
  | .tup xs, .int i => (atI xs i).map .fz
  | .dic kvs, d => (keyOf d).bind fun k => (dfind kvs k).map .fz
  | .dit kvs, .tup ds => (keysOf ds).bind fun k => (dfind kvs k).map .fz
  | _, _ => none
def notSlice : Expr → Bool
  | .Slice _ _ _ _ => false
  | _ => true
theorem plainIx {b : Expr} (h : notSlice b = true) : PlainIx b := by
  intro o i
  cases b <;> first | rfl | cases h
theorem atI_rep {K : PySem.W.Frag} {Z : Hp} {vs : List V} {ds : List D} {i : Int} {d : D} (h : RepL K Z vs ds) (e : atI ds i = some d) : ∃ v, atI vs i = some v ∧ Rep K Z v d := by
  unfold atI at e ⊢
  rw [h.length]
  obtain ⟨j, e1, e2⟩ := Option.bind_eq_some_iff.mp e
  obtain ⟨v, h1, h2⟩ := h.get e2
  exact ⟨v, by rw [e1]; exact h1, h2⟩
section
variable {X : Cx}
theorem ixd (hu : X.A.units + 200 < cLine) : IxR X (fun x y H Q => ∃ Z dx dy r, Sub Z H ∧ RdD X.K Z H x dx ∧ RdD X.K Z H y dy ∧ ixD dx dy = some r ∧ ∀ z H', Out X.K Z H r z H' → Q z H') := by
  intro value slice pins s σ H x y v u Q I rx ry ⟨Z, dx, dy, r, sb, hx, hy, e, q⟩ hs
  cases dx with
  | lst xs =>
    cases dy with
    | int i =>
      obtain ⟨d, e1, rfl⟩ := Option.map_eq_some_iff.mp (show (atI xs i).map R.fz = some r from e)
      obtain ⟨a, vs, rfl, h1, h2⟩ := hx
      obtain ⟨w, e2, h3⟩ := atI_rep h2 e1
      exact ix_list value slice pins s σ H _ y v u Q I rx ry ⟨a, vs, i, w, rfl, hy, h1, e2, q _ _ (.same h3)⟩ hs
    | _ => cases e
  | tup xs =>
    cases dy with
    | int i =>
      obtain ⟨d, e1, rfl⟩ := Option.map_eq_some_iff.mp (show (atI xs i).map R.fz = some r from e)
      obtain ⟨a, vs, rfl, h1, h2⟩ := hx
      obtain ⟨w, e2, h3⟩ := atI_rep h2 e1
      exact ix_tup value slice pins s σ H _ y v u Q I rx ry ⟨a, vs, i, w, rfl, hy, SqT.of h1, e2, q _ _ (.same h3)⟩ hs
    | _ => cases e
  | dic kvs =>
    obtain ⟨k, e1, e2⟩ := Option.bind_eq_some_iff.mp (show (keyOf dy).bind (fun k => (dfind kvs k).map R.fz) = some r from by cases dy <;> exact e)
    obtain ⟨d, e3, rfl⟩ := Option.map_eq_some_iff.mp e2
    obtain ⟨a, vs, rfl, h1, h2⟩ := hx
    cases rx
    have ey := keyOf_v hy e1
    subst ey
    rcases dfind_val h2 k with ⟨n1, n2⟩ | ⟨w, d', m1, m2, m3⟩
    · rw [n2] at e3; cases e3
    · rw [m2] at e3
      cases e3
      have g : DGet H a (kV k) (some w) := .inl ⟨vs, k, h1, rfl, m1.symm⟩
      exact PyProof.Rows.tail_any (dict_typeIs I g) PySem.F.slot_dict_getitem.lookup (d_getItem (by omega) I g ry fun w' s' I' rw' => ⟨w, H, I', rw', q _ _ (.same m3)⟩) hs
  | dit kvs =>
    cases dy with
    | tup ds =>
      obtain ⟨k, e1, e2⟩ := Option.bind_eq_some_iff.mp (show (keysOf ds).bind (fun k => (dfind kvs k).map R.fz) = some r from e)
      obtain ⟨d, e3, rfl⟩ := Option.map_eq_some_iff.mp e2
      obtain ⟨a, vs, rfl, h1, h2⟩ := hx
      obtain ⟨b, ws, rfl, h3, h4⟩ := hy
      cases rx
      have ev := keysOf_v h4 e1
      subst ev
      rcases dfind_valJ h2 k with ⟨n1, n2⟩ | ⟨w, d', m1, m2, m3⟩
      · rw [n2] at e3; cases e3
      · rw [m2] at e3
        cases e3
        have g : DGet H a (.ref b) (some w) := .inr ⟨vs, k, b, h1, rfl, h3, m1.symm⟩
        exact PyProof.Rows.tail_any (dict_typeIs I g) PySem.F.slot_dict_getitem.lookup (d_getItem (by omega) I g ry fun w' s' I' rw' => ⟨w, H, I', rw', q _ _ (.same m3)⟩) hs
    | _ => cases e
  | _ => cases e
theorem se_ix {a b : Expr} {Fa Fb : Sm} {pos : Pos} (hu : X.A.units + 200 < cLine) (ha : PE X a (tE X.K Fa)) (hb : PE X b (tE X.K Fb)) (hs : notSlice b = true) : PE X (.Subscript a b pos) (tE X.K (bin ixD Fa Fb)) := by
  refine pe_weak (pe_ix (ixd hu) ha hb (plainIx hs)) ?_
  rintro σ H Q ⟨Z, ρ, fp, r, ρ2, g, h, k⟩
  obtain ⟨r1, r2, x, y, h1, h2, h3, h4⟩ := bin_some h
  refine two_go g h1 fun Z' H' v1 v2 fp' l1 l2 g' R1 R2 n1 n2 P => ⟨Z', x, y, r, g'.sub, peek_ok g' R1 h2, peek_ok g' R2 h3, h4, fun z H'' o => ?_⟩
  exact kt_out k g' P (fun p q => .inl (.inl q)) o

/-! ### slices -/
def cutD (xs : List D) (lo hi : Option Int) : List D := (xs.drop (HT.sIx xs.length 0 lo)).take (HT.sIx xs.length xs.length hi - HT.sIx xs.length 0 lo)
theorem RepL.take {K : PySem.W.Frag} {Z : Hp} : ∀ {vs : List V} {ds : List D} (n : Nat), RepL K Z vs ds → RepL K Z (vs.take n) (ds.take n)
  | _, _, 0, _ => by rw [List.take_zero, List.take_zero]; exact .nil
  | _, _, n + 1, .nil => .nil
  | _, _, n + 1, .cons h t => .cons h (RepL.take n t)
theorem RepL.drop {K : PySem.W.Frag} {Z : Hp} : ∀ {vs : List V} {ds : List D} (n : Nat), RepL K Z vs ds → RepL K Z (vs.drop n) (ds.drop n)
  | _, _, 0, h => h
  | _, _, n + 1, .nil => .nil
  | _, _, n + 1, .cons h t => RepL.drop n t
theorem cut_rep {K : PySem.W.Frag} {Z : Hp} {vs : List V} {ds : List D} (lo hi : Option Int) (h : RepL K Z vs ds) : RepL K Z (cutV vs lo hi) (cutD ds lo hi) := by
  unfold cutV cutD
  rw [h.length]
  exact (h.drop _).take _
def sliD (lo hi : Option Int) : D → Option R
  | .lst xs => some (.nw (.ow (.lst (cutD xs lo hi))))
  | _ => none
def partD : Option D → Option (Option Int)
  | none => some none
  | some (.int i) => some (some i)
  | _ => none
def part (F : Option Sm) (ρ : En) : Option (Option Int × En) := match F with
  | none => some (none, ρ)
  | some F => (F ρ).bind fun q => match q.1 with
    | .fz (.int i) => some (some i, q.2)
    | _ => none
/-- a part of a slice, read -/
def tP (K : PySem.W.Frag) (F : Option Sm) : TO := fun σ H Q => ∃ Z ρ fp o ρ', Good K Z H σ ρ fp ∧ part F ρ = some (o, ρ') ∧
  ∀ Z' H' fp', Good K Z' H' σ ρ' fp' → Post Z H (E fp) Z' H' (E fp') → Q o H'
theorem po_weak {lo : Option Expr} {t t' : TO} (h : PO X lo t) (w : ∀ σ H Q, t' σ H Q → t σ H Q) : PO X lo t' := ⟨fun pins s σ H Q I q => h.run pins s σ H Q I (w σ H Q q)⟩
theorem so_none : PO X none (tP X.K none) := po_weak po_none fun σ H Q ⟨Z, ρ, fp, o, ρ', g, e, k⟩ => by
  cases e
  exact k Z H fp g Post.refl
theorem so_some {e : Expr} {F : Sm} (h : PE X e (tE X.K F)) : PO X (some e) (tP X.K (some F)) := po_weak (po_some h) fun σ H Q ⟨Z, ρ, fp, o, ρ', g, e, k⟩ => by
  obtain ⟨⟨r, ρ1⟩, e1, e⟩ := Option.bind_eq_some_iff.mp e
  refine ⟨Z, ρ, fp, r, ρ1, g, e1, fun Z' H' v fp' l g' R' n P => ?_⟩
  cases r with
  | fz d =>
    cases d with
    | int i =>
      cases e
      obtain ⟨h1, rfl⟩ := R'
      cases h1
      exact ⟨i, rfl, k Z' H' fp' g' (P.weak fun p q => .inl q)⟩
    | _ => cases e
  | _ => cases e
def slc (Fa : Sm) (Fl Fh : Option Sm) : Sm := fun ρ => (Fa ρ).bind fun p => (part Fl p.2).bind fun ql => (part Fh ql.2).bind fun qh => (peek qh.2 p.1).bind fun d => (sliD ql.1 qh.1 d).map fun r => (r, qh.2)
theorem se_slc {e : Expr} {lo hi : Option Expr} {Fa : Sm} {Fl Fh : Option Sm} {pos p2 : Pos} (he : PE X e (tE X.K Fa)) (hl : PO X lo (tP X.K Fl)) (hh : PO X hi (tP X.K Fh)) : PE X (.Subscript e (.Slice lo hi none p2) pos) (tE X.K (slc Fa Fl Fh)) := by
  refine pe_weak (pe_slice sl_list he hl hh) ?_
  rintro σ H Q ⟨Z, ρ, fp, r, ρ4, g, h, k⟩
  obtain ⟨⟨r1, ρ1⟩, h1, h⟩ := Option.bind_eq_some_iff.mp h
  · obtain ⟨⟨ol, ρ2⟩, h2, h⟩ := Option.bind_eq_some_iff.mp h
    obtain ⟨⟨oh, ρ3⟩, h3, h⟩ := Option.bind_eq_some_iff.mp h
    obtain ⟨d, h4, h⟩ := Option.bind_eq_some_iff.mp h
    obtain ⟨r', h5, e⟩ := Option.map_eq_some_iff.mp h
    cases e
    refine ⟨Z, ρ, fp, r1, ρ1, g, h1, fun Z1 H1 v1 fp1 l1 g1 R1 n1 P1 => ?_⟩
    refine ⟨Z1, ρ1, fp1, ol, ρ2, g1, h2, fun Z2 H2 fp2 g2 P2 => ?_⟩
    refine ⟨Z2, ρ2, fp2, oh, ρ3, g2, h3, fun Z3 H3 fp3 g3 P3 => ?_⟩
    obtain ⟨R3, n3⟩ := R1.stay n1 (P2.trans P3)
    have hd := peek_ok g3 R3 h4
    cases d with
    | lst xs =>
      cases h5
      obtain ⟨a, vs, rfl, k1, k2⟩ := hd
      refine ⟨a, vs, rfl, k1, fun p hp => ?_⟩
      have P : Post Z H (E fp) Z3 H3 (fun p => E fp3 p ∨ p ∈ l1) := P1.trans ((P2.trans P3).wide (fun p q => .inl q) fun p q => q.elim .inl fun z => .inr (.inr z))
      exact kt_out k g3 P (fun p q => .inl q) (.new (o := .lst _) (d := .lst _) hp ⟨_, upd_same, cut_rep ol oh k2⟩)
    | _ => cases h5
end

def nonD : D → Bool
  | .non => true
  | _ => false
theorem isN_out {K : PySem.W.Frag} {Z H : Hp} {v : V} {d : D} (h : RdD K Z H v d) : decide (v = V.non) = nonD d := by
  cases d with
  | non => rw [(show v = V.non from h)]; rfl
  | bl b => rw [(show v = V.bl b from h)]; rfl
  | int b => rw [(show v = V.int b from h)]; rfl
  | str b => rw [(show v = V.str b from h)]; rfl
  | lst ds => obtain ⟨a, vs, rfl, _⟩ := h; rfl
  | tup ds => obtain ⟨a, vs, rfl, _⟩ := h; rfl
  | dic ds => obtain ⟨a, vs, rfl, _⟩ := h; rfl
  | dit ds => obtain ⟨a, vs, rfl, _⟩ := h; rfl
/-! ### tests -/
def tT (K : PySem.W.Frag) (F : Sm) : TT := fun σ H Q => ∃ Z ρ fp b ρ', Good K Z H σ ρ fp ∧ F ρ = some (.fz (.bl b), ρ') ∧ ∀ Z' H' fp', Good K Z' H' σ ρ' fp' → Post Z H (E fp) Z' H' (E fp') → Q b H'
theorem pt_weak {X : Cx} {e : Expr} {t t' : TT} (h : PT X e t) (w : ∀ σ H Q, t' σ H Q → t σ H Q) : PT X e t' := ⟨fun pins s σ H Q I q => h.run pins s σ H Q I (w σ H Q q)⟩
def andF (Fa Fb : Sm) : Sm := fun ρ => (Fa ρ).bind fun p => match p.1 with
  | .fz (.bl true) => Fb p.2
  | .fz (.bl false) => some (.fz (.bl false), p.2)
  | _ => none
def orF (Fa Fb : Sm) : Sm := fun ρ => (Fa ρ).bind fun p => match p.1 with
  | .fz (.bl true) => some (.fz (.bl true), p.2)
  | .fz (.bl false) => Fb p.2
  | _ => none
def iteF' (Fc Fa Fb : Sm) : Sm := fun ρ => (Fc ρ).bind fun p => match p.1 with
  | .fz (.bl true) => Fa p.2
  | .fz (.bl false) => Fb p.2
  | _ => none
def notD : D → Option R
  | .bl b => bR (!b)
  | _ => none
def isND : D → Option R
  | .non => bR true
  | .bl _ | .int _ | .str _ | .lst _ | .tup _ | .dic _ | .dit _ => bR false
def notND : D → Option R
  | .non => bR false
  | .bl _ | .int _ | .str _ | .lst _ | .tup _ | .dic _ | .dit _ => bR true
theorem bool_r {K : PySem.W.Frag} {Z H : Hp} {σ : L2.St} {v : V} {b : Bool} {l : List Addr} (h : RR K Z H σ v (.fz (.bl b)) l) : v = .bl b ∧ l = [] := by
  obtain ⟨h1, h2⟩ := h
  cases h1
  exact ⟨rfl, h2⟩
section
variable {X : Cx} {a b c e : Expr} {Fa Fb Fc F : Sm} {pos : Pos} {rest : List Expr}
theorem tT_tB {K : PySem.W.Frag} {σ : L2.St} {H : Hp} {Q : Bool → Hp → Prop} (h : tT K F σ H Q) : tE K F σ H fun x H1 => ∃ c, x = .bl c ∧ Q c H1 := by
  obtain ⟨Z, ρ, fp, b, ρ', g, e, k⟩ := h
  refine ⟨Z, ρ, fp, _, ρ', g, e, fun Z' H' v fp' l g' R' n P => ?_⟩
  obtain ⟨rfl, rfl⟩ := bool_r R'
  exact ⟨b, rfl, k Z' H' fp' g' (P.weak fun p q => .inl q)⟩
/-- a value as a test -/
def plainTest : Expr → Bool
  | .UnaryOp _ _ _ | .BoolOp _ _ _ | .IfExp _ _ _ _ | .Compare _ _ _ _ => false
  | _ => true
theorem st_val (h : PE X e (tE X.K F)) (hp : plainTest e = true) : PT X e (tT X.K F) := by
  refine pt_weak (pt_val h ?_) fun σ H Q q => tT_tB q
  intro whole
  cases e <;> first | rfl | cases hp
theorem and_some {ρ ρ' : En} {r : R} (h : andF Fa Fb ρ = some (r, ρ')) : (∃ ρ1, Fa ρ = some (.fz (.bl true), ρ1) ∧ Fb ρ1 = some (r, ρ')) ∨ (Fa ρ = some (.fz (.bl false), ρ') ∧ r = .fz (.bl false)) := by
  obtain ⟨⟨r1, ρ1⟩, e1, h⟩ := Option.bind_eq_some_iff.mp h
  cases r1 with
  | fz d =>
    cases d with
    | bl b =>
      cases b with
      | true => exact .inl ⟨ρ1, e1, h⟩
      | false => cases h; exact .inr ⟨e1, rfl⟩
    | _ => cases h
  | _ => cases h
theorem or_some {ρ ρ' : En} {r : R} (h : orF Fa Fb ρ = some (r, ρ')) : (∃ ρ1, Fa ρ = some (.fz (.bl false), ρ1) ∧ Fb ρ1 = some (r, ρ')) ∨ (Fa ρ = some (.fz (.bl true), ρ') ∧ r = .fz (.bl true)) := by
  obtain ⟨⟨r1, ρ1⟩, e1, h⟩ := Option.bind_eq_some_iff.mp h
  cases r1 with
  | fz d =>
    cases d with
    | bl b =>
      cases b with
      | false => exact .inl ⟨ρ1, e1, h⟩
      | true => cases h; exact .inr ⟨e1, rfl⟩
    | _ => cases h
  | _ => cases h
theorem ite_some' {ρ ρ' : En} {r : R} (h : iteF' Fc Fa Fb ρ = some (r, ρ')) : ∃ b ρ1, Fc ρ = some (.fz (.bl b), ρ1) ∧ (if b = true then Fa ρ1 else Fb ρ1) = some (r, ρ') := by
  obtain ⟨⟨r1, ρ1⟩, e1, h⟩ := Option.bind_eq_some_iff.mp h
  cases r1 with
  | fz d =>
    cases d with
    | bl b => cases b <;> exact ⟨_, ρ1, e1, h⟩
    | _ => cases h
  | _ => cases h
/-- the wish behind a first part, carried on -/
theorem kt_next {K : PySem.W.Frag} {Z H Z1 H1 : Hp} {σ : L2.St} {ρ' : En} {fp fp1 : Nat → List Addr} {r : R} {Q : VK} (k : Kt K Z H fp σ ρ' r Q) (P : Post Z H (E fp) Z1 H1 (E fp1)) : Kt K Z1 H1 fp1 σ ρ' r Q :=
  fun Z' H' v fp' l g R' n P' => k Z' H' v fp' l g R' n (P.trans P')
theorem st_and (ha : PT X a (tT X.K Fa)) (hb : PW X (.BoolOp .And (b :: rest) pos) (tT X.K Fb)) : PW X (.BoolOp .And (a :: b :: rest) pos) (tT X.K (andF Fa Fb)) := by
  have h := pw_and (pos := pos) ha hb
  refine ⟨fun wh pins s σ H Q I q => h.run wh pins s σ H Q I ?_⟩
  obtain ⟨Z, ρ, fp, b, ρ', g, e, k⟩ := q
  rcases and_some e with ⟨ρ1, e1, e2⟩ | ⟨e1, e2⟩
  · refine ⟨Z, ρ, fp, true, ρ1, g, e1, fun Z' H' fp' g' P => iteT ⟨Z', ρ1, fp', b, ρ', g', e2, fun Z2 H2 fp2 g2 P2 => k Z2 H2 fp2 g2 (P.trans P2)⟩⟩
  · cases e2
    exact ⟨Z, ρ, fp, false, ρ', g, e1, fun Z' H' fp' g' P => iteF (k Z' H' fp' g' P)⟩
theorem st_or (ha : PT X a (tT X.K Fa)) (hb : PW X (.BoolOp .Or (b :: rest) pos) (tT X.K Fb)) : PW X (.BoolOp .Or (a :: b :: rest) pos) (tT X.K (orF Fa Fb)) := by
  have h := pw_or (pos := pos) ha hb
  refine ⟨fun wh pins s σ H Q I q => h.run wh pins s σ H Q I ?_⟩
  obtain ⟨Z, ρ, fp, b, ρ', g, e, k⟩ := q
  rcases or_some e with ⟨ρ1, e1, e2⟩ | ⟨e1, e2⟩
  · refine ⟨Z, ρ, fp, false, ρ1, g, e1, fun Z' H' fp' g' P => iteF ⟨Z', ρ1, fp', b, ρ', g', e2, fun Z2 H2 fp2 g2 P2 => k Z2 H2 fp2 g2 (P.trans P2)⟩⟩
  · cases e2
    exact ⟨Z, ρ, fp, true, ρ', g, e1, fun Z' H' fp' g' P => iteT (k Z' H' fp' g' P)⟩
theorem fst_b {K : PySem.W.Frag} {Z H : Hp} {σ : L2.St} {ρ ρ1 : En} {fp : Nat → List Addr} {b : Bool} (g : Good K Z H σ ρ fp) (e : Fa ρ = some (.fz (.bl b), ρ1)) {k : V → Hp → Prop} (c : ∀ Z' H' fp', Good K Z' H' σ ρ1 fp' → Post Z H (E fp) Z' H' (E fp') → k (.bl b) H') : tE K Fa σ H k :=
  ⟨Z, ρ, fp, _, ρ1, g, e, fun Z' H' v fp' l g' R' n P => by
    obtain ⟨rfl, rfl⟩ := bool_r R'
    exact c Z' H' fp' g' (P.weak fun p q => .inl q)⟩
theorem se_and (ha : PE X a (tE X.K Fa)) (hb : PE X (.BoolOp .And (b :: rest) pos) (tE X.K Fb)) : PE X (.BoolOp .And (a :: b :: rest) pos) (tE X.K (andF Fa Fb)) := by
  refine pe_weak (pe_and ha hb) ?_
  rintro σ H Q ⟨Z, ρ, fp, r, ρ', g, e, k⟩
  rcases and_some e with ⟨ρ1, e1, e2⟩ | ⟨e1, e2⟩
  · exact fst_b g e1 fun Z' H' fp' g' P => ⟨true, rfl, iteT ⟨Z', ρ1, fp', r, ρ', g', e2, kt_next k P⟩⟩
  · cases e2
    exact fst_b g e1 fun Z' H' fp' g' P => ⟨false, rfl, iteF (kt_out k g' P (fun p q => q) (.same (.bl _)))⟩
theorem se_or (ha : PE X a (tE X.K Fa)) (hb : PE X (.BoolOp .Or (b :: rest) pos) (tE X.K Fb)) : PE X (.BoolOp .Or (a :: b :: rest) pos) (tE X.K (orF Fa Fb)) := by
  refine pe_weak (pe_or ha hb) ?_
  rintro σ H Q ⟨Z, ρ, fp, r, ρ', g, e, k⟩
  rcases or_some e with ⟨ρ1, e1, e2⟩ | ⟨e1, e2⟩
  · exact fst_b g e1 fun Z' H' fp' g' P => ⟨false, rfl, iteF ⟨Z', ρ1, fp', r, ρ', g', e2, kt_next k P⟩⟩
  · cases e2
    exact fst_b g e1 fun Z' H' fp' g' P => ⟨true, rfl, iteT (kt_out k g' P (fun p q => q) (.same (.bl _)))⟩
theorem se_ite (hc : PT X c (tT X.K Fc)) (ha : PE X a (tE X.K Fa)) (hb : PE X b (tE X.K Fb)) : PE X (.IfExp c a b pos) (tE X.K (iteF' Fc Fa Fb)) := by
  refine pe_weak (pe_ifExp hc ha hb) ?_
  rintro σ H Q ⟨Z, ρ, fp, r, ρ', g, e, k⟩
  obtain ⟨b, ρ1, e1, e2⟩ := ite_some' e
  refine ⟨Z, ρ, fp, b, ρ1, g, e1, fun Z' H' fp' g' P => ?_⟩
  cases b with
  | true => exact iteT ⟨Z', ρ1, fp', r, ρ', g', e2, kt_next k P⟩
  | false => exact iteF ⟨Z', ρ1, fp', r, ρ', g', e2, kt_next k P⟩
/-- not, as a test: what it negates is a test of its own -/
def notF (F : Sm) : Sm := fun ρ => (F ρ).bind fun p => match p.1 with
  | .fz (.bl b) => some (.fz (.bl (!b)), p.2)
  | _ => none
theorem notF_some {ρ ρ' : En} {r : R} (h : notF F ρ = some (r, ρ')) : ∃ b, F ρ = some (.fz (.bl b), ρ') ∧ r = .fz (.bl (!b)) := by
  obtain ⟨⟨r1, ρ1⟩, e1, h⟩ := Option.bind_eq_some_iff.mp h
  cases r1 with
  | fz d =>
    cases d with
    | bl b => cases h; exact ⟨b, e1, rfl⟩
    | _ => cases h
  | _ => cases h
theorem st_not (ha : PT X a (tT X.K F)) : PT X (.UnaryOp .Not a pos) (tT X.K (notF F)) := by
  refine pt_weak (pt_not ha) ?_
  rintro σ H Q ⟨Z, ρ, fp, b, ρ', g, e, k⟩
  obtain ⟨b', e1, e2⟩ := notF_some e
  cases e2
  exact ⟨Z, ρ, fp, b', ρ', g, e1, k⟩
theorem se_notF (ha : PE X a (tE X.K F)) : PE X (.UnaryOp .Not a pos) (tE X.K (notF F)) := by
  refine pe_weak (pe_not ha) ?_
  rintro σ H Q ⟨Z, ρ, fp, r, ρ', g, e, k⟩
  obtain ⟨b', e1, e2⟩ := notF_some e
  cases e2
  exact fst_b g e1 fun Z' H' fp' g' P => ⟨b', rfl, kt_out k g' P (fun p q => q) (.same (.bl _))⟩
/-! ### comparisons -/
theorem se_cmp {op : CmpOp} {gg : D → D → Option R} (hop : OpD X (compareOp op) gg) (ha : PE X a (tE X.K Fa)) (hb : PE X b (tE X.K Fb)) (hm : behindInMarks op b = false) : PE X (.Compare a [op] [b] pos) (tE X.K (bin gg Fa Fb)) := by
  refine pe_weak (pe_cmpR (r := fun x y H Q => ∃ Z dx dy r, Sub Z H ∧ RdD X.K Z H x dx ∧ RdD X.K Z H y dy ∧ gg dx dy = some r ∧ ∀ z H', Out X.K Z H r z H' → Q z H') (fun pins s σ H x y v u Q I rx ry ⟨Z, dx, dy, r, q1, q2, q3, q4, q5⟩ => hop pins s σ H x y v u Q Z dx dy r I rx ry q1 q2 q3 q4 q5) ha hb hm) ?_
  rintro σ H Q ⟨Z, ρ, fp, r, ρ2, g, h, k⟩
  obtain ⟨r1, r2, x, y, h1, h2, h3, h4⟩ := bin_some h
  refine two_go g h1 fun Z' H' v1 v2 fp' l1 l2 g' R1 R2 n1 n2 P => ⟨Z', x, y, r, g'.sub, peek_ok g' R1 h2, peek_ok g' R2 h3, h4, fun z H'' o => ?_⟩
  exact kt_out k g' P (fun p q => .inl (.inl q)) o
theorem st_cmp {op : CmpOp} {gg : D → D → Option R} (hop : OpD X (compareOp op) gg) (ha : PE X a (tE X.K Fa)) (hb : PE X b (tE X.K Fb)) (hm : behindInMarks op b = false) : PT X (.Compare a [op] [b] pos) (tT X.K (bin gg Fa Fb)) := by
  refine pt_weak (pt_cmpR (r := fun x y H Q => ∃ Z dx dy r, Sub Z H ∧ RdD X.K Z H x dx ∧ RdD X.K Z H y dy ∧ gg dx dy = some r ∧ ∀ z H', Out X.K Z H r z H' → Q z H') (fun pins s σ H x y v u Q I rx ry ⟨Z, dx, dy, r, q1, q2, q3, q4, q5⟩ => hop pins s σ H x y v u Q Z dx dy r I rx ry q1 q2 q3 q4 q5) ha hb hm) ?_
  rintro σ H Q ⟨Z, ρ, fp, b, ρ2, g, h, k⟩
  obtain ⟨r1, r2, x, y, h1, h2, h3, h4⟩ := bin_some h
  refine two_go g h1 fun Z' H' v1 v2 fp' l1 l2 g' R1 R2 n1 n2 P => ⟨Z', x, y, _, g'.sub, peek_ok g' R1 h2, peek_ok g' R2 h3, h4, fun z H'' o => ?_⟩
  cases o with
  | same hr =>
    cases hr
    exact ⟨b, rfl, k Z' H' fp' g' (P.weak fun p q => .inl (.inl q))⟩
/-- a op b op c: b is asked once -/
def chn (g g' : D → D → Option R) (Fa Fb Fc : Sm) : Sm := fun ρ => (two Fa Fb ρ).bind fun p => (peek p.2.2 p.1).bind fun x => (peek p.2.2 p.2.1).bind fun y => (g x y).bind fun r => match r with
  | .fz (.bl true) => (Fc p.2.2).bind fun q => (peek q.2 p.2.1).bind fun y => (peek q.2 q.1).bind fun z => (g' y z).map fun r => (r, q.2)
  | .fz (.bl false) => some (.fz (.bl false), p.2.2)
  | _ => none
theorem chn_go {K : PySem.W.Frag} {gg gg' : D → D → Option R} {Z H : Hp} {σ : L2.St} {ρ ρ' : En} {fp : Nat → List Addr} {r : R} {Q : VK} (g : Good K Z H σ ρ fp) (h : chn gg gg' Fa Fb Fc ρ = some (r, ρ'))
    (k : Kt K Z H fp σ ρ' r Q) : tChain (fun x y H Q => ∃ Z dx dy r, Sub Z H ∧ RdD K Z H x dx ∧ RdD K Z H y dy ∧ gg dx dy = some r ∧ ∀ z H', Out K Z H r z H' → Q z H') (fun x y H Q => ∃ Z dx dy r, Sub Z H ∧ RdD K Z H x dx ∧ RdD K Z H y dy ∧ gg' dx dy = some r ∧ ∀ z H', Out K Z H r z H' → Q z H') (tE K Fa) (tE K Fb) (tE K Fc) σ H Q := by
  obtain ⟨⟨r1, r2, ρ2⟩, h1, h⟩ := Option.bind_eq_some_iff.mp h
  obtain ⟨x, h2, h⟩ := Option.bind_eq_some_iff.mp h
  obtain ⟨y, h3, h⟩ := Option.bind_eq_some_iff.mp h
  obtain ⟨r0, h4, h⟩ := Option.bind_eq_some_iff.mp h
  refine two_go g h1 fun Z' H' v1 v2 fp' l1 l2 g' R1 R2 n1 n2 P => ⟨Z', x, y, r0, g'.sub, peek_ok g' R1 h2, peek_ok g' R2 h3, h4, fun z H'' o => ?_⟩
  cases r0 with
  | fz d =>
    cases d with
    | bl b =>
      cases o with
      | same hr =>
        cases hr
        cases b with
        | false =>
          cases h
          exact ⟨false, rfl, iteF (kt_out k g' P (fun p q => .inl (.inl q)) (.same (.bl _)))⟩
        | true =>
          have h' : ((Fc ρ2).bind fun q => (peek q.2 r2).bind fun y => (peek q.2 q.1).bind fun z => (gg' y z).map fun r => (r, q.2)) = some (r, ρ') := h
          · obtain ⟨⟨r3, ρ3⟩, e1, h'⟩ := Option.bind_eq_some_iff.mp h'
            obtain ⟨y', e2, h'⟩ := Option.bind_eq_some_iff.mp h'
            obtain ⟨z, e3, h'⟩ := Option.bind_eq_some_iff.mp h'
            obtain ⟨r4, e4, e5⟩ := Option.map_eq_some_iff.mp h'
            cases e5
            refine ⟨true, rfl, iteT ⟨Z', ρ2, fp', r3, ρ3, g', e1, fun Z3 H3 v3 fp3 l3 g3 R3 n3 P3 => ?_⟩⟩
            obtain ⟨R2', n2'⟩ := R2.stay n2 P3
            refine ⟨Z3, y', z, _, g3.sub, peek_ok g3 R2' e2, peek_ok g3 R3 e3, e4, fun z H'' o => ?_⟩
            have P4 : Post Z H (E fp) Z3 H3 (E fp3) := (P.trans (P3.wide (B := fun p => (E fp' p ∨ p ∈ l2) ∨ p ∈ l1) (B' := E fp3) (fun p q => .inl (.inl q)) fun p q => .inl (.inl q)))
            exact kt_out k g3 P4 (fun p q => q) o
    | _ => cases h
  | _ => cases h
theorem se_chn {op op' : CmpOp} {gg gg' : D → D → Option R} (hop : OpD X (compareOp op) gg) (hop' : OpD X (compareOp op') gg') (ha : PE X a (tE X.K Fa)) (hb : PE X b (tE X.K Fb)) (hc : PE X c (tE X.K Fc)) (hm : lastMarks [op, op'] [b, c] = false) : PE X (.Compare a [op, op'] [b, c] pos) (tE X.K (chn gg gg' Fa Fb Fc)) := by
  refine pe_weak (pe_chain (r := fun x y H Q => ∃ Z dx dy r, Sub Z H ∧ RdD X.K Z H x dx ∧ RdD X.K Z H y dy ∧ gg dx dy = some r ∧ ∀ z H', Out X.K Z H r z H' → Q z H') (r' := fun x y H Q => ∃ Z dx dy r, Sub Z H ∧ RdD X.K Z H x dx ∧ RdD X.K Z H y dy ∧ gg' dx dy = some r ∧ ∀ z H', Out X.K Z H r z H' → Q z H')
    (fun pins s σ H x y v u Q I rx ry ⟨Z, dx, dy, r, q1, q2, q3, q4, q5⟩ => hop pins s σ H x y v u Q Z dx dy r I rx ry q1 q2 q3 q4 q5) (fun pins s σ H x y v u Q I rx ry ⟨Z, dx, dy, r, q1, q2, q3, q4, q5⟩ => hop' pins s σ H x y v u Q Z dx dy r I rx ry q1 q2 q3 q4 q5) ha hb hc hm) ?_
  rintro σ H Q ⟨Z, ρ, fp, r, ρ', g, h, k⟩
  exact chn_go g h k
theorem st_chn {op op' : CmpOp} {gg gg' : D → D → Option R} (hop : OpD X (compareOp op) gg) (hop' : OpD X (compareOp op') gg') (ha : PE X a (tE X.K Fa)) (hb : PE X b (tE X.K Fb)) (hc : PE X c (tE X.K Fc)) (hm : lastMarks [op, op'] [b, c] = false) : PT X (.Compare a [op, op'] [b, c] pos) (tT X.K (chn gg gg' Fa Fb Fc)) := by
  refine pt_weak (pt_chain (r := fun x y H Q => ∃ Z dx dy r, Sub Z H ∧ RdD X.K Z H x dx ∧ RdD X.K Z H y dy ∧ gg dx dy = some r ∧ ∀ z H', Out X.K Z H r z H' → Q z H') (r' := fun x y H Q => ∃ Z dx dy r, Sub Z H ∧ RdD X.K Z H x dx ∧ RdD X.K Z H y dy ∧ gg' dx dy = some r ∧ ∀ z H', Out X.K Z H r z H' → Q z H')
    (fun pins s σ H x y v u Q I rx ry ⟨Z, dx, dy, r, q1, q2, q3, q4, q5⟩ => hop pins s σ H x y v u Q Z dx dy r I rx ry q1 q2 q3 q4 q5) (fun pins s σ H x y v u Q I rx ry ⟨Z, dx, dy, r, q1, q2, q3, q4, q5⟩ => hop' pins s σ H x y v u Q Z dx dy r I rx ry q1 q2 q3 q4 q5) ha hb hc hm) ?_
  rintro σ H Q ⟨Z, ρ, fp, b, ρ', g, h, k⟩
  refine chn_go g h fun Z' H' v fp' l g' R' n P => ?_
  obtain ⟨rfl, rfl⟩ := bool_r R'
  exact ⟨b, rfl, k Z' H' fp' g' (P.weak fun p q => .inl q)⟩
/-- is None, is not None -/
theorem se_isN {j : Nat} {pos' : Pos} (ha : PE X a (tE X.K F)) : PE X (.Compare a [.Is] [.Constant .none j pos'] pos) (tE X.K (uno isND F)) := by
  refine pe_weak (pe_cmp (pc_isN ha) rfl) fun σ H Q q => uno_go q fun Z H' v d r sb hd e o => ?_
  have := isN_out hd
  rw [this]
  cases d <;> exact out_b e o
theorem se_notN {j : Nat} {pos' : Pos} (ha : PE X a (tE X.K F)) : PE X (.Compare a [.IsNot] [.Constant .none j pos'] pos) (tE X.K (uno notND F)) := by
  refine pe_weak (pe_cmp (pc_notN ha) rfl) fun σ H Q q => uno_go q fun Z H' v d r sb hd e o => ?_
  have := isN_out hd
  rw [this]
  cases d <;> exact out_b e o
theorem st_isN {j : Nat} {pos' : Pos} (ha : PE X a (tE X.K F)) : PT X (.Compare a [.Is] [.Constant .none j pos'] pos) (tT X.K (uno isND F)) := by
  refine pt_weak (pt_cmp (pc_isN ha) rfl) fun σ H Q q => uno_go (tT_tB q) fun Z H' v d r sb hd e o => ?_
  have := isN_out hd
  rw [this]
  cases d <;> exact out_b e o
theorem st_notN {j : Nat} {pos' : Pos} (ha : PE X a (tE X.K F)) : PT X (.Compare a [.IsNot] [.Constant .none j pos'] pos) (tT X.K (uno notND F)) := by
  refine pt_weak (pt_cmp (pc_notN ha) rfl) fun σ H Q q => uno_go (tT_tB q) fun Z H' v d r sb hd e o => ?_
  have := isN_out hd
  rw [this]
  cases d <;> exact out_b e o
end
end FL

set_option Elab.async false
set_option maxRecDepth 100000
set_option maxHeartbeats 2000000
namespace FL
open PySem PySem.Spec L2

/-! ### things handed over -/
inductive OwnL (K : PySem.W.Frag) (Z H : Hp) : List V → List T → List Addr → Prop
  | nil : OwnL K Z H [] [] []
  | cons {v : V} {t : T} {l ls : List Addr} {vs : List V} {ts : List T} : OwnT K Z H v t l → OwnL K Z H vs ts ls → (∀ p ∈ l, p ∉ ls) → OwnL K Z H (v :: vs) (t :: ts) (l ++ ls)
def giv (ρ : En) : R → Option (T × En)
  | .fz d => some (.fz d, ρ)
  | .nw t => some (t, ρ)
  | .sl i => match ρ.getD i none with
    | some .mv => none
    | some t => some (t, ρ.set i (some .mv))
    | none => none
  | .sf i f => match ρ.getD i none with
    | some (.ob c fs) => match fs.lookup f with
      | some .mv => none
      | some t => some (t, ρ.set i (some (.ob c (fput fs f .mv))))
      | none => none
    | _ => none
def givs : List R → En → Option (List T × En)
  | [], ρ => some ([], ρ)
  | r :: rs, ρ => (giv ρ r).bind fun p => (givs rs p.2).map fun q => (p.1 :: q.1, q.2)
def isOb : T → Bool
  | .ob _ _ => true
  | .tl _ _ => true
  | .ls _ => true
  | .dd _ => true
  | _ => false
def bak (ρ : En) (r : R) (t : T) : Option En := match r with
  | .sl i => some (ρ.set i (some t))
  | .sf i f => match ρ.getD i none with
    | some (.ob c fs) => match fs.lookup f with
      | some .mv => if isOb t = true then none else some (ρ.set i (some (.ob c (fput fs f t))))
      | _ => none
    | _ => none
  | _ => some ρ
def baks : List R → List T → En → Option En
  | [], _, ρ => some ρ
  | r :: rs, t :: ts, ρ => (bak ρ r t).bind fun ρ' => baks rs ts ρ'
  | _ :: _, [], _ => none
/-- where a thing was taken from -/
def At (H : Hp) (σ : St) (v : V) (r : R) : Prop := match r with
  | .sl i => σ.getD i none = some v
  | .sf i f => ∃ a C dx fv, σ.getD i none = some (V.ref a) ∧ H a = some (HO.ins C dx fv) ∧ fv.lookup f = some v
  | _ => True
inductive Ats (H : Hp) (σ : St) : List V → List R → Prop
  | nil : Ats H σ [] []
  | cons {v : V} {r : R} {vs : List V} {rs : List R} : At H σ v r → Ats H σ vs rs → Ats H σ (v :: vs) (r :: rs)
section
variable {K : PySem.W.Frag} {Z Z' H H' : Hp} {σ : St} {ρ ρ' : En} {fp fp' : Nat → List Addr} {v : V} {r : R} {t : T} {l m : List Addr} {A A' : Addr → Prop}
theorem At.of (h : RR K Z H σ v r l) : At H σ v r := by
  cases r with
  | fz d => trivial
  | nw t => trivial
  | sl i => exact h.1
  | sf i f => exact h.1
theorem At.grow (h : At H σ v r) (g : Grow H H') : At H' σ v r := by
  cases r with
  | fz d => trivial
  | nw t => trivial
  | sl i => exact h
  | sf i f =>
    obtain ⟨a, C, dx, fv, e1, e2, e3⟩ := h
    obtain ⟨fv', e4, e5⟩ := g _ _ _ _ e2
    exact ⟨a, C, dx, fv', e1, e4, e5 _ _ e3⟩
theorem Ats.of : ∀ {vs : List V} {rs : List R} {l : List Addr}, RRs K Z H σ vs rs l → Ats H σ vs rs
  | _, _, _, .nil => .nil
  | _, _, _, .cons h r _ => .cons (At.of h) (Ats.of r)
theorem Ats.grow (g : Grow H H') : ∀ {vs : List V} {rs : List R}, Ats H σ vs rs → Ats H' σ vs rs
  | _, _, .nil => .nil
  | _, _, .cons h r => .cons (h.grow g) (Ats.grow g r)
theorem own1_T (h : Own1 K Z H v t l) : OwnT K Z H v t l := by
  cases t with
  | ob c fs => exact h.elim
  | tl _ _ => exact h.elim
  | ls _ => exact h.elim
  | dd _ => exact h.elim
  | fz d => exact h
  | ow d => exact h
  | mv => exact h
theorem ownT_1 (h : OwnT K Z H v t l) (n : isOb t = false) : Own1 K Z H v t l := by
  cases t with
  | ob c fs => cases n
  | tl _ _ => cases n
  | ls _ => cases n
  | dd _ => cases n
  | fz d => exact h
  | ow d => exact h
  | mv => exact h
/-- a field's thing, taken -/
theorem OwnF.take : ∀ {fv : List (Str × V)} {fs : List (Str × T)} {l : List Addr} {f : Str} {t : T}, OwnF K Z H fv fs l → fs.lookup f = some t →
    ∃ v l1 l2, fv.lookup f = some v ∧ Own1 K Z H v t l1 ∧ OwnF K Z H fv (fput fs f .mv) l2 ∧ (∀ p ∈ l1, p ∉ l2) ∧ (∀ p ∈ l1, p ∈ l) ∧ ∀ p ∈ l2, p ∈ l
  | _, _, _, f, t, .nil, h => by cases h
  | _, _, _, f, t, .cons (f := g) (v := w) (t := u) (l := l0) (ls := ls) (fv := fv0) (fs := fs0) h r n, e => by
    rw [List.lookup_cons] at e
    rw [List.lookup_cons]
    cases q : (f == g) with
    | true =>
      rw [q] at e
      cases e
      have q2 : fput ((g, t) :: fs0) f .mv = (g, .mv) :: fs0 := by
        show (if (f == g) = true then _ else _) = _
        rw [if_pos q]
      refine ⟨w, l0, [] ++ ls, rfl, h, ?_, fun p hp => by simpa using n p hp, fun p hp => List.mem_append_left _ hp, fun p hp => List.mem_append_right _ (by simpa using hp)⟩
      rw [q2]
      exact .cons (t := .mv) rfl r (fun p hp => by cases hp)
    | false =>
      rw [q] at e
      obtain ⟨v', l1, l2, e1, e2, e3, e4, e5, e6⟩ := OwnF.take r e
      have q2 : fput ((g, u) :: fs0) f .mv = (g, u) :: fput fs0 f .mv := by
        show (if (f == g) = true then _ else _) = _
        rw [if_neg (by rw [q]; exact Bool.false_ne_true)]
      refine ⟨v', l1, l0 ++ l2, e1, e2, ?_, fun p hp z => ?_, fun p hp => List.mem_append_right _ (e5 p hp), fun p hp => ?_⟩
      · rw [q2]
        exact .cons h e3 fun p hp z => n p hp (e6 p z)
      · rcases List.mem_append.mp z with z | z
        · exact n p z (e5 p hp)
        · exact e4 p hp z
      · rcases List.mem_append.mp hp with z | z
        · exact List.mem_append_left _ z
        · exact List.mem_append_right _ (e6 p z)
/-- .. put there again -/
theorem OwnF.back : ∀ {fv : List (Str × V)} {fs : List (Str × T)} {l m : List Addr} {f : Str} {v : V} {t : T}, OwnF K Z H fv fs l → fs.lookup f = some .mv → fv.lookup f = some v → Own1 K Z H v t m → (∀ p ∈ m, p ∉ l) →
    ∃ l', OwnF K Z H fv (fput fs f t) l' ∧ ∀ p ∈ l', p ∈ l ∨ p ∈ m
  | _, _, _, m, f, v, t, .nil, h, _, _, _ => by cases h
  | _, _, _, m, f, v, t, .cons (f := g) (v := w) (t := u) (l := l0) (ls := ls) (fv := fv0) (fs := fs0) h r n, e, ev, o, d => by
    rw [List.lookup_cons] at e ev
    cases q : (f == g) with
    | true =>
      rw [q] at e ev
      cases e
      cases ev
      have q2 : fput ((g, .mv) :: fs0) f t = (g, t) :: fs0 := by
        show (if (f == g) = true then _ else _) = _
        rw [if_pos q]
      refine ⟨m ++ ls, ?_, fun p hp => (List.mem_append.mp hp).elim .inr fun z => .inl (List.mem_append_right _ z)⟩
      rw [q2]
      exact .cons o r fun p hp z => d p hp (List.mem_append_right _ z)
    | false =>
      rw [q] at e ev
      obtain ⟨l', e1, e2⟩ := OwnF.back r e ev o fun p hp z => d p hp (List.mem_append_right _ z)
      have q2 : fput ((g, u) :: fs0) f t = (g, u) :: fput fs0 f t := by
        show (if (f == g) = true then _ else _) = _
        rw [if_neg (by rw [q]; exact Bool.false_ne_true)]
      refine ⟨l0 ++ l', ?_, fun p hp => ?_⟩
      · rw [q2]
        refine .cons h e1 fun p hp z => ?_
        rcases e2 p z with y | y
        · exact n p hp y
        · exact d p y (List.mem_append_left _ hp)
      · rcases List.mem_append.mp hp with z | z
        · exact .inl (List.mem_append_left _ z)
        · exact (e2 p z).imp_left (List.mem_append_right _)
theorem OwnF.no : ∀ {fv : List (Str × V)} {fs : List (Str × T)} {l : List Addr} {f : Str}, OwnF K Z H fv fs l → fs.lookup f = none → fv.lookup f = none
  | _, _, _, f, .nil, h => rfl
  | _, _, _, f, .cons (f := g) h r n, e => by
    rw [List.lookup_cons] at e ⊢
    cases q : (f == g) with
    | true => rw [q] at e; cases e
    | false => rw [q] at e; exact OwnF.no r e
theorem OwnL.mono (s : Same Z Z') : ∀ {vs : List V} {ts : List T} {l : List Addr}, (∀ p ∈ l, ∀ o, H p = some o → H' p = some o) → (∀ p ∈ l, Z' p = none) → OwnL K Z H vs ts l → OwnL K Z' H' vs ts l
  | _, _, _, _, _, .nil => .nil
  | _, _, _, e, z, .cons h r n => .cons (h.mono s (fun p hp => e p (List.mem_append_left _ hp)) fun p hp => z p (List.mem_append_left _ hp)) (OwnL.mono s (fun p hp => e p (List.mem_append_right _ hp)) (fun p hp => z p (List.mem_append_right _ hp)) r) n
theorem OwnL.there : ∀ {vs : List V} {ts : List T} {l : List Addr}, OwnL K Z H vs ts l → ∀ p ∈ l, (∃ o, H p = some o ∧ Mu o) ∧ Z p = none
  | _, _, _, .nil => fun p hp => by cases hp
  | _, _, _, .cons h r n => fun p hp => (List.mem_append.mp hp).elim (h.there p) (r.there p)
theorem OwnL.length : ∀ {vs : List V} {ts : List T} {l : List Addr}, OwnL K Z H vs ts l → vs.length = ts.length
  | _, _, _, .nil => rfl
  | _, _, _, .cons h r n => congrArg (· + 1) r.length
theorem OwnL.fzs : ∀ {ws : List V} {ds : List D}, RepL K Z ws ds → OwnL K Z H ws (ds.map .fz) []
  | _, _, .nil => .nil
  | _, _, .cons h r => .cons (l := []) (ls := []) (t := .fz _) ⟨h, rfl⟩ (OwnL.fzs r) fun p hp => by cases hp
theorem OwnL.append : ∀ {vs ws : List V} {ts us : List T} {l m : List Addr}, OwnL K Z H vs ts l → OwnL K Z H ws us m → (∀ p ∈ l, p ∉ m) → OwnL K Z H (vs ++ ws) (ts ++ us) (l ++ m)
  | _, _, _, _, _, _, .nil, s, _ => s
  | _, _, _, _, _, m, .cons (l := l0) (ls := ls) h r n, s, d => by
    rw [List.append_assoc]
    refine .cons h (OwnL.append r s fun p hp => d p (List.mem_append_right _ hp)) fun p hp z => ?_
    rcases List.mem_append.mp z with z | z
    · exact n p hp z
    · exact d p (List.mem_append_left _ hp) z
/-- the slot's thing is gone -/
theorem Good.gone (g : Good K Z H σ ρ fp) {i : Nat} (e : σ.getD i none = some v) (h : OwnT K Z H v t m) (n : ∀ p ∈ m, p ∈ fp i ∨ ¬ E fp p) : Good K Z H σ (ρ.set i (some t)) (fun j => if j = i then m else fp j) := by
  have q := g.put (i := i) (by rw [← g.len]; exact lt_of_getD e) h n
  rw [getD_set_same e] at q
  exact q
theorem giv_ok (g : Good K Z H σ ρ fp) (h : RR K Z H σ v r l) (n : ∀ p ∈ l, ¬ E fp p) (e : giv ρ r = some (t, ρ')) :
    ∃ fp' m, Good K Z H σ ρ' fp' ∧ OwnT K Z H v t m ∧ (∀ p ∈ m, ¬ E fp' p) ∧ (∀ p, E fp' p → E fp p) ∧ ∀ p ∈ m, E fp p ∨ p ∈ l := by
  cases r with
  | fz d => cases e; exact ⟨fp, [], g, ⟨h.1, rfl⟩, (fun p hp => by cases hp), fun p q => q, fun p hp => by cases hp⟩
  | nw u => cases e; exact ⟨fp, l, g, h, n, fun p q => q, fun p hp => .inr hp⟩
  | sl i =>
    have e' : (match ρ.getD i none with
      | some .mv => none
      | some t => some (t, ρ.set i (some .mv))
      | none => none) = some (t, ρ') := e
    cases q : ρ.getD i none with
    | none => rw [q] at e'; cases e'
    | some u =>
      rw [q] at e'
      have e2 : u = t ∧ ρ.set i (some .mv) = ρ' := by
        cases u <;> first | (cases e'; done) | (cases e'; exact ⟨rfl, rfl⟩)
      obtain ⟨rfl, rfl⟩ := e2
      obtain ⟨w, hw, o⟩ := g.at q
      rw [h.1] at hw
      cases hw
      refine ⟨_, fp i, g.gone (t := .mv) (m := []) h.1 rfl (fun p hp => by cases hp), o, fun p hp z => ?_, fun p z => (E_put z).elim (fun y => by cases y) id, fun p hp => .inl ⟨i, hp⟩⟩
      obtain ⟨j, hj⟩ := z
      by_cases ej : j = i
      · have hj' : p ∈ (if j = i then [] else fp j) := hj
        rw [if_pos ej] at hj'; cases hj'
      · have hj' : p ∈ (if j = i then [] else fp j) := hj
        rw [if_neg ej] at hj'
        exact ej (g.disj _ _ p hj' hp)
  | sf i f =>
    have e' : (match ρ.getD i none with
      | some (.ob c fs) => match fs.lookup f with
        | some .mv => none
        | some t => some (t, ρ.set i (some (.ob c (fput fs f .mv))))
        | none => none
      | _ => none) = some (t, ρ') := e
    cases q : ρ.getD i none with
    | none => rw [q] at e'; cases e'
    | some u =>
      rw [q] at e'
      cases u with
      | ob c fs =>
        have e1 : (match fs.lookup f with
          | some .mv => none
          | some t => some (t, ρ.set i (some (.ob c (fput fs f .mv))))
          | none => none) = some (t, ρ') := e'
        cases w : fs.lookup f with
        | none => rw [w] at e1; cases e1
        | some u =>
          rw [w] at e1
          have e2 : u = t ∧ ρ.set i (some (.ob c (fput fs f .mv))) = ρ' := by
            cases u <;> first | (cases e1; done) | (cases e1; exact ⟨rfl, rfl⟩)
          obtain ⟨rfl, rfl⟩ := e2
          obtain ⟨v', e3, a, dx, fv, ls, rfl, e4, z0, na, hh, F⟩ := g.at q
          obtain ⟨⟨a', C, dx', fv', e5, e6, e7⟩, _⟩ := h
          rw [e5] at e3
          cases e3
          rw [e6] at hh
          cases hh
          obtain ⟨v2, l1, l2, k1, k2, k3, k4, k5, k6⟩ := F.take w
          rw [e7] at k1
          cases k1
          refine ⟨_, l1, g.gone (t := .ob c (fput fs f .mv)) (m := a :: l2) e5 ⟨a, dx, fv, l2, rfl, rfl, z0, (fun z => na (k6 a z)), e6, k3⟩ (fun p hp => .inl ?_), own1_T k2, fun p hp z => ?_, fun p z => (E_put z).elim (fun y => ⟨i, ?_⟩) id, fun p hp => .inl ⟨i, by rw [e4]; exact List.mem_cons_of_mem _ (k5 p hp)⟩⟩
          · rw [e4]
            rcases List.mem_cons.mp hp with z | z
            · rw [z]; exact List.mem_cons_self
            · exact List.mem_cons_of_mem _ (k6 p z)
          · have hfp : p ∈ fp i := by rw [e4]; exact List.mem_cons_of_mem _ (k5 p hp)
            obtain ⟨j, hj⟩ := z
            by_cases ej : j = i
            · have hj' : p ∈ (if j = i then a :: l2 else fp j) := hj
              rw [if_pos ej] at hj'
              rcases List.mem_cons.mp hj' with y | y
              · exact na (by rw [← y]; exact k5 p hp)
              · exact k4 p hp y
            · have hj' : p ∈ (if j = i then a :: l2 else fp j) := hj
              rw [if_neg ej] at hj'
              exact ej (g.disj _ _ p hj' hfp)
          · rw [e4]
            rcases List.mem_cons.mp y with z | z
            · rw [z]; exact List.mem_cons_self
            · exact List.mem_cons_of_mem _ (k6 p z)
      | _ => cases e'
theorem givs_ok : ∀ {rs : List R} {vs : List V} {l : List Addr} {ts : List T} {ρ ρ' : En} {fp : Nat → List Addr}, Good K Z H σ ρ fp → RRs K Z H σ vs rs l → (∀ p ∈ l, ¬ E fp p) → givs rs ρ = some (ts, ρ') →
    ∃ fp' m, Good K Z H σ ρ' fp' ∧ OwnL K Z H vs ts m ∧ (∀ p ∈ m, ¬ E fp' p) ∧ (∀ p, E fp' p → E fp p) ∧ ∀ p ∈ m, E fp p ∨ p ∈ l
  | [], _, _, ts, ρ, ρ', fp, g, .nil, n, e => by
    cases e
    exact ⟨fp, [], g, .nil, (fun p hp => by cases hp), fun p q => q, fun p hp => by cases hp⟩
  | r :: rs, _, _, ts, ρ, ρ', fp, g, .cons (l := l1) (ls := ls) h hr nd, n, e => by
    obtain ⟨⟨t, ρ1⟩, h1, e⟩ := Option.bind_eq_some_iff.mp e
    obtain ⟨⟨ts', ρ2⟩, h2, e⟩ := Option.map_eq_some_iff.mp e
    cases e
    obtain ⟨fp1, m1, g1, o1, a1, b1, c1⟩ := giv_ok g h (fun p hp => n p (List.mem_append_left _ hp)) h1
    obtain ⟨fp2, m2, g2, o2, a2, b2, c2⟩ := givs_ok g1 hr (fun p hp z => n p (List.mem_append_right _ hp) (b1 p z)) h2
    refine ⟨fp2, m1 ++ m2, g2, .cons o1 o2 fun p hp z => ?_, fun p hp z => ?_, fun p z => b1 p (b2 p z), fun p hp => ?_⟩
    · rcases c2 p z with y | y
      · exact a1 p hp y
      · rcases c1 p hp with x | x
        · exact n p (List.mem_append_right _ y) x
        · exact nd p x y
    · rcases List.mem_append.mp hp with y | y
      · exact a1 p y (b2 p z)
      · exact a2 p y z
    · rcases List.mem_append.mp hp with y | y
      · exact (c1 p y).imp_right (List.mem_append_left _)
      · rcases c2 p y with x | x
        · exact .inl (b1 p x)
        · exact .inr (List.mem_append_right _ x)
theorem bak_ok (g : Good K Z H σ ρ fp) (a : At H σ v r) (o : OwnT K Z H v t m) (n : ∀ p ∈ m, ¬ E fp p) (e : bak ρ r t = some ρ') :
    ∃ fp', Good K Z H σ ρ' fp' ∧ ∀ p, E fp' p → E fp p ∨ p ∈ m := by
  cases r with
  | fz d => cases e; exact ⟨fp, g, fun p q => .inl q⟩
  | nw u => cases e; exact ⟨fp, g, fun p q => .inl q⟩
  | sl i =>
    cases e
    exact ⟨_, g.gone a o (fun p hp => .inr (n p hp)), fun p z => (E_put z).symm⟩
  | sf i f =>
    have e' : (match ρ.getD i none with
      | some (.ob c fs) => match fs.lookup f with
        | some .mv => if isOb t = true then none else some (ρ.set i (some (.ob c (fput fs f t))))
        | _ => none
      | _ => none) = some ρ' := e
    cases q : ρ.getD i none with
    | none => rw [q] at e'; cases e'
    | some u =>
      rw [q] at e'
      cases u with
      | ob c fs =>
        have e1 : (match fs.lookup f with
          | some .mv => if isOb t = true then none else some (ρ.set i (some (.ob c (fput fs f t))))
          | _ => none) = some ρ' := e'
        cases w : fs.lookup f with
        | none => rw [w] at e1; cases e1
        | some u =>
          rw [w] at e1
          cases u with
          | mv =>
            have e2 : (if isOb t = true then none else some (ρ.set i (some (.ob c (fput fs f t))))) = some ρ' := e1
            by_cases ho : isOb t = true
            · rw [if_pos ho] at e2; cases e2
            · rw [if_neg ho] at e2
              cases e2
              obtain ⟨v', e3, a1, dx, fv, ls, rfl, e4, z0, na, hh, F⟩ := g.at q
              obtain ⟨a', C, dx', fv', e5, e6, e7⟩ := a
              rw [e5] at e3
              cases e3
              rw [e6] at hh
              cases hh
              have hm : ∀ p ∈ m, p ∉ fp i := fun p hp z => n p hp ⟨i, z⟩
              obtain ⟨l', k1, k2⟩ := F.back w e7 (ownT_1 o (by simpa using ho)) (fun p hp z => hm p hp (by rw [e4]; exact List.mem_cons_of_mem _ z))
              refine ⟨_, g.gone (t := .ob c (fput fs f t)) (m := a1 :: l') e5 ⟨a1, dx, fv, l', rfl, rfl, z0, fun z => ?_, e6, k1⟩ (fun p hp => ?_), fun p z => ?_⟩
              · rcases k2 _ z with y | y
                · exact na y
                · exact hm _ y (by rw [e4]; exact List.mem_cons_self)
              · rcases List.mem_cons.mp hp with y | y
                · exact .inl (by rw [e4, y]; exact List.mem_cons_self)
                · rcases k2 _ y with x | x
                  · exact .inl (by rw [e4]; exact List.mem_cons_of_mem _ x)
                  · exact .inr (n p x)
              · rcases E_put z with y | y
                · rcases List.mem_cons.mp y with y | y
                  · exact .inl ⟨i, by rw [e4, y]; exact List.mem_cons_self⟩
                  · rcases k2 _ y with x | x
                    · exact .inl ⟨i, by rw [e4]; exact List.mem_cons_of_mem _ x⟩
                    · exact .inr x
                · exact .inl y
          | _ => cases e1
      | _ => cases e'
theorem baks_ok : ∀ {rs : List R} {vs ws : List V} {l : List Addr} {ts : List T} {ρ ρ' : En} {fp : Nat → List Addr}, Good K Z H σ ρ fp → Ats H σ vs rs → OwnL K Z H (vs ++ ws) ts l → (∀ p ∈ l, ¬ E fp p) → baks rs ts ρ = some ρ' →
    ∃ fp', Good K Z H σ ρ' fp' ∧ ∀ p, E fp' p → E fp p ∨ p ∈ l
  | [], _, _, l, ts, ρ, ρ', fp, g, .nil, o, n, e => by
    have e' : some ρ = some ρ' := by cases ts <;> exact e
    cases e'
    exact ⟨fp, g, fun p q => .inl q⟩
  | r :: rs, _, _, _, _, ρ, ρ', fp, g, .cons a as, .cons (t := t) (l := l1) (ls := ls) (ts := ts) h hr nd, n, e => by
    obtain ⟨ρ1, h1, e⟩ := Option.bind_eq_some_iff.mp (show (bak ρ r t).bind (fun ρ' => baks rs ts ρ') = some ρ' from e)
    obtain ⟨fp1, g1, b1⟩ := bak_ok g a h (fun p hp => n p (List.mem_append_left _ hp)) h1
    obtain ⟨fp2, g2, b2⟩ := baks_ok g1 as hr (fun p hp z => (b1 p z).elim (n p (List.mem_append_right _ hp)) fun y => nd p y hp) e
    refine ⟨fp2, g2, fun p z => ?_⟩
    rcases b2 p z with y | y
    · exact (b1 p y).imp_right (List.mem_append_left _)
    · exact .inr (List.mem_append_right _ y)
end
end FL

set_option Elab.async false
set_option maxRecDepth 100000
set_option maxHeartbeats 2000000
namespace FL
open PySem PySem.Spec L2
open PyProof.Rows (envOfC)

/-! ### what a def does -/
/-- the things at the parameters; the result; the things at the parameters behind it -/
abbrev Fn := List T → Option (R × List T)
def RN (K : PySem.W.Frag) (Z H : Hp) (v : V) (r : R) (l : List Addr) : Prop := match r with
  | .fz d => Rep K Z v d ∧ l = []
  | .nw t => OwnT K Z H v t l
  | _ => False
def spOf (K : PySem.W.Frag) (fn : Fn) : Sp := fun vs H Q _ => ∃ Z ts l r ts', Sub Z H ∧ Tz K Z H ∧ OwnL K Z H vs ts l ∧ fn ts = some (r, ts') ∧
  ∀ Z' H' v lr l', Sub Z' H' → NoT Z' → RN K Z' H' v r lr → OwnL K Z' H' vs ts' l' → (∀ p ∈ lr, p ∉ l') → Post Z H (fun p => p ∈ l) Z' H' (fun p => p ∈ l' ∨ p ∈ lr) → Q v H'
theorem RN.rr {K : PySem.W.Frag} {Z H : Hp} {σ : St} {v : V} {r : R} {l : List Addr} (h : RN K Z H v r l) : RR K Z H σ v r l := by
  cases r with
  | fz d => exact h
  | nw t => exact h
  | sl i => exact h.elim
  | sf i f => exact h.elim
/-- a class's making -/
def mkFn (c : Str) (fn : Fn) : Fn := fun ts => (fn (.ob c [] :: ts)).bind fun z => match z with
  | (.fz .non, t :: ts') => some (.nw t, ts')
  | _ => none
section
variable {K : PySem.W.Frag} {Z Z' H H' Z1 H1 : Hp} {σ : St} {ρ1 ρ2 ρ3 : En} {fp1 : Nat → List Addr} {fn : Fn} {vs ws : List V} {Q : VK} {E0 : XK}
theorem mk_sp {c : Str} (h : spOf K (mkFn c fn) vs H Q E0) {x dx : Addr} (hx : H x = none) (hd : H dx = none) (hn : dx ≠ x) :
    spOf K fn (.ref x :: vs) (upd (upd H dx (.own x)) x (.ins (He.ga K c) dx [])) (fun v H2 => v = .non ∧ Q (.ref x) H2) E0 := by
  obtain ⟨Z, ts, l, r, ts', sb, tz, ow, e, k⟩ := h
  obtain ⟨⟨r1, ts1⟩, e1, e2⟩ := Option.bind_eq_some_iff.mp e
  have hx1 : upd H dx (.own x) x = none := by rw [upd_ne hn.symm]; exact hx
  have P1 : Post Z H (fun p => p ∈ l) Z (upd (upd H dx (.own x)) x (.ins (He.ga K c) dx [])) (fun p => p ∈ l ∨ p ∈ [x]) := by
    have a : Post Z H (fun p => p ∈ l) Z (upd H dx (.own x)) (fun p => p ∈ l) := (Post.new hd).weak fun p q => .inl q
    exact a.trans (Post.new hx1)
  have hl : ∀ p ∈ l, ∃ o, H p = some o := fun p hp => by obtain ⟨⟨o, q, _⟩, _⟩ := ow.there p hp; exact ⟨o, q⟩
  have hxl : x ∉ l := fun z => by obtain ⟨o, q⟩ := hl x z; rw [hx] at q; cases q
  have sb1 : Sub Z (upd (upd H dx (.own x)) x (.ins (He.ga K c) dx [])) := (sb.new hd).new hx1
  have ow1 : OwnL K Z (upd (upd H dx (.own x)) x (.ins (He.ga K c) dx [])) (.ref x :: vs) (.ob c [] :: ts) ([x] ++ l) := by
    refine .cons ⟨x, dx, [], [], rfl, rfl, sb.none hx, by simp, upd_same, .nil⟩ (ow.mono (Same.refl _) (fun p hp o q => upd_keep hx1 _ _ (upd_keep hd _ _ q)) fun p hp => (ow.there p hp).2) fun p hp => ?_
    rw [List.mem_singleton.mp hp]; exact hxl
  have e2' : (match ((r1, ts1) : R × List T) with
    | (.fz .non, t :: ts') => some (R.nw t, ts')
    | _ => none) = some (r, ts') := e2
  cases r1 with
  | fz d =>
    cases d with
    | non =>
      cases ts1 with
      | nil => cases e2'
      | cons t0 ts2 =>
        cases e2'
        refine ⟨Z, _, _, _, _, sb1, ⟨P1.tb.ts _ tz.ts, tz.no⟩, ow1, e1, fun Z' H' v lr l' s' nz rn ol dj P => ?_⟩
        obtain ⟨rv, rfl⟩ := (show Rep K Z' v .non ∧ lr = [] from rn)
        cases rv
        refine ⟨rfl, ?_⟩
        cases ol with
        | cons o os nd =>
          rename_i l0 ls
          refine k Z' H' (.ref x) l0 ls s' nz o os nd ?_
          refine P1.trans (P.wide (fun p q => ?_) fun p q => .inl (.inl (List.mem_append.mpr q.symm)))
          exact (List.mem_append.mp q).symm
    | _ => cases ts1 <;> cases e2'
  | _ => cases ts1 <;> cases e2'
theorem call_core {rs : List R} {ts ts' : List T} {l : List Addr} {r : R} {ds : List D} (g : Good K Z1 H1 σ ρ1 fp1) (R1 : RRs K Z1 H1 σ vs rs l) (n1 : ∀ p ∈ l, ¬ E fp1 p) (h1 : givs rs ρ1 = some (ts, ρ2)) (h2 : fn (ts ++ ds.map .fz) = some (r, ts'))
    (h3 : baks rs ts' ρ2 = some ρ3) (hw : RepL K Z1 ws ds)
    (k : ∀ Z' H' v lr fp3, Good K Z' H' σ ρ3 fp3 → RN K Z' H' v r lr → (∀ p ∈ lr, ¬ E fp3 p) → Post Z1 H1 (fun p => E fp1 p ∨ p ∈ l) Z' H' (fun p => E fp3 p ∨ p ∈ lr) → Q v H') : spOf K fn (vs ++ ws) H1 Q E0 := by
  obtain ⟨fp2, m, g2, o2, a2, b2, c2⟩ := givs_ok g R1 n1 h1
  have o2' : OwnL K Z1 H1 (vs ++ ws) (ts ++ ds.map .fz) (m ++ []) := o2.append (OwnL.fzs hw) fun p hp z => by cases z
  rw [List.append_nil] at o2'
  refine ⟨Z1, _, m, r, ts', g.sub, g.tz, o2', h2, fun Z' H' v lr l' s' nz rn ol dj P => ?_⟩
  have th : ∀ {p}, E fp2 p → ∃ o, H1 p = some o := fun hp => by obtain ⟨⟨o, e, _⟩, _⟩ := g2.there hp; exact ⟨o, e⟩
  have g3 : Good K Z' H' σ ρ2 fp2 := by
    refine g2.mono P.zz s' P.tb nz (fun q u hq e => P.fr q u e (fun z => a2 q z hq) (by
      obtain ⟨⟨o, e2, m⟩, _⟩ := g2.there hq
      rw [e] at e2; cases e2
      exact m.tbl)) fun q hq => ?_
    cases e : Z' q with
    | none => rfl
    | some u =>
      rcases P.zn q u e with y | y | y
      · have z := (g2.there hq).2
        rw [y] at z; cases z
      · exact absurd hq (a2 q y)
      · obtain ⟨o, e⟩ := th hq
        rw [e] at y; cases y
  have out : ∀ p, (p ∈ l' ∨ p ∈ lr) → ¬ E fp2 p := fun p hp hq => by
    rcases P.nw p hp with y | y
    · exact a2 p y hq
    · obtain ⟨o, e⟩ := th hq
      rw [e] at y; cases y
  obtain ⟨fp3, g4, b4⟩ := baks_ok g3 ((Ats.of R1).grow P.ic) ol (fun p hp => out p (.inl hp)) h3
  refine k Z' H' v lr fp3 g4 rn (fun p hp z => (b4 p z).elim (out p (.inr hp)) (dj p hp)) (P.wide c2 fun p q => ?_)
  rcases q with q | q
  · rcases b4 p q with y | y
    · exact .inr (.inl (b2 p y))
    · exact .inl (.inl y)
  · exact .inl (.inr q)
end
def cllR (rs : List R) (ρ : En) (ds : List D) (fn : Fn) : Option (R × En) := (givs rs ρ).bind fun q => (fn (q.1 ++ ds.map .fz)).bind fun z => (baks rs z.2 q.2).map fun ρ3 => (z.1, ρ3)
def cll (Fs : List Sm) (ds : List D) (fn : Fn) : Sm := fun ρ => (seqs Fs ρ).bind fun p => cllR p.1 p.2 ds fn
def hasM (c m : Str) (ρ : En) : R → Bool
  | .nw (.ob c' fs) => decide (c' = c) && (fs.lookup m).isNone
  | .sl i => match ρ.getD i none with
    | some (.ob c' fs) => decide (c' = c) && (fs.lookup m).isNone
    | _ => false
  | _ => false
def mth (c m : Str) (Fo : Sm) (Fs : List Sm) (ds : List D) (fn : Fn) : Sm := fun ρ => (Fo ρ).bind fun p => if hasM c m p.2 p.1 = true then (seqs Fs p.2).bind fun q => cllR (p.1 :: q.1) q.2 ds fn else none
section
variable {K : PySem.W.Frag} {Z H Z1 H1 : Hp} {σ : St} {ρ1 ρ3 : En} {fp fp1 : Nat → List Addr} {fn : Fn} {vs ws : List V} {Q : VK} {E0 : XK}
theorem cllR_go {rs : List R} {l : List Addr} {r : R} {ds : List D} (g : Good K Z1 H1 σ ρ1 fp1) (R1 : RRs K Z1 H1 σ vs rs l) (n1 : ∀ p ∈ l, ¬ E fp1 p) (P : Post Z H (E fp) Z1 H1 (fun p => E fp1 p ∨ p ∈ l)) (h : cllR rs ρ1 ds fn = some (r, ρ3)) (hw : RepL K Z1 ws ds)
    (k : Kt K Z H fp σ ρ3 r Q) : spOf K fn (vs ++ ws) H1 Q E0 := by
  obtain ⟨⟨ts, ρ2⟩, h1, h⟩ := Option.bind_eq_some_iff.mp h
  obtain ⟨⟨r', ts'⟩, h2, h⟩ := Option.bind_eq_some_iff.mp h
  obtain ⟨ρ3', h3, e⟩ := Option.map_eq_some_iff.mp h
  cases e
  exact call_core g R1 n1 h1 h2 h3 hw fun Z' H' v lr fp3 g3 rn dj P' => k Z' H' v fp3 lr g3 rn.rr dj (P.trans P')
theorem cll_go {Fs : List Sm} {ds : List D} (hw : ∀ Z, RepL K Z ws ds) (h : tE K (cll Fs ds fn) σ H Q) : tA K Fs σ H fun vs H1 => spOf K fn (vs ++ ws) H1 Q E0 := by
  obtain ⟨Z, ρ, fp, r, ρ3, g, e, k⟩ := h
  obtain ⟨⟨rs, ρ1⟩, e1, e⟩ := Option.bind_eq_some_iff.mp e
  exact ⟨Z, ρ, fp, rs, ρ1, g, e1, fun Z1 H1 vs fp1 l g1 R1 n1 P1 => cllR_go g1 R1 n1 P1 e (hw Z1) k⟩
theorem hasM_ok {c m : Str} {v : V} {r : R} {l : List Addr} (g : Good K Z H σ ρ1 fp) (h : RR K Z H σ v r l) (e : hasM c m ρ1 r = true) : ∃ a dx fs, v = .ref a ∧ H a = some (.ins (He.ga K c) dx fs) ∧ fs.lookup m = none := by
  have fin : ∀ {c' : Str} {fs : List (Str × T)} {l : List Addr}, OwnT K Z H v (.ob c' fs) l → (decide (c' = c) && (fs.lookup m).isNone) = true → ∃ a dx fs, v = .ref a ∧ H a = some (.ins (He.ga K c) dx fs) ∧ fs.lookup m = none := fun {c' fs l} o e => by
    obtain ⟨e1, e2⟩ := Bool.and_eq_true_iff.mp e
    have e1 := of_decide_eq_true e1
    subst e1
    obtain ⟨a, dx, fv, ls, rfl, _, _, _, hh, F⟩ := o
    exact ⟨a, dx, fv, rfl, hh, F.no (Option.isNone_iff_eq_none.mp e2)⟩
  cases r with
  | fz d => cases e
  | sf i f => cases e
  | nw t =>
    cases t with
    | ob c' fs => exact fin h e
    | _ => cases e
  | sl i =>
    have e' : (match ρ1.getD i none with
      | some (.ob c' fs) => decide (c' = c) && (fs.lookup m).isNone
      | _ => false) = true := e
    cases q : ρ1.getD i none with
    | none => rw [q] at e'; cases e'
    | some t =>
      rw [q] at e'
      cases t with
      | ob c' fs =>
        obtain ⟨w, hw, o⟩ := g.at q
        rw [h.1] at hw
        cases hw
        exact fin o e'
      | _ => cases e'
theorem mth_go {c m : Str} {Fo : Sm} {Fs : List Sm} {ds : List D} (hw : ∀ Z, RepL K Z ws ds) (h : tE K (mth c m Fo Fs ds fn) σ H Q) :
    tE K Fo σ H fun x H1 => ∃ a dx fs, x = .ref a ∧ H1 a = some (.ins (He.ga K c) dx fs) ∧ fs.lookup m = none ∧ tA K Fs σ H1 fun vs H2 => spOf K fn (x :: (vs ++ ws)) H2 Q E0 := by
  obtain ⟨Z, ρ, fp, r, ρ3, g, e, k⟩ := h
  obtain ⟨⟨r0, ρ1⟩, e1, e⟩ := Option.bind_eq_some_iff.mp e
  by_cases hm : hasM c m ρ1 r0 = true
  · rw [if_pos hm] at e
    obtain ⟨⟨rs, ρ2⟩, e2, e⟩ := Option.bind_eq_some_iff.mp e
    refine ⟨Z, ρ, fp, r0, ρ1, g, e1, fun Z1 H1 v0 fp1 l0 g1 R1 n1 P1 => ?_⟩
    obtain ⟨a, dx, fs, h1, h2, h3⟩ := hasM_ok g1 R1 hm
    refine ⟨a, dx, fs, h1, h2, h3, Z1, ρ1, fp1, rs, ρ2, g1, e2, fun Z2 H2 vs fp2 l g2 R2 n2 P2 => ?_⟩
    obtain ⟨R1', n1'⟩ := R1.stay n1 P2
    have P : Post Z H (E fp) Z2 H2 (fun p => E fp2 p ∨ p ∈ l0 ++ l) := P1.trans (P2.wide (fun p q => .inl q) fun p q => ?_)
    · exact cllR_go (vs := v0 :: vs) g2 (.cons R1' R2 fun p hp z => n1' p hp (.inr z)) (fun p hp => (List.mem_append.mp hp).elim (fun z w => n1' p z (.inl w)) (n2 p)) P e (hw Z2) k
    · rcases q with q | q
      · exact .inl (.inl q)
      · exact (List.mem_append.mp q).elim (fun z => .inr (.inr z)) fun z => .inl (.inr z)
  · rw [if_neg hm] at e; cases e
end

/-! ### attributes -/
def fldF (ats : List (Str × Str)) (f : Str) (Fo : Sm) : Sm := fun ρ => (Fo ρ).bind fun p => match p.1 with
  | .sl i => match p.2.getD i none with
    | some (.ob c fs) => if (c, f) ∈ ats then match fs.lookup f with
      | some (.fz d) => some (.fz d, p.2)
      | some (.ow _) => some (.sf i f, p.2)
      | _ => none
      else none
    | _ => none
  | _ => none
def AtsOk (K : PySem.W.Frag) (ats : List (Str × Str)) : Prop := ∀ c f, (c, f) ∈ ats → Cls K (He.ga K c) ∧ NoAttr K (He.ga K c) f
theorem se_fld {X : Cx} {e : Expr} {f : Str} {pos : Pos} {ats : List (Str × Str)} {Fo : Sm} (ha : AtsOk X.K ats) (he : PE X e (tE X.K Fo)) (hb : attributeBase e f X.env (eval e X.env) = eval e X.env) : PE X (.Attribute e f pos) (tE X.K (fldF ats f Fo)) := by
  refine pe_weak (pe_fld he hb) ?_
  rintro σ H Q ⟨Z, ρ, fp, r, ρ3, g, e, k⟩
  obtain ⟨⟨r0, ρ1⟩, e1, e⟩ := Option.bind_eq_some_iff.mp e
  refine ⟨Z, ρ, fp, r0, ρ1, g, e1, fun Z1 H1 v0 fp1 l0 g1 R1 n1 P1 => ?_⟩
  cases r0 with
  | sl i =>
    have e' : (match ρ1.getD i none with
      | some (.ob c fs) => if (c, f) ∈ ats then match fs.lookup f with
        | some (.fz d) => some (R.fz d, ρ1)
        | some (.ow _) => some (R.sf i f, ρ1)
        | _ => none
        else none
      | _ => none) = some (r, ρ3) := e
    cases q : ρ1.getD i none with
    | none => rw [q] at e'; cases e'
    | some t =>
      rw [q] at e'
      cases t with
      | ob c fs =>
        have e2 : (if (c, f) ∈ ats then match fs.lookup f with
          | some (.fz d) => some (R.fz d, ρ1)
          | some (.ow _) => some (R.sf i f, ρ1)
          | _ => none
          else none) = some (r, ρ3) := e'
        by_cases hi : (c, f) ∈ ats
        · rw [if_pos hi] at e2
          obtain ⟨w, hw, o⟩ := g1.at q
          rw [R1.1] at hw
          cases hw
          obtain ⟨a, dx, fv, ls, rfl, h1, h2, h3, h4, F⟩ := o
          cases y : fs.lookup f with
          | none => rw [y] at e2; cases e2
          | some t =>
            rw [y] at e2
            obtain ⟨v, l', k1, k2, k3⟩ := F.get y
            refine ⟨a, _, dx, fv, v, rfl, h4, (ha c f hi).1, (ha c f hi).2, k1, ?_⟩
            cases t with
            | fz d =>
              cases e2
              exact kt_out k g1 P1 (fun p q => .inl q) (.same k2.1)
            | ow d =>
              cases e2
              exact k Z1 H1 v fp1 [] g1 ⟨⟨a, _, dx, fv, R1.1, h4, k1⟩, rfl⟩ (fun p hp => by cases hp) (P1.weak fun p q => q.elim .inl fun z => by cases z)
            | ob c' fs' => cases e2
            | mv => cases e2
            | tl _ _ => cases e2
            | ls _ => cases e2
            | dd _ => cases e2
        · rw [if_neg hi] at e2; cases e2
      | _ => cases e'
  | _ => cases e

/-! ### the promise of a def -/
structure FnG (P : Program) (w : World) (K : PySem.W.Frag) (mg : Str → Option Value) (base : Heap) (k : Nat) (f : Addr) (fd : FuncData) (ps : List Str) (sp : Sp) : Prop where
  many : ∀ zs J G, sp zs J G E0 → zs.length = ps.length
  does : ∀ (B : Around) (below : List Env) (s : Shared) (J : Hp) (ar : Args) (us : List Value) (zs : List V) (G : VK), Room k B → B.guards = some [] → Env0 P w K mg base B below s J → BindsTo s fd ar (ps.zip us) → Vals zs us → sp zs J G E0 →
    codeAny (model P w) B (.call (.ref f) ar) (CR CX0 below P w J s G E0) s
section
variable {X : Cx} {k j : Nat} {f : Addr} {fd : FuncData} {ps : List Str} {sp : Sp} {dvs : List V} {ds : List Value} {x m : Str} {p pos apos : Pos} {e o : Expr} {es : List Expr} {t : TA} {ta : TE}
theorem g_end {P : Program} {w : World} {pins : List (Addr × Obj)} {σ : St} {H : Hp} {s s' : Shared} {G : VK} {r : Result} {B : Value → Shared → Prop} (I : Inv X pins σ H s) (h : CR CX0 X.stack X.prog X.w H s G E0 r s') :
    ∃ u, r = .ok (.ret u) ∧ EP X pins σ G u s' := by
  cases r with
  | error e => exact (show False from h).elim
  | ok fl =>
    cases fl with
    | ret u => exact ⟨u, rfl, I.after h⟩
    | next => exact (show False from h).elim
    | brk => exact (show False from h).elim
    | cont => exact (show False from h).elim
theorem g_run {pins : List (Addr × Obj)} {σ : St} {H : Hp} {s : Shared} {G : VK} {us : List Value} {zs : List V} (F : FnG X.prog X.w X.K X.mg X.base k f fd ps sp) (hr : Room k X.A) (hg : X.A.guards = some []) (hb : Binds X.K fd ps ds) (hd : Vals dvs ds)
    (I : Inv X pins σ H s) (r : Vals zs us) (h : sp (zs ++ dvs) H G E0) : wpAny (model X.prog X.w) X.A (call (.ref f) us) (EP X pins σ G) X.xe s := by
  have hv := r.append hd
  have hn : (us ++ ds).length = ps.length := by rw [← hv.length]; exact F.many _ _ _ h
  have q := F.does X.A X.stack s H ⟨us, []⟩ (us ++ ds) (zs ++ dvs) G hr hg I.env0 (hb s us I.kIn hn) hv h
  refine wpAny_call (codeAny_mono q fun r s' c => ?_)
  cases r with
  | error e => exact (show False from c).elim
  | ok fl =>
    cases fl with
    | ret u => exact I.after c
    | next => exact (show False from c).elim
    | brk => exact (show False from c).elim
    | cont => exact (show False from c).elim
theorem gpe_call (F : FnG X.prog X.w X.K X.mg X.base k f fd ps sp) (hr : Room k X.A) (hg : X.A.guards = some []) (hx : Gl X x) (hm : X.mg x = some (.ref f)) (hk : PySem.W.keepIn X.K (.ref f) = true) (hb : Binds X.K fd ps ds) (hd : Vals dvs ds) (ha : PA X (e :: es) t)
    (hdb : (x == ("__debug__" : Str)) = false) (he : starEach (e :: es) X.env = (false, eval e X.env) :: starEach es X.env) (hpl : (backTo pos (starEach es X.env)).any (·.1) = false) : PE X (.Call (.Name x p) (e :: es) [] pos) (tCall sp dvs E0 t) := by
  constructor
  intro pins s σ H G I h
  apply wpAny_Call_Name_kw
  refine ld_glob I hx hm ?_ hdb
  refine PySem.W.callWith_K (h₀ := X.base) I.ok.mod.kin hk ?_ he hpl
  refine thn (ha.run pos pins s σ H _ I h) ?_
  rintro us s1 ⟨zs, H1, I1, r, q⟩
  exact ⟨I1.kIn, g_run F hr hg hb hd I1 r q⟩
theorem gpe_call0 (F : FnG X.prog X.w X.K X.mg X.base k f fd ps sp) (hr : Room k X.A) (hg : X.A.guards = some []) (hx : Gl X x) (hm : X.mg x = some (.ref f)) (hk : PySem.W.keepIn X.K (.ref f) = true) (hb : Binds X.K fd ps ds) (hd : Vals dvs ds)
    (hdb : (x == ("__debug__" : Str)) = false) : PE X (.Call (.Name x p) [] [] pos) (tCall sp dvs E0 tNil) := by
  constructor
  intro pins s σ H G I h
  apply wpAny_Call_Name_kw
  refine ld_glob I hx hm ?_ hdb
  exact PySem.W.callWith_K0 I.kIn hk (g_run (us := []) F hr hg hb hd I .nil h)
theorem gpe_meth {C : Addr} {pl : Sem Bool} (he : PE X o ta) (c : Cls X.K C) (hm : Meth X.K C m f) (F : FnG X.prog X.w X.K X.mg X.base k f fd ps sp) (hr : Room k X.A) (hg : X.A.guards = some []) (hb : Binds X.K fd ps ds) (hd : Vals dvs ds) (ha : PA X (e :: es) t)
    (hst : starEach (e :: es) X.env = (false, eval e X.env) :: starEach es X.env) (hpl : (backTo pos (starEach es X.env)).any (·.1) = false)
    (ht : eval (.Call (.Attribute o m apos) (e :: es) [] pos) X.env = (do
      let ov ← eval o X.env
      standAt apos.atName
      let (f, first) ← holding [ov] (getMethod ov m pl)
      callWith pos f first (backTo pos (starEach (e :: es) X.env)) (backToKw pos (keywordEach [] X.env)))) :
    PE X (.Call (.Attribute o m apos) (e :: es) [] pos) (tMeth C m sp dvs E0 ta t) := by
  constructor
  intro pins s σ H G I h
  refine PySem.W.methodCall_KW (pl := pl) (thn (he.run pins s σ H _ I h) ?_) ht
  rintro u s1 ⟨y, H1, I1, ry, a, dx, fs, rfl, ea, lm, q⟩
  have eu : u = Value.ref a := ry
  subst eu
  refine getmeth_ok I1 ea c hm lm ?_
  refine PySem.W.callWith_K (first := [.ref a]) (h₀ := X.base) I.ok.mod.kin hm.kp ?_ hst hpl
  refine thn (ha.run pos pins s1 σ H1 _ I1 q) ?_
  rintro us s2 ⟨zs, H2, I2, r, q2⟩
  exact ⟨I2.kIn, g_run (us := .ref a :: us) (zs := .ref a :: zs) F hr hg hb hd I2 (.cons rfl r) q2⟩
theorem gpe_meth0 {C : Addr} {pl : Sem Bool} (he : PE X o ta) (c : Cls X.K C) (hm : Meth X.K C m f) (F : FnG X.prog X.w X.K X.mg X.base k f fd ps sp) (hr : Room k X.A) (hg : X.A.guards = some []) (hb : Binds X.K fd ps ds) (hd : Vals dvs ds)
    (ht : eval (.Call (.Attribute o m apos) [] [] pos) X.env = (do
      let ov ← eval o X.env
      standAt apos.atName
      let (f, first) ← holding [ov] (getMethod ov m pl)
      callWith pos f first (backTo pos (starEach [] X.env)) (backToKw pos (keywordEach [] X.env)))) :
    PE X (.Call (.Attribute o m apos) [] [] pos) (tMeth C m sp dvs E0 ta tNil) := by
  constructor
  intro pins s σ H G I h
  refine PySem.W.methodCall_KW (pl := pl) (thn (he.run pins s σ H _ I h) ?_) ht
  rintro u s1 ⟨y, H1, I1, ry, a, dx, fs, rfl, ea, lm, q⟩
  have eu : u = Value.ref a := ry
  subst eu
  refine getmeth_ok I1 ea c hm lm ?_
  exact PySem.W.callWith_K0 (first := [.ref a]) I1.kIn hm.kp (g_run (us := [.ref a]) (zs := [.ref a]) F hr hg hb hd I1 (.cons rfl .nil) q)
theorem g_make {C : Addr} {pins : List (Addr × Obj)} {σ : St} {H : Hp} {s : Shared} {G : VK} {us : List Value} {zs : List V} (M : Mk X.K C f) (F : FnG X.prog X.w X.K X.mg X.base k f fd ps sp) (hr : Room (k + 1) X.A) (hg : X.A.guards = some [])
    (hb : Binds X.K fd ps ds) (hd : Vals dvs ds) (I : Inv X pins σ H s) (r : Vals zs us)
    (h : ∀ y dx, H y = none → H dx = none → dx ≠ y → sp (.ref y :: (zs ++ dvs)) (upd (upd H dx (.own y)) y (.ins C dx [])) (fun v J => v = .non ∧ G (.ref y) J) E0) : wpAny (model X.prog X.w) X.A (call (.ref C) us) (EP X pins σ G) X.xe s := by
  have n0 := I.hok.fresh (Nat.le_refl s.heap.objs.size)
  have n1 := I.hok.fresh (Nat.le_succ s.heap.objs.size)
  have hs := h (s.heap.objs.size + 1) s.heap.objs.size n1 n0 (Nat.ne_of_lt (Nat.lt_succ_self _))
  have I2 := Inv.made (C := C) I
  have rv : Vals (V.ref (s.heap.objs.size + 1) :: (zs ++ dvs)) (Value.ref (s.heap.objs.size + 1) :: (us ++ ds)) := .cons rfl (r.append hd)
  have hn : (Value.ref (s.heap.objs.size + 1) :: us ++ ds).length = ps.length := (rv.length).symm.trans (F.many _ _ _ hs)
  have hgu : (X.A.under (.builtin "type.__call__" ⟨.ref C :: us, []⟩)).guards = some [] := by
    have e1 : (Code.builtin "type.__call__" ⟨.ref C :: us, []⟩).guards = [] := by
      first | rfl | simp [Code.guards, Code.isGuard, guardIds]
    unfold Around.under
    show pushGuards (Code.builtin "type.__call__" ⟨.ref C :: us, []⟩).guards X.A.guards = some []
    rw [e1, hg]
    rfl
  have q := F.does _ X.stack _ _ ⟨Value.ref (s.heap.objs.size + 1) :: us, []⟩ (Value.ref (s.heap.objs.size + 1) :: (us ++ ds)) _ _ (hr.make C us []) hgu (I2.env0.make C us []) (hb _ (Value.ref (s.heap.objs.size + 1) :: us) I2.kIn hn) rv hs
  refine wpAny_call (make_map (f := f) I.kIn M.makes M.init (beq_iff_eq.mp M.fn) (codeAny_mono q fun r s' c => ?_))
  cases r with
  | error e => exact (show False from c).elim
  | ok fl =>
    cases fl with
    | ret u =>
      obtain ⟨v, J, I3, rv3, ev, q3⟩ := I2.after c
      subst ev
      exact ⟨rv3, V.ref (s.heap.objs.size + 1), J, I3, rfl, q3⟩
    | next => exact (show False from c).elim
    | brk => exact (show False from c).elim
    | cont => exact (show False from c).elim
theorem gpe_make {C : Addr} (M : Mk X.K C f) (F : FnG X.prog X.w X.K X.mg X.base k f fd ps sp) (hr : Room (k + 1) X.A) (hg : X.A.guards = some []) (hx : Gl X x) (hm : X.mg x = some (.ref C)) (hb : Binds X.K fd ps ds) (hd : Vals dvs ds) (ha : PA X (e :: es) t)
    (hdb : (x == ("__debug__" : Str)) = false) (he : starEach (e :: es) X.env = (false, eval e X.env) :: starEach es X.env) (hpl : (backTo pos (starEach es X.env)).any (·.1) = false) : PE X (.Call (.Name x p) (e :: es) [] pos) (tMake C sp dvs E0 t) := by
  constructor
  intro pins s σ H G I h
  apply wpAny_Call_Name_kw
  refine ld_glob I hx hm ?_ hdb
  refine PySem.W.callWith_K (h₀ := X.base) I.ok.mod.kin M.kp ?_ he hpl
  refine thn (ha.run pos pins s σ H _ I h) ?_
  rintro us s1 ⟨zs, H1, I1, r, q⟩
  exact ⟨I1.kIn, g_make M F hr hg hb hd I1 r q⟩
end
theorem g_of {P : Program} {w : World} {K : PySem.W.Frag} {mg : Str → Option Value} {base : Heap} {k : Nat} {f : Addr} {name qual : Str} {params : Arguments} {body : List Stmt} {scope : Scope} {dV kV doc pm cdv ct oc : Value} {an od : Option Addr}
    {osl : Array (Option Value)} {N ps : List Str} {sp : Sp} (lk : K.lookup f = some ⟨oc, od, .func (PySem.W.fnOf name qual params body scope dV kV doc pm an cdv ct), osl⟩) (hcd : PySem.W.codeIn K cdv qual = true) (S : FnScope N ps scope) (many : ∀ zs J G, sp zs J G E0 → zs.length = ps.length)
    (hbody : ∀ (B : Around) (below : List Env) (s : Shared) (J : Hp) (zs : List V) (G : VK), Room k (B.deeper (envOfC qual scope s.heap.objs.size f cdv)) → B.guards = some [] → sp zs J G E0 →
      ∃ t, PSs (cxOf CX0 P w K mg base N qual scope f cdv B below s J E0) body t ∧ t { nx := fun _ J' => G .non J', rt := G } (start N zs) J) :
    FnG P w K mg base (k + 1) f (PySem.W.fnOf name qual params body scope dV kV doc pm an cdv ct) ps sp := by
  refine ⟨many, ?_⟩
  intro B below s J ar us zs G hr hgu e0 hb r hs
  have hn := many _ _ _ hs
  have KX : K.In s.heap := e0.mod.kin.keeps fun b o e => (e0.bs b o e).1
  have lim : s.heap.NoLimit := e0.mod.nolimit.keeps fun b o e => (e0.bs b o e).1
  have hkind : ∀ y ∈ ps.zip us, scope.names.lookup y.1 = some .local ∨ (scope.names.lookup y.1 = some .cell ∧ ((cellsFrom (s.heap.objs.size + 1) scope.names []).lookup y.1).isSome = true) := by
    rintro ⟨n, v⟩ hy
    rcases S.par n (List.of_mem_zip hy).1 with q | q
    · exact Or.inl q
    · exact Or.inr ⟨q, PySem.W.cellsFrom_some _ _ _ (Or.inl q)⟩
  refine codeAny_call_function hr.depth (KX _ _ lk) rfl S.co S.gen rfl (PySem.W.codeRec_of KX hcd) (hb _ _ _ _ ?_)
  apply wpAny_newFunctionEnv_cells S.kind hkind
  intro env he s1 x
  subst he
  refine ⟨lim.keeps x.toInCall.keep, codeAny_func ?_⟩
  obtain ⟨t, ht, hq⟩ := hbody B below s J zs G (hr.deeper _) hgu hs
  have I := inv_start (CX := CX0) (E := E0) (H := J) S hr.hd e0 hn r x
  refine wpAny_mono (ht.run [] s1 (start N zs) J _ I hq) ?_ (fun e s' z => z)
  intro fl s' z
  cases fl with
  | ret u => obtain ⟨v, σ', H', L, rv, q⟩ := z; exact ⟨v, H', L.os, L.bare, L.base, L.hok, rv, q⟩
  | next => obtain ⟨σ', H', L, q⟩ := z; exact ⟨V.non, H', L.os, L.bare, L.base, L.hok, rfl, q⟩
  | brk => obtain ⟨_, _, _, q⟩ := z; exact False.elim q
  | cont => obtain ⟨_, _, _, q⟩ := z; exact False.elim q
end FL

set_option Elab.async false
set_option maxRecDepth 100000
set_option maxHeartbeats 2000000
namespace FL
open PySem PySem.Spec L2

/-! ### statements -/
inductive Fl where
  | nx | bk | ct | rt (r : R)
abbrev Ss := En → Option (Fl × En)
def keepS (kp : Nat → Bool) (σ σ' : St) : Prop := σ'.length = σ.length ∧ ∀ i, kp i = true → σ'.getD i none = σ.getD i none
theorem keepS.refl {kp : Nat → Bool} {σ : St} : keepS kp σ σ := ⟨rfl, fun _ _ => rfl⟩
theorem keepS.trans {kp : Nat → Bool} {σ σ1 σ2 : St} (a : keepS kp σ σ1) (b : keepS kp σ1 σ2) : keepS kp σ σ2 := ⟨b.1.trans a.1, fun i h => (b.2 i h).trans (a.2 i h)⟩
theorem keepS.set {kp : Nat → Bool} {σ : St} {i : Nat} {v : Option V} (h : kp i = false) : keepS kp σ (σ.set i v) := ⟨List.length_set, fun j hj => by
  rw [getD_set, if_neg]
  rintro ⟨rfl, _⟩
  rw [h] at hj; cases hj⟩
section
variable (K : PySem.W.Frag) (Z H : Hp) (fp : Nat → List Addr) (σ : St) (kp : Nat → Bool) (ρ' : En)
def Ke (Q : St → Hp → Prop) : Prop := ∀ Z' H' σ' fp', Good K Z' H' σ' ρ' fp' → keepS kp σ σ' → Post Z H (E fp) Z' H' (E fp') → Q σ' H'
def Kr (r : R) (Q : VK) : Prop := ∀ Z' H' σ' v fp' l, Good K Z' H' σ' ρ' fp' → keepS kp σ σ' → RR K Z' H' σ' v r l → (∀ p ∈ l, ¬ E fp' p) → Post Z H (E fp) Z' H' (fun p => E fp' p ∨ p ∈ l) → Q v H'
def Kf (fl : Fl) (D : Ends) : Prop := match fl with
  | .nx => Ke K Z H fp σ kp ρ' D.nx
  | .bk => Ke K Z H fp σ kp ρ' D.bk
  | .ct => Ke K Z H fp σ kp ρ' D.ct
  | .rt r => Kr K Z H fp σ kp ρ' r D.rt
end
def tS (K : PySem.W.Frag) (kp : Nat → Bool) (F : Ss) : TS := fun D σ H => ∃ Z ρ fp fl ρ', Good K Z H σ ρ fp ∧ F ρ = some (fl, ρ') ∧ Kf K Z H fp σ kp ρ' fl D
theorem ps_weak {X : Cx} {st : Stmt} {t t' : TS} (h : PS X st t) (w : ∀ D σ H, t' D σ H → t D σ H) : PS X st t' := ⟨fun pins s σ H D I q => h.run pins s σ H D I (w D σ H q)⟩
theorem pss_weak {X : Cx} {st : List Stmt} {t t' : TS} (h : PSs X st t) (w : ∀ D σ H, t' D σ H → t D σ H) : PSs X st t' := ⟨fun pins s σ H D I q => h.run pins s σ H D I (w D σ H q)⟩
section
variable {K : PySem.W.Frag} {Z H Z1 H1 : Hp} {fp fp1 : Nat → List Addr} {σ σ1 : St} {kp : Nat → Bool} {ρ ρ1 ρ' : En} {Q : St → Hp → Prop} {D : Ends}
theorem Ke.then (k : Ke K Z H fp σ kp ρ' Q) (h : keepS kp σ σ1) (P : Post Z H (E fp) Z1 H1 (E fp1)) : Ke K Z1 H1 fp1 σ1 kp ρ' Q := fun Z' H' σ' fp' g h' P' => k Z' H' σ' fp' g (h.trans h') (P.trans P')
theorem Kf.then {fl : Fl} (k : Kf K Z H fp σ kp ρ' fl D) (h : keepS kp σ σ1) (P : Post Z H (E fp) Z1 H1 (E fp1)) : Kf K Z1 H1 fp1 σ1 kp ρ' fl D := by
  cases fl with
  | nx => exact Ke.then (Q := D.nx) k h P
  | bk => exact Ke.then (Q := D.bk) k h P
  | ct => exact Ke.then (Q := D.ct) k h P
  | rt r => exact fun Z' H' σ' v fp' l g h' R' n P' => (show Kr K Z H fp σ kp ρ' r D.rt from k) Z' H' σ' v fp' l g (h.trans h') R' n (P.trans P')
end
def seqF (A B : Ss) : Ss := fun ρ => (A ρ).bind fun p => match p.1 with
  | .nx => B p.2
  | fl => some (fl, p.2)
def nxF : Ss := fun ρ => some (.nx, ρ)
def bkF : Ss := fun ρ => some (.bk, ρ)
def ctF : Ss := fun ρ => some (.ct, ρ)
def exF (F : Sm) : Ss := fun ρ => (F ρ).map fun p => (.nx, p.2)
def rtF (F : Sm) : Ss := fun ρ => (F ρ).map fun p => (.rt p.1, p.2)
def ifF (Fc : Sm) (A B : Ss) : Ss := fun ρ => (Fc ρ).bind fun p => match p.1 with
  | .fz (.bl true) => A p.2
  | .fz (.bl false) => B p.2
  | _ => none
section
variable {X : Cx} {kp : Nat → Bool} {st : Stmt} {rest a b : List Stmt} {A B : Ss} {F Fc : Sm} {e c : Expr} {pos pos' : Pos}
theorem ss_nil : PSs X [] (tS X.K kp nxF) := pss_weak pss_nil fun D σ H ⟨Z, ρ, fp, fl, ρ', g, e, k⟩ => by
  cases e
  exact (show Ke X.K Z H fp σ kp _ D.nx from k) Z H σ fp g keepS.refl Post.refl
theorem ss_one (h : PS X st (tS X.K kp A)) : PSs X [st] (tS X.K kp A) := pss_one h
theorem ss_cons (h : PS X st (tS X.K kp A)) (hr : PSs X rest (tS X.K kp B)) : PSs X (st :: rest) (tS X.K kp (seqF A B)) := pss_weak (pss_cons h hr) fun D σ H ⟨Z, ρ, fp, fl, ρ', g, e, k⟩ => by
  obtain ⟨⟨f1, ρ1⟩, e1, e⟩ := Option.bind_eq_some_iff.mp e
  refine ⟨Z, ρ, fp, f1, ρ1, g, e1, ?_⟩
  cases f1 with
  | nx => exact fun Z' H' σ' fp' g' h' P' => ⟨Z', ρ1, fp', fl, ρ', g', e, Kf.then k h' P'⟩
  | bk => cases e; exact k
  | ct => cases e; exact k
  | rt r => cases e; exact k
theorem ss_pass : PS X (.Pass pos) (tS X.K kp nxF) := ps_weak ps_pass fun D σ H ⟨Z, ρ, fp, fl, ρ', g, e, k⟩ => by
  cases e
  exact (show Ke X.K Z H fp σ kp _ D.nx from k) Z H σ fp g keepS.refl Post.refl
theorem ss_break : PS X (.Break pos) (tS X.K kp bkF) := ps_weak ps_break fun D σ H ⟨Z, ρ, fp, fl, ρ', g, e, k⟩ => by
  cases e
  exact (show Ke X.K Z H fp σ kp _ D.bk from k) Z H σ fp g keepS.refl Post.refl
theorem ss_cont : PS X (.Continue pos) (tS X.K kp ctF) := ps_weak ps_continue fun D σ H ⟨Z, ρ, fp, fl, ρ', g, e, k⟩ => by
  cases e
  exact (show Ke X.K Z H fp σ kp _ D.ct from k) Z H σ fp g keepS.refl Post.refl
theorem ss_doc {x : Str} {j : Nat} : PS X (.Expr (.Constant (.str x) j pos) pos') (tS X.K kp nxF) := ps_weak ps_doc fun D σ H ⟨Z, ρ, fp, fl, ρ', g, e, k⟩ => by
  cases e
  exact (show Ke X.K Z H fp σ kp _ D.nx from k) Z H σ fp g keepS.refl Post.refl
theorem ss_never : PS X st (tS X.K kp fun _ => none) := ps_weak ps_never fun D σ H ⟨Z, ρ, fp, fl, ρ', g, e, k⟩ => by cases e
theorem ss_expr (he : PE X e (tE X.K F)) (hs : swapsWith e none pos.line X.env = pure false) : PS X (.Expr e pos) (tS X.K kp (exF F)) := ps_weak (ps_expr he hs) fun D σ H ⟨Z, ρ, fp, fl, ρ', g, e, k⟩ => by
  obtain ⟨⟨r, ρ1⟩, e1, e⟩ := Option.map_eq_some_iff.mp e
  cases e
  exact ⟨Z, ρ, fp, r, ρ1, g, e1, fun Z' H' v fp' l g' R' n P => (show Ke X.K Z H fp σ kp ρ1 D.nx from k) Z' H' σ fp' g' keepS.refl (P.weak fun p q => .inl q)⟩
theorem ss_ret (he : PE X e (tE X.K F)) : PS X (.Return (some e) pos) (tS X.K kp (rtF F)) := ps_weak (ps_ret he) fun D σ H ⟨Z, ρ, fp, fl, ρ', g, e, k⟩ => by
  obtain ⟨⟨r, ρ1⟩, e1, e⟩ := Option.map_eq_some_iff.mp e
  cases e
  exact ⟨Z, ρ, fp, r, ρ1, g, e1, fun Z' H' v fp' l g' R' n P => (show Kr X.K Z H fp σ kp ρ1 r D.rt from k) Z' H' σ v fp' l g' keepS.refl R' n P⟩
theorem ss_retN : PS X (.Return none pos) (tS X.K kp (rtF (cst .non))) := ps_weak ps_retN fun D σ H ⟨Z, ρ, fp, fl, ρ', g, e, k⟩ => by
  cases e
  exact (show Kr X.K Z H fp σ kp _ (.fz .non) D.rt from k) Z H σ .non fp [] g keepS.refl ⟨.non, rfl⟩ (fun p hp => by cases hp) (Post.refl.weak fun p q => q.elim id fun z => by cases z)
theorem ss_if (hc : PT X c (tT X.K Fc)) (ha : PSs X a (tS X.K kp A)) (hb : PSs X b (tS X.K kp B)) : PS X (.If c a b pos) (tS X.K kp (ifF Fc A B)) := ps_weak (ps_if hc ha hb) fun D σ H ⟨Z, ρ, fp, fl, ρ', g, e, k⟩ => by
  obtain ⟨⟨r, ρ1⟩, e1, e⟩ := Option.bind_eq_some_iff.mp e
  cases r with
  | fz d =>
    cases d with
    | bl b =>
      refine ⟨Z, ρ, fp, b, ρ1, g, e1, fun Z' H' fp' g' P => ?_⟩
      cases b with
      | true => exact iteT ⟨Z', ρ1, fp', fl, ρ', g', e, Kf.then k keepS.refl P⟩
      | false => exact iteF ⟨Z', ρ1, fp', fl, ρ', g', e, Kf.then k keepS.refl P⟩
    | _ => cases e
  | _ => cases e
end

/-! ### targets -/
abbrev Tg := D → En → Option En
def tGd (K : PySem.W.Frag) (kp : Nat → Bool) (g : Tg) : TG := fun v σ H Q => ∃ Z ρ fp d ρ', Good K Z H σ ρ fp ∧ Rep K Z v d ∧ g d ρ = some ρ' ∧ ∀ σ' fp', Good K Z H σ' ρ' fp' → keepS kp σ σ' → (∀ p, E fp' p → E fp p) → Q σ' H
def tGds (K : PySem.W.Frag) (kp : Nat → Bool) (g : List D → En → Option En) : TGs := fun vs σ H Q => ∃ Z ρ fp ds ρ', Good K Z H σ ρ fp ∧ RepL K Z vs ds ∧ g ds ρ = some ρ' ∧ ∀ σ' fp', Good K Z H σ' ρ' fp' → keepS kp σ σ' → (∀ p, E fp' p → E fp p) → Q σ' H
theorem pg_weak {X : Cx} {e : Expr} {t t' : TG} (h : PG X e t) (w : ∀ v σ H Q, t' v σ H Q → t v σ H Q) : PG X e t' := ⟨fun pins s σ H v u Q I r q => h.run pins s σ H v u Q I r (w v σ H Q q)⟩
theorem pgs_weak {X : Cx} {e : List Expr} {t t' : TGs} (h : PGs X e t) (w : ∀ v σ H Q, t' v σ H Q → t v σ H Q) : PGs X e t' := ⟨fun pins s σ H v u Q I r q => h.run pins s σ H v u Q I r (w v σ H Q q)⟩
def gNm (i : Nat) : Tg := fun d ρ => if i < ρ.length then some (ρ.set i (some (.fz d))) else none
def goTs : List Tg → List D → En → Option En
  | [], [], ρ => some ρ
  | g :: gs, d :: ds, ρ => (g d ρ).bind fun ρ' => goTs gs ds ρ'
  | _, _, _ => none
def gTp (n : Nat) (gs : List Tg) : Tg := fun d ρ => match d with
  | .tup ds => if ds.length = n then goTs gs ds ρ else none
  | _ => none
section
variable {X : Cx} {kp : Nat → Bool} {pos : Pos}
theorem E_put_nil {fp : Nat → List Addr} {i : Nat} {p : Addr} (h : E (fun j => if j = i then [] else fp j) p) : E fp p := (E_put h).elim (fun z => by cases z) id
theorem sg_name {x : Str} {i : Nat} (hN : X.N.Nodup) (hi : X.N[i]? = some x) (hx : Loc X.env.scope x) (hk : kp i = false) (hf : X.fn x = true ∨ X.env.scope.names.lookup x = some .local) : PG X (.Name x pos) (tGd X.K kp (gNm i)) := pg_weak (pg_name hN hi hx hf) fun v σ H Q ⟨Z, ρ, fp, d, ρ', g, r, e, k⟩ => by
  have e' : (if i < ρ.length then some (ρ.set i (some (T.fz d))) else none) = some ρ' := e
  by_cases hl : i < ρ.length
  · rw [if_pos hl] at e'
    cases e'
    exact k _ _ (g.put hl (t := .fz d) (m := []) ⟨r, rfl⟩ fun p hp => by cases hp) (keepS.set hk) fun p q => E_put_nil q
  · rw [if_neg hl] at e'; cases e'
theorem sgs_nil : PGs X [] (tGds X.K kp (goTs [])) := pgs_weak pgs_nil fun vs σ H Q ⟨Z, ρ, fp, ds, ρ', g, r, e, k⟩ => by
  cases r with
  | nil => cases e; exact ⟨rfl, k σ fp g keepS.refl fun p q => q⟩
  | cons _ _ => cases e
theorem sgs_cons {e : Expr} {es : List Expr} {t : Tg} {ts : List Tg} (h : PG X e (tGd X.K kp t)) (hr : PGs X es (tGds X.K kp (goTs ts))) (hs : (assignEach (e :: es) X.env).map (·.2) = assign e X.env :: (assignEach es X.env).map (·.2)) :
    PGs X (e :: es) (tGds X.K kp (goTs (t :: ts))) := pgs_weak (pgs_cons h hr hs) fun vs σ H Q ⟨Z, ρ, fp, ds, ρ', g, r, e, k⟩ => by
  cases r with
  | nil => cases e
  | cons r1 rr =>
    obtain ⟨ρ1, e1, e2⟩ := Option.bind_eq_some_iff.mp e
    refine ⟨_, _, rfl, Z, ρ, fp, _, ρ1, g, r1, e1, fun σ1 fp1 g1 k1 s1 => ?_⟩
    exact ⟨Z, ρ1, fp1, _, ρ', g1, rr, e2, fun σ2 fp2 g2 k2 s2 => k σ2 fp2 g2 (k1.trans k2) fun p q => s1 p (s2 p q)⟩
theorem sg_tup {es : List Expr} {ts : List Tg} {j n : Nat} (hc : X.calm = true) (h : PGs X es (tGds X.K kp (goTs ts))) (hn : (assignEach es X.env).length = n) (hst : (assignEach es X.env).findIdx? (·.1) = none) :
    PG X (.Tuple es j pos) (tGd X.K kp (gTp n ts)) := pg_weak (pg_tup hc h hn hst) fun v σ H Q ⟨Z, ρ, fp, d, ρ', g, r, e, k⟩ => by
  cases r with
  | @tup a vs ds h1 h2 =>
    have e' : (if ds.length = n then goTs ts ds ρ else none) = some ρ' := e
    by_cases hd : ds.length = n
    · rw [if_pos hd] at e'
      refine ⟨a, vs, rfl, SqT.of ((g.sub _ _ h1).elim id fun z => z.2.elim), by rw [h2.length]; exact hd, Z, ρ, fp, ds, ρ', g, h2, e', k⟩
    · rw [if_neg hd] at e'; cases e'
  | _ => cases e
end
/-- target = value, the value frozen -/
def asgF (g : Tg) (F : Sm) : Ss := fun ρ => (F ρ).bind fun p => (frz p.2 p.1).bind fun q => (g q.1 q.2).map fun ρ' => (.nx, ρ')
/-- name = value -/
def own (ρ : En) : R → Option (T × En)
  | .nw t => some (t, ρ)
  | r => (frz ρ r).map fun q => (.fz q.1, q.2)
def setF (i : Nat) (F : Sm) : Ss := fun ρ => (F ρ).bind fun p => (own p.2 p.1).bind fun q => if i < q.2.length then some (.nx, q.2.set i (some q.1)) else none
def owns : List R → En → Option (List T × En)
  | [], ρ => some ([], ρ)
  | r :: rs, ρ => (own ρ r).bind fun p => (owns rs p.2).map fun q => (p.1 :: q.1, q.2)
def put2 (i j : Nat) (ρ : En) : List T → Option (Fl × En)
  | [t, u] => if i < ρ.length ∧ j < ρ.length then some (.nx, (ρ.set i (some t)).set j (some u)) else none
  | _ => none
def put3 (i j l : Nat) (ρ : En) : List T → Option (Fl × En)
  | [t, u, w] => if i < ρ.length ∧ j < ρ.length ∧ l < ρ.length then some (.nx, ((ρ.set i (some t)).set j (some u)).set l (some w)) else none
  | _ => none
def parF (i j : Nat) (F G : Sm) : Ss := fun ρ => (seqs [F, G] ρ).bind fun p => (owns p.1 p.2).bind fun q => put2 i j q.2 q.1
def parF3 (i j l : Nat) (F G M : Sm) : Ss := fun ρ => (seqs [F, G, M] ρ).bind fun p => (owns p.1 p.2).bind fun q => put3 i j l q.2 q.1
section
variable {K : PySem.W.Frag} {Z H : Hp} {σ : St} {ρ ρ' : En} {fp : Nat → List Addr} {v : V} {r : R} {t : T} {l : List Addr}
theorem own_ok (g : Good K Z H σ ρ fp) (h : RR K Z H σ v r l) (n : ∀ p ∈ l, ¬ E fp p) (e : own ρ r = some (t, ρ')) :
    ∃ Z' fp' m, Good K Z' H σ ρ' fp' ∧ OwnT K Z' H v t m ∧ (∀ p ∈ m, ¬ E fp' p) ∧ (∀ p ∈ m, p ∈ l) ∧ Post Z H (fun p => E fp p ∨ p ∈ l) Z' H (fun p => E fp' p ∨ p ∈ m) := by
  have key : ∀ {r : R}, RR K Z H σ v r l → (frz ρ r).map (fun q => (T.fz q.1, q.2)) = some (t, ρ') → ∃ Z' fp' m, Good K Z' H σ ρ' fp' ∧ OwnT K Z' H v t m ∧ (∀ p ∈ m, ¬ E fp' p) ∧ (∀ p ∈ m, p ∈ l) ∧ Post Z H (fun p => E fp p ∨ p ∈ l) Z' H (fun p => E fp' p ∨ p ∈ m) := fun {r} h e => by
    obtain ⟨⟨d, ρ1⟩, e1, e2⟩ := Option.map_eq_some_iff.mp e
    cases e2
    obtain ⟨Z', fp', g', R', P'⟩ := frz_ok g h n e1
    exact ⟨Z', fp', [], g', ⟨R', rfl⟩, (fun p hp => by cases hp), (fun p hp => by cases hp), P'.weak fun p q => q.elim id fun z => by cases z⟩
  cases r with
  | nw u => cases e; exact ⟨Z, fp, l, g, h, n, fun p q => q, Post.refl⟩
  | fz d => exact key h e
  | sl i => exact key h e
  | sf i f => exact key h e
theorem owns_ok : ∀ {rs : List R} {vs : List V} {l : List Addr} {ts : List T} {Z : Hp} {ρ ρ' : En} {fp : Nat → List Addr}, Good K Z H σ ρ fp → RRs K Z H σ vs rs l → (∀ p ∈ l, ¬ E fp p) → owns rs ρ = some (ts, ρ') →
    ∃ Z' fp' m, Good K Z' H σ ρ' fp' ∧ OwnL K Z' H vs ts m ∧ (∀ p ∈ m, ¬ E fp' p) ∧ (∀ p ∈ m, p ∈ l) ∧ Post Z H (fun p => E fp p ∨ p ∈ l) Z' H (fun p => E fp' p ∨ p ∈ m)
  | [], _, _, ts, Z, ρ, ρ', fp, g, .nil, n, e => by
    cases e
    exact ⟨Z, fp, [], g, .nil, (fun p hp => by cases hp), (fun p hp => by cases hp), Post.refl⟩
  | r :: rs, _, _, ts, Z, ρ, ρ', fp, g, .cons (l := l1) (ls := ls) h hr nd, n, e => by
    obtain ⟨⟨t, ρ1⟩, h1, e⟩ := Option.bind_eq_some_iff.mp e
    obtain ⟨⟨ts', ρ2⟩, h2, e⟩ := Option.map_eq_some_iff.mp e
    cases e
    obtain ⟨Z1, fp1, m1, g1, o1, a1, b1, P1⟩ := own_ok g h (fun p hp => n p (List.mem_append_left _ hp)) h1
    obtain ⟨hr1, n1⟩ := RRs.stay hr (fun p hp z => z.elim (n p (List.mem_append_right _ hp)) fun w => nd p w hp) P1
    obtain ⟨Z2, fp2, m2, g2, o2, a2, b2, P2⟩ := owns_ok g1 hr1 (fun p hp z => n1 p hp (.inl z)) h2
    have R1 : RR K Z1 H σ _ (.nw t) m1 := o1
    obtain ⟨o1', n1'⟩ := R1.stay (A := fun p => E fp1 p ∨ p ∈ ls) (fun p hp z => z.elim (a1 p hp) fun w => nd p (b1 p hp) w) P2
    refine ⟨Z2, fp2, m1 ++ m2, g2, .cons o1' o2 fun p hp z => n1' p hp (.inr z), fun p hp z => ?_, fun p hp => ?_, ?_⟩
    · exact (List.mem_append.mp hp).elim (fun y => n1' p y (.inl z)) fun y => a2 p y z
    · exact (List.mem_append.mp hp).elim (fun y => List.mem_append_left _ (b1 p y)) fun y => List.mem_append_right _ (b2 p y)
    · have P1' : Post Z H (fun p => E fp p ∨ p ∈ l1 ++ ls) Z1 H (fun p => (E fp1 p ∨ p ∈ ls) ∨ p ∈ m1) := P1.wide (fun p q => q.imp_right (List.mem_append_left _)) fun p q => by
        rcases q with (q | q) | q
        · exact .inl (.inl q)
        · exact .inr (.inr (List.mem_append_right _ q))
        · exact .inl (.inr q)
      refine P1'.trans (P2.wide (fun p q => .inl q) fun p q => ?_)
      rcases q with q | q
      · exact .inl (.inl q)
      · exact (List.mem_append.mp q).elim (fun y => .inr (.inr y)) fun y => .inl (.inr y)
end
section
variable {X : Cx} {kp : Nat → Bool} {F F1 F2 F3 : Sm} {e tg a b c : Expr} {pos pos' : Pos} {g : Tg}
theorem ss_asg (he : PE X e (tE X.K F)) (hg : PG X tg (tGd X.K kp g)) (hs : swapsWithSole [tg] e pos.line X.env = pure false) (hw : swappedStores [tg] e X.env = pure none) (h1 : (assignEach [tg] X.env).map (·.2) = [assign tg X.env]) :
    PS X (.Assign [tg] e pos) (tS X.K kp (asgF g F)) := ps_weak (ps_asg he hg hs hw h1) fun D σ H ⟨Z, ρ, fp, fl, ρ', gd, e, k⟩ => by
  obtain ⟨⟨r, ρ1⟩, e1, e⟩ := Option.bind_eq_some_iff.mp e
  obtain ⟨⟨d, ρ2⟩, e2, e⟩ := Option.bind_eq_some_iff.mp e
  obtain ⟨ρ3, e3, e⟩ := Option.map_eq_some_iff.mp e
  cases e
  refine ⟨Z, ρ, fp, r, ρ1, gd, e1, fun Z' H' v fp' l g' R' n P => ?_⟩
  obtain ⟨Z2, fp2, g2, R2, P2⟩ := frz_ok g' R' n e2
  exact ⟨Z2, ρ2, fp2, d, _, g2, R2, e3, fun σ' fp3 g3 k3 s3 => (show Ke X.K Z H fp σ kp _ D.nx from k) Z2 H' σ' fp3 g3 k3 ((P.trans P2).weak s3)⟩
theorem set_go {K : PySem.W.Frag} {D : Ends} {σ : St} {H : Hp} {i : Nat} (hk : kp i = false) (h : tS K kp (setF i F) D σ H) : tAsg (tE K F) (gName i) D σ H := by
  obtain ⟨Z, ρ, fp, fl, ρ', gd, e, k⟩ := h
  obtain ⟨⟨r, ρ1⟩, e1, e⟩ := Option.bind_eq_some_iff.mp e
  obtain ⟨⟨t, ρ2⟩, e2, e⟩ := Option.bind_eq_some_iff.mp e
  have e3 : (if i < ρ2.length then some (Fl.nx, ρ2.set i (some t)) else none) = some (fl, ρ') := e
  by_cases hl : i < ρ2.length
  · rw [if_pos hl] at e3
    cases e3
    refine ⟨Z, ρ, fp, r, ρ1, gd, e1, fun Z' H' v fp' l g' R' n P => ?_⟩
    obtain ⟨Z2, fp2, m, g2, o2, a2, b2, P2⟩ := own_ok g' R' n e2
    refine (show Ke K Z H fp σ kp _ D.nx from k) Z2 H' _ _ (g2.put hl o2 fun p hp => .inr (a2 p hp)) (keepS.set hk) ((P.trans P2).weak fun p q => (E_put q).symm)
  · rw [if_neg hl] at e3; cases e3
theorem ss_set {x : Str} {i : Nat} (hN : X.N.Nodup) (hi : X.N[i]? = some x) (hx : Loc X.env.scope x) (hk : kp i = false) (hf : X.fn x = true ∨ X.env.scope.names.lookup x = some .local) (he : PE X e (tE X.K F)) (hs : swapsWith e (some (.Name x pos')) pos.line X.env = pure false) :
    PS X (.Assign [.Name x pos'] e pos) (tS X.K kp (setF i F)) := ps_weak (ps_set hN hi hx he hs hf) fun D σ H h => set_go hk h
theorem ss_par {i j : Nat} {x y : Str} {px py pt : Pos} {kt k2 : Nat} {pt2 : Pos} (hc : X.calm = true) (hN : X.N.Nodup) (hi : X.N[i]? = some x) (hj : X.N[j]? = some y) (hij : i ≠ j) (ki : kp i = false) (kj : kp j = false)
    (hx : X.env.scope.names.lookup x = some .local) (hy : X.env.scope.names.lookup y = some .local) (ha : PA X [a, b] (tA X.K [F1, F2]))
    (hw : swappedStores [.Tuple [.Name x px, .Name y py] kt pt] (.Tuple [a, b] k2 pt2) X.env = pure (some [x, y])) (hs : swapsWithSole [.Tuple [.Name x px, .Name y py] kt pt] (.Tuple [a, b] k2 pt2) pos.line X.env = pure false) :
    PS X (.Assign [.Tuple [.Name x px, .Name y py] kt pt] (.Tuple [a, b] k2 pt2) pos) (tS X.K kp (parF i j F1 F2)) := ps_weak (ps_par hc hN hi hj hij hx hy ha hw hs) fun D σ H ⟨Z, ρ, fp, fl, ρ', gd, e, k⟩ => by
  obtain ⟨⟨rs, ρ1⟩, e1, e⟩ := Option.bind_eq_some_iff.mp e
  obtain ⟨⟨ts, ρ2⟩, e2, e⟩ := Option.bind_eq_some_iff.mp e
  refine ⟨Z, ρ, fp, rs, ρ1, gd, e1, fun Z' H' vs fp' l g' R' n P => ?_⟩
  obtain ⟨Z2, fp2, m, g2, o2, a2, b2, P2⟩ := owns_ok g' R' n e2
  have e3 : put2 i j ρ2 ts = some (fl, ρ') := e
  cases o2 with
  | nil => cases e3
  | cons o1 o2 d1 =>
    cases o2 with
    | nil => cases e3
    | cons o2 o3 d2 =>
      cases o3 with
      | cons _ _ _ => cases e3
      | nil =>
        rename_i v t l1 w u l2
        have e4 : (if i < ρ2.length ∧ j < ρ2.length then some (Fl.nx, (ρ2.set i (some t)).set j (some u)) else none) = some (fl, ρ') := e3
        by_cases hl : i < ρ2.length ∧ j < ρ2.length
        · rw [if_pos hl] at e4
          cases e4
          refine ⟨v, w, rfl, ?_⟩
          have g3 := g2.put hl.1 o1 fun p hp => .inr (a2 p (by simp [hp]))
          have g4 := g3.put (i := j) (by rw [List.length_set]; exact hl.2) o2 fun p hp => .inr fun z => ?_
          · refine (show Ke X.K Z H fp σ kp _ D.nx from k) Z2 H' _ _ g4 ((keepS.set ki).trans (keepS.set kj)) ((P.trans P2).weak fun p q => ?_)
            rcases E_put q with y | y
            · exact .inr (by simp [y])
            · rcases E_put y with y | y
              · exact .inr (by simp [y])
              · exact .inl y
          · rcases E_put z with y | y
            · exact d1 p y (by simp [hp])
            · exact a2 p (by simp [hp]) y
        · rw [if_neg hl] at e4; cases e4
theorem ss_par3 {i j q : Nat} {x y z : Str} {px py pz pt : Pos} {kt k2 : Nat} {pt2 : Pos} (hc : X.calm = true) (hN : X.N.Nodup) (hi : X.N[i]? = some x) (hj : X.N[j]? = some y) (hq : X.N[q]? = some z) (hij : i ≠ j) (hiq : i ≠ q) (hjq : j ≠ q) (ki : kp i = false) (kj : kp j = false) (kq : kp q = false)
    (hx : X.env.scope.names.lookup x = some .local) (hy : X.env.scope.names.lookup y = some .local) (hz : X.env.scope.names.lookup z = some .local) (ha : PA X [a, b, c] (tA X.K [F1, F2, F3]))
    (hw : swappedStores [.Tuple [.Name x px, .Name y py, .Name z pz] kt pt] (.Tuple [a, b, c] k2 pt2) X.env = pure (some [x, y, z])) (hs : swapsWithSole [.Tuple [.Name x px, .Name y py, .Name z pz] kt pt] (.Tuple [a, b, c] k2 pt2) pos.line X.env = pure false) :
    PS X (.Assign [.Tuple [.Name x px, .Name y py, .Name z pz] kt pt] (.Tuple [a, b, c] k2 pt2) pos) (tS X.K kp (parF3 i j q F1 F2 F3)) := ps_weak (ps_par3 hc hN hi hj hq hij hiq hjq hx hy hz ha hw hs) fun D σ H ⟨Z, ρ, fp, fl, ρ', gd, e, k⟩ => by
  obtain ⟨⟨rs, ρ1⟩, e1, e⟩ := Option.bind_eq_some_iff.mp e
  obtain ⟨⟨ts, ρ2⟩, e2, e⟩ := Option.bind_eq_some_iff.mp e
  refine ⟨Z, ρ, fp, rs, ρ1, gd, e1, fun Z' H' vs fp' l g' R' n P => ?_⟩
  obtain ⟨Z2, fp2, m, g2, o2, a2, b2, P2⟩ := owns_ok g' R' n e2
  have e3 : put3 i j q ρ2 ts = some (fl, ρ') := e
  cases o2 with
  | nil => cases e3
  | cons o1 o2 d1 =>
    cases o2 with
    | nil => cases e3
    | cons o2 o3 d2 =>
      cases o3 with
      | nil => cases e3
      | cons o3 o4 d3 =>
        cases o4 with
        | cons _ _ _ => cases e3
        | nil =>
          rename_i v t l1 v2 u l2 v3 w l3
          have e4 : (if i < ρ2.length ∧ j < ρ2.length ∧ q < ρ2.length then some (Fl.nx, ((ρ2.set i (some t)).set j (some u)).set q (some w)) else none) = some (fl, ρ') := e3
          by_cases hl : i < ρ2.length ∧ j < ρ2.length ∧ q < ρ2.length
          · rw [if_pos hl] at e4
            cases e4
            refine ⟨v, v2, v3, rfl, ?_⟩
            have g3 := g2.put hl.1 o1 fun p hp => .inr (a2 p (by simp [hp]))
            have g4 := g3.put (i := j) (by rw [List.length_set]; exact hl.2.1) o2 fun p hp => .inr fun z => ?_
            · have g5 := g4.put (i := q) (by rw [List.length_set, List.length_set]; exact hl.2.2) o3 fun p hp => .inr fun z => ?_
              · refine (show Ke X.K Z H fp σ kp _ D.nx from k) Z2 H' _ _ g5 (((keepS.set ki).trans (keepS.set kj)).trans (keepS.set kq)) ((P.trans P2).weak fun p q => ?_)
                rcases E_put q with y | y
                · exact .inr (by simp [y])
                · rcases E_put y with y | y
                  · exact .inr (by simp [y])
                  · rcases E_put y with y | y
                    · exact .inr (by simp [y])
                    · exact .inl y
              · rcases E_put z with y | y
                · exact d2 p y (by simp [hp])
                · rcases E_put y with y | y
                  · exact d1 p y (by simp [hp])
                  · exact a2 p (by simp [hp]) y
            · rcases E_put z with y | y
              · exact d1 p y (by simp [hp])
              · exact a2 p (by simp [hp]) y
          · rw [if_neg hl] at e4; cases e4
end

/-! ### places, written -/
def plOf : R → Option Pl
  | .sl i => some (.s i)
  | .sf i f => some (.f i f)
  | _ => none
section
variable {K : PySem.W.Frag} {Z H : Hp} {σ : St} {ρ : En} {fp : Nat → List Addr} {v : V} {r : R} {l : List Addr} {cur : D} {pl : Pl}
theorem OwTop.mut {a : Addr} {d : D} {o : HO} (h : OwTop K Z H a d) (e : H a = some o) : (∀ C dx fs, o ≠ .ins C dx fs) := by
  intro C dx fs he
  subst he
  cases d with
  | lst ds => obtain ⟨vs, h1, h2⟩ := h; rw [e] at h1; cases h1
  | dic ds => obtain ⟨vs, h1, h2⟩ := h; rw [e] at h1; cases h1
  | dit ds => obtain ⟨vs, h1, h2⟩ := h; rw [e] at h1; cases h1
  | _ => exact h.elim
theorem OwnF.write : ∀ {fv : List (Str × V)} {fs : List (Str × T)} {l : List Addr} {x : Str} {cur : D}, OwnF K Z H fv fs l → fs.lookup x = some (.ow cur) →
    ∃ a, fv.lookup x = some (.ref a) ∧ a ∈ l ∧ Z a = none ∧ OwTop K Z H a cur ∧ ∀ ho new, OwTop K Z (upd H a ho) a new → OwnF K Z (upd H a ho) fv (fput fs x (.ow new)) l
  | _, _, _, x, cur, .nil, h => by cases h
  | _, _, _, x, cur, .cons (f := g) (v := w) (t := u) (l := l0) (ls := ls) (fv := fv0) (fs := fs0) h r n, e => by
    rw [List.lookup_cons] at e
    rw [List.lookup_cons]
    cases q : (x == g) with
    | true =>
      rw [q] at e
      cases e
      obtain ⟨a, rfl, rfl, z, o⟩ := h
      refine ⟨a, rfl, List.mem_append_left _ List.mem_cons_self, z, o, fun ho new on => ?_⟩
      have q2 : fput ((g, .ow cur) :: fs0) x (.ow new) = (g, .ow new) :: fs0 := by
        show (if (x == g) = true then _ else _) = _
        rw [if_pos q]
      rw [q2]
      have na : a ∉ ls := n a List.mem_cons_self
      exact .cons ⟨a, rfl, rfl, z, on⟩ (r.mono (Same.refl _) (fun p hp o e => by rw [upd_ne (fun y => na (by rw [← y]; exact hp))]; exact e) fun p hp => (r.there p hp).2) n
    | false =>
      rw [q] at e
      obtain ⟨a, e1, e2, e3, e4, e5⟩ := OwnF.write r e
      refine ⟨a, e1, List.mem_append_right _ e2, e3, e4, fun ho new on => ?_⟩
      have q2 : fput ((g, u) :: fs0) x (.ow new) = (g, u) :: fput fs0 x (.ow new) := by
        show (if (x == g) = true then _ else _) = _
        rw [if_neg (by rw [q]; exact Bool.false_ne_true)]
      rw [q2]
      refine .cons (h.mono (Same.refl _) (fun p hp o e => ?_) fun p hp => (h.there p hp).2) (e5 ho new on) n
      rw [upd_ne (fun y => n p hp (by rw [y]; exact e2))]; exact e
theorem place_at (g : Good K Z H σ ρ fp) (h : RR K Z H σ v r l) (hp : plOf r = some pl) (e : plGet ρ pl = some cur) :
    ∃ a, v = .ref a ∧ Z a = none ∧ OwTop K Z H a cur ∧ E fp a ∧ ∀ ho new, OwTop K Z (upd H a ho) a new → Good K Z (upd H a ho) σ (plSet ρ new pl) fp ∧ Post Z H (E fp) Z (upd H a ho) (E fp) := by
  have fin : ∀ {i : Nat} {t t' : T} {a : Addr} {ho : HO} {w : V}, ρ.getD i none = some t → σ.getD i none = some w → a ∈ fp i → Z a = none → (∃ o, H a = some o ∧ ∀ C dx fs, o ≠ .ins C dx fs) → OwnT K Z (upd H a ho) w t' (fp i) →
      Good K Z (upd H a ho) σ (ρ.set i (some t')) fp ∧ Post Z H (E fp) Z (upd H a ho) (E fp) := fun {i t t' a ho w} ei es ha hz hh on => by
    have tk : TbK H (upd H a ho) := by
      obtain ⟨⟨o, e, m⟩, _⟩ := g.there ⟨i, ha⟩
      exact .at e m.2
    refine ⟨⟨by rw [List.length_set]; exact g.len, fun b u hb => ?_, fun j => ?_, g.disj, ⟨tk.ts _ g.tz.ts, g.tz.no⟩⟩, ⟨Same.refl _, fun p o hp n _ => ?_, fun p q => .inl q, fun p o q => .inl q, fun b C dx fv hb => ?_, tk⟩⟩
    · have nb : b ≠ a := fun y => by rw [y, hz] at hb; cases hb
      rcases g.sub b u hb with q | ⟨⟨o, q⟩, m⟩
      · exact .inl (by rw [upd_ne nb]; exact q)
      · exact .inr ⟨⟨o, by rw [upd_ne nb]; exact q⟩, m⟩
    · rw [getD_set]
      by_cases ej : i = j
      · rw [if_pos ⟨ej, lt_of_getD ei⟩, ← ej, es]
        exact on
      · rw [if_neg (fun q => ej q.1)]
        have sl := g.slot j
        have na : a ∉ fp j := fun y => ej (g.disj i j a ha y)
        cases h1 : σ.getD j none with
        | none =>
          rw [h1] at sl
          cases h2 : ρ.getD j none with
          | none => rw [h2] at sl; exact sl
          | some t => rw [h2] at sl; exact sl.elim
        | some x =>
          rw [h1] at sl
          cases h2 : ρ.getD j none with
          | none => rw [h2] at sl; exact sl.elim
          | some t =>
            rw [h2] at sl
            exact OwnT.mono (Same.refl _) (fun p hp o e => by rw [upd_ne (fun y => na (by rw [← y]; exact hp))]; exact e) (fun p hp => (OwnT.there sl p hp).2) sl
    · rw [upd_ne (fun y => n ⟨i, by rw [y]; exact ha⟩)]; exact hp
    · obtain ⟨o, ho', hn⟩ := hh
      have nb : b ≠ a := fun y => by rw [y, ho'] at hb; cases hb; exact hn _ _ _ rfl
      exact ⟨fv, by rw [upd_ne nb]; exact hb, fun f v q => q⟩
  cases r with
  | fz d => cases hp
  | nw t => cases hp
  | sl i =>
    cases hp
    have e' : (match ρ.getD i none with
      | some (.ow d) => some d
      | _ => none) = some cur := e
    cases q : ρ.getD i none with
    | none => rw [q] at e'; cases e'
    | some t =>
      rw [q] at e'
      cases t with
      | ow d =>
        cases e'
        obtain ⟨w, hw, o⟩ := g.at q
        rw [h.1] at hw
        cases hw
        obtain ⟨a, rfl, hl, hz, ot⟩ := (show ∃ a, v = .ref a ∧ fp i = [a] ∧ Z a = none ∧ OwTop K Z H a _ from o)
        have ha : a ∈ fp i := by rw [hl]; exact List.mem_cons_self
        obtain ⟨ob, hob, _⟩ := ot.there
        exact ⟨a, rfl, hz, ot, ⟨i, ha⟩, fun ho new on => fin q h.1 ha hz ⟨ob, hob, ot.mut hob⟩ ⟨a, rfl, hl, hz, on⟩⟩
      | _ => cases e'
  | sf i f =>
    cases hp
    have e' : (match ρ.getD i none with
      | some (.ob _ fs) => match fs.lookup f with
        | some (.ow d) => some d
        | _ => none
      | _ => none) = some cur := e
    cases q : ρ.getD i none with
    | none => rw [q] at e'; cases e'
    | some t =>
      rw [q] at e'
      cases t with
      | ob c fs =>
        have e2 : (match fs.lookup f with
          | some (.ow d) => some d
          | _ => none) = some cur := e'
        cases y : fs.lookup f with
        | none => rw [y] at e2; cases e2
        | some t =>
          rw [y] at e2
          cases t with
          | ow d =>
            cases e2
            obtain ⟨w, hw, a1, dx, fv, ls, rfl, hl, hz, na, hh, F⟩ := g.at q
            obtain ⟨⟨a', C, dx', fv', e5, e6, e7⟩, _⟩ := h
            rw [e5] at hw
            cases hw
            rw [e6] at hh
            cases hh
            obtain ⟨a, k1, k2, k3, k4, k5⟩ := F.write y
            rw [e7] at k1
            cases k1
            have ha : a ∈ fp i := by rw [hl]; exact List.mem_cons_of_mem _ k2
            obtain ⟨ob, hob, _⟩ := k4.there
            refine ⟨a, rfl, k3, k4, ⟨i, ha⟩, fun ho new on => ?_⟩
            have e8 : plSet ρ new (.f i f) = ρ.set i (some (.ob c (fput fs f (.ow new)))) := by
              show (match ρ.getD i none with
                | some (.ob c fs) => ρ.set i (some (.ob c (fput fs f (.ow new))))
                | _ => ρ) = _
              rw [q]
            rw [e8]
            refine fin q e5 ha k3 ⟨ob, hob, k4.mut hob⟩ ⟨a1, dx, fv, ls, rfl, hl, hz, na, ?_, k5 ho new on⟩
            rw [upd_ne (fun z => na (by rw [z]; exact k2))]
            exact e6
          | _ => cases e2
      | _ => cases e'
end
end FL

set_option Elab.async false
set_option maxRecDepth 100000
set_option maxHeartbeats 2000000
namespace FL
open PySem PySem.Spec L2

/-! ### methods that write -/
def isLst : D → Bool
  | .lst _ => true
  | _ => false
def mtF (f : D → List D → Option (D × D)) (Fo : Sm) (Fs : List Sm) : Sm := fun ρ => (Fo ρ).bind fun p => (plOf p.1).bind fun pl => (plGet p.2 pl).bind fun c0 => if isLst c0 = true then (seqs Fs p.2).bind fun q => (frzs q.1 q.2).bind fun z => (plGet z.2 pl).bind fun cur => (f cur z.1).map fun w => (.fz w.2, plSet z.2 w.1 pl) else none
def OpM (r : V → List V → Hp → VK → Prop) (f : D → List D → Option (D × D)) : Prop := ∀ (K : PySem.W.Frag) (Z H : Hp) (a : Addr) (vs : List V) (cur : D) (ds : List D) (new res : D) (Q : VK), Sub Z H → Z a = none → OwTop K Z H a cur → RepL K Z vs ds → f cur ds = some (new, res) →
  (∀ ho w, OwTop K Z (upd H a ho) a new → Rep K Z w res → Q w (upd H a ho)) → r (.ref a) vs H Q
theorem mtF_go {K : PySem.W.Frag} {r : V → List V → Hp → VK → Prop} {f : D → List D → Option (D × D)} {Fo : Sm} {Fs : List Sm} {σ : St} {H : Hp} {Q : VK} (op : OpM r f) (h : tE K (mtF f Fo Fs) σ H Q) :
    tE K Fo σ H fun x H1 => tyV K "list" x H1 ∧ tA K Fs σ H1 fun vs H2 => r x vs H2 Q := by
  obtain ⟨Z, ρ, fp, r0, ρ', g, e, k⟩ := h
  obtain ⟨⟨ro, ρ1⟩, e1, e⟩ := Option.bind_eq_some_iff.mp e
  obtain ⟨pl, e2, e⟩ := Option.bind_eq_some_iff.mp e
  obtain ⟨c0, e3, e⟩ := Option.bind_eq_some_iff.mp e
  by_cases hl : isLst c0 = true
  · rw [if_pos hl] at e
    obtain ⟨⟨rs, ρ2⟩, e4, e⟩ := Option.bind_eq_some_iff.mp e
    obtain ⟨⟨ds, ρ3⟩, e5, e⟩ := Option.bind_eq_some_iff.mp e
    obtain ⟨cur, e6, e⟩ := Option.bind_eq_some_iff.mp e
    obtain ⟨⟨new, res⟩, e7, e8⟩ := Option.map_eq_some_iff.mp e
    cases e8
    refine ⟨Z, ρ, fp, ro, ρ1, g, e1, fun Z1 H1 v fp1 l g1 R1 n1 P1 => ?_⟩
    obtain ⟨a, rfl, hz, ot, _, _⟩ := place_at g1 R1 e2 e3
    refine ⟨?_, Z1, ρ1, fp1, rs, ρ2, g1, e4, fun Z2 H2 vs fp2 l2 g2 R2 n2 P2 => ?_⟩
    · cases c0 with
      | lst ds => obtain ⟨vs, h1, h2⟩ := ot; exact .inl ⟨rfl, vs, SqL.of h1⟩
      | _ => cases hl
    · obtain ⟨Z3, fp3, g3, R3, P3⟩ := frzs_ok g2 R2 n2 e5
      obtain ⟨Ra, na⟩ := R1.stay n1 (P2.trans P3)
      obtain ⟨b, hb, hz', ot', _, wr⟩ := place_at g3 Ra e2 e6
      cases hb
      refine op K Z3 H2 a vs cur ds new res Q g3.sub hz' ot' R3 e7 fun ho w on rw => ?_
      obtain ⟨g4, P4⟩ := wr ho new on
      have P12 : Post Z H (E fp) Z2 H2 (fun p => (E fp2 p ∨ p ∈ l2)) := (P1.weak fun p q => .inl q).trans P2
      exact k Z3 (upd H2 a ho) w fp3 [] g4 ⟨rw, rfl⟩ (fun p hp => by cases hp) (((P12.trans P3).trans P4).weak fun p q => q.elim id fun z => by cases z)
  · rw [if_neg hl] at e; cases e
def apD : D → List D → Option (D × D)
  | .lst xs, [d] => if xs.length < sizeLine then some (.lst (xs ++ [d]), .non) else none
  | _, _ => none
def poD : D → List D → Option (D × D)
  | .lst xs, [] => xs[xs.length - 1]?.map fun y => (.lst xs.dropLast, y)
  | _, _ => none
def paD : D → List D → Option (D × D)
  | .lst xs, [.int i] => if -(2 ^ 63) ≤ i ∧ i < 2 ^ 63 then (seqIndex? i xs.length).bind fun k => xs[k]?.map fun y => (.lst (xs.eraseIdx k), y) else none
  | _, _ => none
theorem RepL.dropLast {K : PySem.W.Frag} {Z : Hp} : ∀ {vs : List V} {ds : List D}, RepL K Z vs ds → RepL K Z vs.dropLast ds.dropLast
  | _, _, .nil => .nil
  | _, _, .cons _ .nil => .nil
  | _, _, .cons h (.cons h2 r) => .cons h (RepL.dropLast (.cons h2 r))
theorem RepL.eraseIdx {K : PySem.W.Frag} {Z : Hp} : ∀ {vs : List V} {ds : List D} (i : Nat), RepL K Z vs ds → RepL K Z (vs.eraseIdx i) (ds.eraseIdx i)
  | _, _, _, .nil => .nil
  | _, _, 0, .cons _ t => t
  | _, _, i + 1, .cons r t => .cons r (RepL.eraseIdx i t)
theorem RepL.setAt {K : PySem.W.Frag} {Z : Hp} {v : V} {d : D} (h : Rep K Z v d) : ∀ {vs : List V} {ds : List D} (i : Nat), RepL K Z vs ds → RepL K Z (vs.set i v) (ds.set i d)
  | _, _, _, .nil => .nil
  | _, _, 0, .cons _ t => .cons h t
  | _, _, i + 1, .cons r t => .cons r (RepL.setAt h i t)
theorem op_app : OpM rAppend apD := by
  intro K Z H a vs cur ds new res Q sb hz ot rl e k
  cases cur with
  | lst xs =>
    obtain ⟨ws, h1, h2⟩ := ot
    cases rl with
    | nil => cases e
    | cons r rr =>
      cases rr with
      | cons _ _ => cases e
      | nil =>
        rename_i v d
        have e' : (if xs.length < sizeLine then some (D.lst (xs ++ [d]), D.non) else none) = some (new, res) := e
        by_cases hl : xs.length < sizeLine
        · rw [if_pos hl] at e'
          cases e'
          exact ⟨a, ws, v, rfl, rfl, h1, by rw [h2.length]; exact hl, k _ .non ⟨ws ++ [v], upd_same, h2.append (.cons r .nil)⟩ .non⟩
        · rw [if_neg hl] at e'; cases e'
  | _ => cases e
theorem op_pop : OpM rPop poD := by
  intro K Z H a vs cur ds new res Q sb hz ot rl e k
  cases cur with
  | lst xs =>
    obtain ⟨ws, h1, h2⟩ := ot
    cases rl with
    | cons r rr => cases e
    | nil =>
      obtain ⟨y, e1, e2⟩ := Option.map_eq_some_iff.mp (show xs[xs.length - 1]?.map (fun y => (D.lst xs.dropLast, y)) = some (new, res) from e)
      cases e2
      obtain ⟨w, hw, rw'⟩ := h2.get e1
      exact ⟨a, ws, w, rfl, rfl, h1, by rw [h2.length]; exact hw, k _ w ⟨ws.dropLast, upd_same, h2.dropLast⟩ rw'⟩
  | _ => cases e
theorem op_popAt : OpM rPopAt paD := by
  intro K Z H a vs cur ds new res Q sb hz ot rl e k
  cases cur with
  | lst xs =>
    obtain ⟨ws, h1, h2⟩ := ot
    cases rl with
    | nil => cases e
    | cons r rr =>
      cases rr with
      | cons _ _ => cases r <;> cases e
      | nil =>
        cases r with
        | int i =>
          have e' : (if -(2 ^ 63) ≤ i ∧ i < 2 ^ 63 then (seqIndex? i xs.length).bind fun k => xs[k]?.map fun y => (D.lst (xs.eraseIdx k), y) else none) = some (new, res) := e
          by_cases hi : -(2 ^ 63) ≤ i ∧ i < 2 ^ 63
          · rw [if_pos hi] at e'
            obtain ⟨j, e1, e'⟩ := Option.bind_eq_some_iff.mp e'
            obtain ⟨y, e2, e3⟩ := Option.map_eq_some_iff.mp e'
            cases e3
            obtain ⟨w, hw, rw'⟩ := h2.get e2
            exact ⟨a, ws, i, j, w, rfl, rfl, h1, hi.1, hi.2, by rw [h2.length]; exact e1, hw, k _ w ⟨ws.eraseIdx j, upd_same, h2.eraseIdx j⟩ rw'⟩
          · rw [if_neg hi] at e'; cases e'
        | _ => cases e
  | _ => cases e
section
variable {X : Cx} {o e : Expr} {es : List Expr} {Fo F : Sm} {Fs : List Sm} {apos cpos pos : Pos}
theorem se_bm {name : Str} {id : String} {r : V → List V → Hp → VK → Prop} {f : D → List D → Option (D × D)} (slot : Slot "list" name id) (hty : typeOf (.builtin id) = pure (.type "method_descriptor")) (hm : MtR X id r) (op : OpM r f) (ho : PE X o (tE X.K Fo)) (ha : PA X (e :: es) (tA X.K Fs))
    (hbase : attributeBase o name X.env (eval o X.env) = eval o X.env)
    (hfew : ((backTo cpos (starEach (e :: es) X.env)).all (fun x => !x.1) && (backToKw cpos (keywordEach [] X.env)).all (fun x => x.1.isSome)
      && decide ((e :: es).length + ([] : List Keyword).length + (if ([] : List Keyword).isEmpty then 0 else 1) < 30)) = true)
    (hline : (apos.endLine == cpos.line) = true) (hs : starEach (e :: es) X.env = (false, eval e X.env) :: starEach es X.env) (hplain : (backTo cpos (starEach es X.env)).any (·.1) = false) :
    PE X (.Call (.Attribute o name apos) (e :: es) [] cpos) (tE X.K (mtF f Fo Fs)) := pe_weak (pe_bm PySem.F.plainAttrs_list slot hty hm ho ha hbase hfew hline hs hplain) fun σ H Q q => mtF_go op q
theorem se_bm0 {name : Str} {id : String} {r : V → List V → Hp → VK → Prop} {f : D → List D → Option (D × D)} (slot : Slot "list" name id) (hty : typeOf (.builtin id) = pure (.type "method_descriptor")) (hm : MtR X id r) (op : OpM r f) (ho : PE X o (tE X.K Fo))
    (hbase : attributeBase o name X.env (eval o X.env) = eval o X.env) (hline : (apos.endLine == cpos.line) = true) :
    PE X (.Call (.Attribute o name apos) [] [] cpos) (tE X.K (mtF f Fo [])) := pe_weak (pe_bm0 PySem.F.plainAttrs_list slot hty hm ho hbase hline) fun σ H Q q => by
  obtain ⟨Z, ρ, fp, r0, ρ1, g, e, k⟩ := mtF_go op q
  refine ⟨Z, ρ, fp, r0, ρ1, g, e, fun Z1 H1 v fp1 l g1 R1 n1 P1 => ?_⟩
  obtain ⟨ty, Z2, ρ2, fp2, rs, ρ3, g2, e2, k2⟩ := k Z1 H1 v fp1 l g1 R1 n1 P1
  cases e2
  exact ⟨ty, k2 Z2 H1 [] fp2 [] g2 .nil (fun p hp => by cases hp) (Post.refl.weak fun p q => q.elim (fun z => z) fun z => by cases z)⟩

/-! ### o[i] = v -/
theorem lenK {K : PySem.W.Frag} {Z : Hp} : ∀ {vs : List (Key × V)} {ds : List (Key × D)}, RepK K Z vs ds → vs.length = ds.length
  | _, _, .nil => rfl
  | _, _, .cons h r => congrArg (· + 1) (lenK r)
theorem RepJ.any {K : PySem.W.Frag} {Z : Hp} {k : List Key} : ∀ {vs : List (List Key × V)} {ds : List (List Key × D)}, RepJ K Z vs ds → (vs.any fun kv => decide (kv.1 = k)) = ds.any fun kv => decide (kv.1 = k)
  | _, _, .nil => rfl
  | _, _, .cons _ r => by rw [List.any_cons, List.any_cons, RepJ.any r]
theorem RepJ.mapAt {K : PySem.W.Frag} {Z : Hp} {k : List Key} {v : V} {d : D} (h : Rep K Z v d) : ∀ {vs : List (List Key × V)} {ds : List (List Key × D)}, RepJ K Z vs ds → RepJ K Z (vs.map fun kv => if kv.1 = k then (kv.1, v) else kv) (ds.map fun kv => if kv.1 = k then (kv.1, d) else kv)
  | _, _, .nil => .nil
  | _, _, .cons (k := j) h1 r => by
    rw [List.map_cons, List.map_cons]
    by_cases e : j = k
    · simp only [e, if_true]
      exact .cons h (RepJ.mapAt h r)
    · simp only [e, if_false]
      exact .cons h1 (RepJ.mapAt h r)
theorem RepJ.app {K : PySem.W.Frag} {Z : Hp} : ∀ {vs ws : List (List Key × V)} {ds es : List (List Key × D)}, RepJ K Z vs ds → RepJ K Z ws es → RepJ K Z (vs ++ ws) (ds ++ es)
  | _, _, _, _, .nil, s => s
  | _, _, _, _, .cons h r, s => .cons h (RepJ.app r s)
theorem RepJ.length {K : PySem.W.Frag} {Z : Hp} : ∀ {vs : List (List Key × V)} {ds : List (List Key × D)}, RepJ K Z vs ds → vs.length = ds.length
  | _, _, .nil => rfl
  | _, _, .cons h r => congrArg (· + 1) (RepJ.length r)
theorem RepJ.put {K : PySem.W.Frag} {Z : Hp} {k : List Key} {v : V} {d : D} {vs : List (List Key × V)} {ds : List (List Key × D)} (r : RepJ K Z vs ds) (h : Rep K Z v d) : RepJ K Z (putK vs k v) (dput ds k d) := by
  unfold putK dput
  rw [r.any]
  by_cases e : (ds.any fun kv => decide (kv.1 = k)) = true
  · rw [if_pos e, if_pos e]; exact r.mapAt h
  · rw [if_neg e, if_neg e]; exact r.app (.cons h .nil)
def setD : D → D → D → Option D
  | .lst xs, .int i, v => (ixN xs.length i).map fun j => .lst (xs.set j v)
  | .dic kvs, k, v => (keyOf k).bind fun k => if kvs.length < sizeLine then some (.dic (dput kvs k v)) else none
  | .dit kvs, .tup ds, v => (keysOf ds).bind fun k => if kvs.length < sizeLine then some (.dit (dput kvs k v)) else none
  | _, _, _ => none
def rSt : V → V → V → Hp → (Hp → Prop) → Prop := fun o i v H Q => rSetL o i v H Q ∨ ∃ a H', o = .ref a ∧ DPut H a i v H' ∧ Q H'
theorem set_st (hu : X.A.units + 200 < cLine) : PSet X rSt := by
  intro pins s σ H o i v ov iv u Q I ro ri rv h
  rcases h with h | ⟨a, H', rfl, hp, q⟩
  · exact set_list pins s σ H o i v ov iv u Q I ro ri rv h
  · cases ro
    exact d_setItem (by omega) I hp ri rv fun s' I' => ⟨H', I', q⟩
theorem RdD.monoZ {K : PySem.W.Frag} {Z Z' H : Hp} {v : V} {d : D} (s : Same Z Z') (h : RdD K Z H v d) : RdD K Z' H v d := by
  cases d with
  | lst ds => obtain ⟨a, vs, h1, h2, h3⟩ := h; exact ⟨a, vs, h1, h2, h3.mono s⟩
  | tup ds => obtain ⟨a, vs, h1, h2, h3⟩ := h; exact ⟨a, vs, h1, h2, h3.mono s⟩
  | dic ds => obtain ⟨a, vs, h1, h2, h3⟩ := h; exact ⟨a, vs, h1, h2, h3.mono s⟩
  | dit ds => obtain ⟨a, vs, h1, h2, h3⟩ := h; exact ⟨a, vs, h1, h2, h3.mono s⟩
  | _ => exact h
theorem st_go {K : PySem.W.Frag} {Z H : Hp} {a : Addr} {i w : V} {cur k d new : D} {Q : Hp → Prop} (sb : Sub Z H) (ot : OwTop K Z H a cur) (hk : RdD K Z H i k) (hd : Rep K Z w d) (e : setD cur k d = some new) (q : ∀ ho, OwTop K Z (upd H a ho) a new → Q (upd H a ho)) :
    rSt (.ref a) i w H Q := by
  cases cur with
  | lst xs =>
    cases k with
    | int j =>
      obtain ⟨n, e1, e2⟩ := Option.map_eq_some_iff.mp (show (ixN xs.length j).map (fun n => D.lst (xs.set n d)) = some new from e)
      cases e2
      obtain ⟨vs, h1, h2⟩ := ot
      exact .inl ⟨a, vs, j, n, rfl, hk, h1, by rw [h2.length]; exact e1, q _ ⟨vs.set n w, upd_same, h2.setAt hd n⟩⟩
    | _ => cases e
  | dic kvs =>
    obtain ⟨k', e1, e2⟩ := Option.bind_eq_some_iff.mp (show (keyOf k).bind (fun k => if kvs.length < sizeLine then some (D.dic (dput kvs k d)) else none) = some new by cases k <;> exact e)
    by_cases hl : kvs.length < sizeLine
    · rw [if_pos hl] at e2
      cases e2
      obtain ⟨vs, h1, h2⟩ := ot
      rw [keyOf_v hk e1]
      exact .inr ⟨a, _, rfl, DPut.k h1 (by rw [lenK h2]; exact hl), q _ ⟨_, upd_same, dput_rep h2 hd⟩⟩
    · rw [if_neg hl] at e2; cases e2
  | dit kvs =>
    cases k with
    | tup ds =>
      obtain ⟨k', e1, e2⟩ := Option.bind_eq_some_iff.mp (show (keysOf ds).bind (fun k => if kvs.length < sizeLine then some (D.dit (dput kvs k d)) else none) = some new from e)
      by_cases hl : kvs.length < sizeLine
      · rw [if_pos hl] at e2
        cases e2
        obtain ⟨vs, h1, h2⟩ := ot
        obtain ⟨b, ws, rfl, h3, h4⟩ := hk
        have ev := keysOf_v h4 e1
        subst ev
        exact .inr ⟨a, _, rfl, DPut.t h1 h3 (by rw [h2.length]; exact hl), q _ ⟨_, upd_same, h2.put hd⟩⟩
      · rw [if_neg hl] at e2; cases e2
    | _ => cases e
  | _ => cases e
end
def stF (Fv Fo Fi : Sm) : Ss := fun ρ => (Fv ρ).bind fun pv => (Fo pv.2).bind fun po => (plOf po.1).bind fun pl => (Fi po.2).bind fun pi => (peek pi.2 pi.1).bind fun k => (frz pi.2 pv.1).bind fun z => (plGet z.2 pl).bind fun cur => (setD cur k z.1).map fun new => (.nx, plSet z.2 new pl)
section
variable {X : Cx} {kp : Nat → Bool} {o i e : Expr} {Fv Fo Fi : Sm} {pos pos' : Pos}
theorem ss_st (hu : X.A.units + 200 < cLine) (he : PE X e (tE X.K Fv)) (ho : PE X o (tE X.K Fo)) (hi : PE X i (tE X.K Fi))
    (ha : ∀ v, assign (.Subscript o i pos') X.env v = (do
      let ov ← holding [v] (eval o X.env)
      let iv ← holding [v, ov] (eval i X.env)
      standAt pos'
      holding [v, ov, iv] (setItem ov iv v)
      release [v, ov, iv] []))
    (hs : swapsWithSole [.Subscript o i pos'] e pos.line X.env = pure false) (hw : swappedStores [.Subscript o i pos'] e X.env = pure none) (h1 : (assignEach [.Subscript o i pos'] X.env).map (·.2) = [assign (.Subscript o i pos') X.env]) :
    PS X (.Assign [.Subscript o i pos'] e pos) (tS X.K kp (stF Fv Fo Fi)) := by
  refine ps_weak (ps_asg he (pg_sub ho hi (set_st hu) ha) hs hw h1) fun D σ H ⟨Z, ρ, fp, fl, ρ', g, e, k⟩ => ?_
  obtain ⟨⟨rv, ρ1⟩, e1, e⟩ := Option.bind_eq_some_iff.mp e
  obtain ⟨⟨ro, ρ2⟩, e2, e⟩ := Option.bind_eq_some_iff.mp e
  obtain ⟨pl, e3, e⟩ := Option.bind_eq_some_iff.mp e
  obtain ⟨⟨ri, ρ3⟩, e4, e⟩ := Option.bind_eq_some_iff.mp e
  obtain ⟨kd, e5, e⟩ := Option.bind_eq_some_iff.mp e
  obtain ⟨⟨d, ρ4⟩, e6, e⟩ := Option.bind_eq_some_iff.mp e
  obtain ⟨cur, e7, e⟩ := Option.bind_eq_some_iff.mp e
  obtain ⟨new, e8, e9⟩ := Option.map_eq_some_iff.mp e
  cases e9
  refine ⟨Z, ρ, fp, rv, ρ1, g, e1, fun Z1 H1 w fp1 l1 g1 R1 n1 P1 => ?_⟩
  refine ⟨Z1, ρ1, fp1, ro, ρ2, g1, e2, fun Z2 H2 ov fp2 l2 g2 R2 n2 P2 => ?_⟩
  refine ⟨Z2, ρ2, fp2, ri, ρ3, g2, e4, fun Z3 H3 iv fp3 l3 g3 R3 n3 P3 => ?_⟩
  obtain ⟨R1a, n1a⟩ := R1.stay n1 P2
  obtain ⟨R1b, n1b⟩ := R1a.stay (A := fun p => E fp2 p) (fun p hp z => n1a p hp (.inl z)) P3
  obtain ⟨R2b, n2b⟩ := R2.stay n2 P3
  have hk := peek_ok g3 R3 e5
  obtain ⟨Z4, fp4, g4, R4, P4⟩ := frz_ok g3 R1b (fun p hp z => n1b p hp (.inl z)) e6
  have hl2 : l2 = [] := by
    cases ro with
    | sl i => exact R2.2
    | sf i f => exact R2.2
    | fz d => cases e3
    | nw t => cases e3
  subst hl2
  obtain ⟨R2c, _⟩ := R2b.stay (A := fun p => E fp3 p ∨ p ∈ l1) (fun p hp => by cases hp) P4
  obtain ⟨a, rfl, hz, ot, _, wr⟩ := place_at g4 R2c e3 e7
  refine st_go g4.sub ot (hk.monoZ P4.zz) R4 e8 fun ho on => ?_
  obtain ⟨g5, P5⟩ := wr ho new on
  have Q2 : Post Z H (E fp) Z2 H2 (fun p => E fp2 p ∨ p ∈ l1) := P1.trans (P2.wide (B := fun p => E fp1 p ∨ p ∈ l1) (B' := fun p => E fp2 p ∨ p ∈ l1) (fun p q => .inl q) fun p q => q.elim (fun z => .inl (.inl z)) fun z => .inr (.inr z))
  have Q3 : Post Z H (E fp) Z3 H3 (fun p => E fp3 p ∨ p ∈ l1) := Q2.trans (P3.wide (B := fun p => E fp2 p ∨ p ∈ l1) (B' := fun p => E fp3 p ∨ p ∈ l1) (fun p q => .inl q) fun p q => q.elim (fun z => .inl (.inl z)) fun z => .inr (.inr z))
  exact (show Ke X.K Z H fp σ kp _ D.nx from k) Z4 _ σ fp4 g5 keepS.refl ((Q3.trans P4).trans P5)
end

/-! ### while -/
def whGo (c : Sm) (b : Ss) : Nat → Ss
  | 0, _ => none
  | n + 1, ρ => (c ρ).bind fun p => match p.1 with
    | .fz (.bl true) => (b p.2).bind fun q => match q.1 with
      | .nx => whGo c b n q.2
      | .ct => whGo c b n q.2
      | .bk => some (.nx, q.2)
      | .rt r => some (.rt r, q.2)
    | .fz (.bl false) => some (.nx, p.2)
    | _ => none
@[irreducible] def fuel : Nat := 10000000
theorem fuel_ge : 10000000 ≤ fuel := by unfold fuel; exact Nat.le_refl _
def whF (c : Sm) (b : Ss) : Ss := whGo c b fuel
/-! ### for -/
def forGo (g : Tg) (b : Ss) : List D → Ss
  | [], ρ => some (.nx, ρ)
  | x :: xs, ρ => (g x ρ).bind fun ρ1 => (b ρ1).bind fun q => match q.1 with
    | .nx => forGo g b xs q.2
    | .ct => forGo g b xs q.2
    | .bk => some (.nx, q.2)
    | .rt r => some (.rt r, q.2)
abbrev Im := En → Option (List D × En)
def forF (it : Im) (g : Tg) (b : Ss) : Ss := fun ρ => (it ρ).bind fun p => forGo g b p.1 p.2
/-- an iterator that gives xs -/
structure Wk (K : PySem.W.Frag) (Z H0 : Hp) (A : Addr → Prop) (J : It) (xs : List D) : Prop where
  goes : ∀ Z' H A' i, Post Z H0 A Z' H A' → Sub Z' H → i < xs.length → J.go i H
  stops : ∀ Z' H A', Post Z H0 A Z' H A' → Sub Z' H → J.stop xs.length H
  yields : ∀ Z' H A' i v H' d, Post Z H0 A Z' H A' → Sub Z' H → xs[i]? = some d → J.yld i H v H' → Out K Z' H (.fz d) v H'
def tI (K : PySem.W.Frag) (it : Im) : TI := fun σ H R => ∃ Z ρ fp xs ρ', Good K Z H σ ρ fp ∧ it ρ = some (xs, ρ') ∧ ∀ Z' H' fp' J, Good K Z' H' σ ρ' fp' → Post Z H (E fp) Z' H' (E fp') → Wk K Z' H' (E fp') J xs → R J H'
section
variable {X : Cx} {kp : Nat → Bool} {c iter tg : Expr} {body : List Stmt} {Fc : Sm} {B : Ss} {it : Im} {g : Tg} {pos : Pos}
theorem ss_while (hp : PassesOwn (model X.prog X.w) X.A X.env X.xe) (hc : PT X c (tT X.K Fc)) (hb : PSs X body (tS X.K kp B)) : PS X (.While c body [] pos) (tS X.K kp (whF Fc B)) := ps_weak (ps_while hp hc hb) fun D σ0 H0 ⟨Z0, ρ0, fp0, fl, ρe, g0, e0, k⟩ => by
  refine ⟨fun m σ H => ∃ Z ρ fp, Good X.K Z H σ ρ fp ∧ whGo Fc B m ρ = some (fl, ρe) ∧ keepS kp σ0 σ ∧ Post Z0 H0 (E fp0) Z H (E fp), ⟨fuel, Z0, ρ0, fp0, g0, e0, keepS.refl, Post.refl⟩, ?_⟩
  rintro m σ H ⟨Z, ρ, fp, gd, e, hk, P⟩
  cases m with
  | zero => cases e
  | succ m =>
    obtain ⟨⟨r, ρ1⟩, e1, e⟩ := Option.bind_eq_some_iff.mp (show ((Fc ρ).bind fun p => match p.1 with
      | .fz (.bl true) => (B p.2).bind fun q => match q.1 with
        | .nx => whGo Fc B m q.2
        | .ct => whGo Fc B m q.2
        | .bk => some (.nx, q.2)
        | .rt r => some (.rt r, q.2)
      | .fz (.bl false) => some (.nx, p.2)
      | _ => none) = some (fl, ρe) from e)
    cases r with
    | fz d =>
      cases d with
      | bl b =>
        refine ⟨Z, ρ, fp, b, ρ1, gd, e1, fun Z1 H1 fp1 g1 P1 => ?_⟩
        have k1 := Kf.then k hk (P.trans P1)
        cases b with
        | true =>
          obtain ⟨⟨f1, ρ2⟩, e2, e⟩ := Option.bind_eq_some_iff.mp e
          refine iteT ⟨fun σ' H' => ∃ Z ρ fp, Good X.K Z H' σ' ρ fp ∧ whGo Fc B m ρ = some (fl, ρe) ∧ keepS kp σ0 σ' ∧ Post Z0 H0 (E fp0) Z H' (E fp), fun σ' H' q => ⟨m, Nat.lt_succ_self m, q⟩, Z1, ρ1, fp1, f1, ρ2, g1, e2, ?_⟩
          cases f1 with
          | nx => exact fun Z2 H2 σ2 fp2 g2 k2 P2 => ⟨Z2, ρ2, fp2, g2, e, hk.trans k2, (P.trans P1).trans P2⟩
          | ct => exact fun Z2 H2 σ2 fp2 g2 k2 P2 => ⟨Z2, ρ2, fp2, g2, e, hk.trans k2, (P.trans P1).trans P2⟩
          | bk => cases e; exact (show Ke X.K Z1 H1 fp1 σ kp _ D.nx from k1)
          | rt r => cases e; exact (show Kr X.K Z1 H1 fp1 σ kp _ r D.rt from k1)
        | false =>
          cases e
          exact iteF ((show Ke X.K Z1 H1 fp1 σ kp _ D.nx from k1) Z1 H1 σ fp1 g1 keepS.refl Post.refl)
      | _ => cases e
    | _ => cases e
theorem for_in {K : PySem.W.Frag} {D : Ends} {σ0 : St} {Zi Hi : Hp} {ρi ρe : En} {fpi : Nat → List Addr} {fl : Fl} {xs : List FL.D} {J : It} (gi : Good K Zi Hi σ0 ρi fpi) (e0 : forGo g B xs ρi = some (fl, ρe)) (ki : Kf K Zi Hi fpi σ0 kp ρe fl D) (wk : Wk K Zi Hi (E fpi) J xs) :
    ∃ W : Nat → Nat → St → Hp → Prop, (∃ m, W 0 m σ0 Hi) ∧ ∀ i m σ H, W i m σ H →
      (J.stop i H ∧ D.nx σ H) ∨ (J.go i H ∧ ∃ N : St → Hp → Prop, (∀ σ' H', N σ' H' → ∃ m', m' < m ∧ W (i + 1) m' σ' H') ∧ ∀ x H', J.yld i H x H' → tGd K kp g x σ H' fun σ2 H2 => tS K kp B { D with nx := N, ct := N, bk := D.nx } σ2 H2) := by
  refine ⟨fun i m σ H => i + m = xs.length ∧ ∃ Z ρ fp, Good K Z H σ ρ fp ∧ forGo g B (xs.drop i) ρ = some (fl, ρe) ∧ keepS kp σ0 σ ∧ Post Zi Hi (E fpi) Z H (E fp), ⟨xs.length, Nat.zero_add _, Zi, ρi, fpi, gi, e0, keepS.refl, Post.refl⟩, ?_⟩
  rintro i m σ H ⟨hm, Z, ρ, fp, gd, e, hk, P⟩
  by_cases hi : i < xs.length
  · refine .inr ⟨wk.goes Z H _ i P gd.sub hi, fun σ' H' => i + 1 + (m - 1) = xs.length ∧ ∃ Z ρ fp, Good K Z H' σ' ρ fp ∧ forGo g B (xs.drop (i + 1)) ρ = some (fl, ρe) ∧ keepS kp σ0 σ' ∧ Post Zi Hi (E fpi) Z H' (E fp), fun σ' H' q => ⟨m - 1, by omega, q⟩, fun v H' hy => ?_⟩
    have ed : xs.drop i = xs[i] :: xs.drop (i + 1) := List.drop_eq_getElem_cons hi
    rw [ed] at e
    obtain ⟨ρ1, e1, e⟩ := Option.bind_eq_some_iff.mp e
    obtain ⟨⟨f1, ρ2⟩, e2, e⟩ := Option.bind_eq_some_iff.mp e
    have o := wk.yields Z H _ i v H' xs[i] P gd.sub (by simp [hi]) hy
    -- what is given
    have kt : Kt K Z H fp σ ρ (.fz xs[i]) fun v H' => tGd K kp g v σ H' fun σ2 H2 => tS K kp B { D with nx := fun σ' H' => i + 1 + (m - 1) = xs.length ∧ ∃ Z ρ fp, Good K Z H' σ' ρ fp ∧ forGo g B (xs.drop (i + 1)) ρ = some (fl, ρe) ∧ keepS kp σ0 σ' ∧ Post Zi Hi (E fpi) Z H' (E fp), ct := fun σ' H' => i + 1 + (m - 1) = xs.length ∧ ∃ Z ρ fp, Good K Z H' σ' ρ fp ∧ forGo g B (xs.drop (i + 1)) ρ = some (fl, ρe) ∧ keepS kp σ0 σ' ∧ Post Zi Hi (E fpi) Z H' (E fp), bk := D.nx } σ2 H2 := by
      intro Z1 H1 w fp1 l g1 R1 n1 P1
      obtain ⟨hr, rfl⟩ := R1
      have P1' : Post Z H (E fp) Z1 H1 (E fp1) := P1.weak fun p q => .inl q
      refine ⟨Z1, ρ, fp1, _, ρ1, g1, hr, e1, fun σ2 fp2 g2 k2 s2 => ?_⟩
      have P2 : Post Zi Hi (E fpi) Z1 H1 (E fp2) := (P.trans P1').weak s2
      refine ⟨Z1, ρ1, fp2, f1, ρ2, g2, e2, ?_⟩
      have k3 := Kf.then ki (hk.trans k2) P2
      cases f1 with
      | nx => exact fun Z3 H3 σ3 fp3 g3 k4 P3 => ⟨by omega, Z3, ρ2, fp3, g3, e, (hk.trans k2).trans k4, P2.trans P3⟩
      | ct => exact fun Z3 H3 σ3 fp3 g3 k4 P3 => ⟨by omega, Z3, ρ2, fp3, g3, e, (hk.trans k2).trans k4, P2.trans P3⟩
      | bk => cases e; exact (show Ke K Z1 H1 fp2 σ2 kp _ D.nx from k3)
      | rt r => cases e; exact (show Kr K Z1 H1 fp2 σ2 kp _ r D.rt from k3)
    exact kt_out kt gd Post.refl (fun p q => q) o
  · have he : i = xs.length := by omega
    have e' : forGo g B [] ρ = some (fl, ρe) := by
      rw [he, List.drop_length] at e
      exact e
    cases e'
    refine .inl ⟨?_, (show Ke K Zi Hi fpi σ0 kp _ D.nx from ki) Z H σ fp gd hk P⟩
    rw [he]
    exact wk.stops Z H _ P gd.sub
theorem for_go {K : PySem.W.Frag} {D : Ends} {σ0 : St} {H0 : Hp} (h : tS K kp (forF it g B) D σ0 H0) : tFor (tI K it) (tGd K kp g) (tS K kp B) D σ0 H0 := by
  obtain ⟨Z0, ρ0, fp0, fl, ρe, g0, e0, k⟩ := h
  obtain ⟨⟨xs, ρi⟩, ei, e0⟩ := Option.bind_eq_some_iff.mp e0
  exact ⟨Z0, ρ0, fp0, xs, ρi, g0, ei, fun Zi Hi fpi J gi Pi wk => for_in gi e0 (Kf.then k keepS.refl Pi) wk⟩
theorem ss_for (hp : PassesOwn (model X.prog X.w) X.A X.env X.xe) (hc : X.calm = true) (hi : PI X tg iter (tI X.K it)) (hg : PG X tg (tGd X.K kp g)) (hb : PSs X body (tS X.K kp B)) (hs : ∀ x, foldedSetIterable iter X.env x = pure x) :
    PS X (.For tg iter body [] pos) (tS X.K kp (forF it g B)) := ps_weak (ps_for hp hc hi hg hb hs) fun D σ H h => for_go h
end
end FL

set_option Elab.async false
set_option maxRecDepth 100000
set_option maxHeartbeats 2000000
namespace FL
open PySem PySem.Spec L2

theorem pi_weak {X : Cx} {tg e : Expr} {t t' : TI} (h : PI X tg e t) (w : ∀ σ H R, t' σ H R → t σ H R) : PI X tg e t' := ⟨fun pins s σ H R I q => h.run pins s σ H R I (w σ H R q)⟩
theorem pi_or {X : Cx} {tg e : Expr} {t t' : TI} (h : PI X tg e t) (h' : PI X tg e t') : PI X tg e (fun σ H R => t σ H R ∨ t' σ H R) := ⟨fun pins s σ H R I q => q.elim (h.run pins s σ H R I) (h'.run pins s σ H R I)⟩
def itD : D → Option (List D)
  | .lst xs => some xs
  | .tup xs => some xs
  | .str z => some (charsOf z)
  | _ => none
def itL (F : Sm) : Im := fun ρ => (F ρ).bind fun p => (frz p.2 p.1).bind fun q => (itD q.1).map fun xs => (xs, q.2)
section
variable {K : PySem.W.Frag} {Z H : Hp} {A : Addr → Prop} {a b : Addr} {xs ys : List D} {vs ws : List V}
theorem sub_tup (sb : Sub Z H) (h : Z a = some (.tup vs)) : H a = some (.tup vs) := (sb _ _ h).elim id fun z => z.2.elim
theorem wk_list (h : SqL K Z a vs) (r : RepL K Z vs xs) : Wk K Z H A (Itl K a) xs where
  goes := fun Z' H' A' i P sb hi => walk_list.goes i H' (by rw [r.length]; exact hi) (sub_sq sb (sql_mono P.zz h))
  stops := fun Z' H' A' P sb => by
    rw [← r.length]
    exact walk_list.stops H' (sub_sq sb (sql_mono P.zz h))
  yields := fun Z' H' A' i v H'' d P sb hd hy => by
    obtain ⟨w, hw, rw'⟩ := r.get hd
    obtain ⟨rfl, e⟩ := walk_list.yields i H' v H'' (by have := List.getElem?_eq_some_iff.mp hw; exact this.1) (sub_sq sb (sql_mono P.zz h)) hy
    rw [hw] at e
    cases e
    exact .same (rw'.mono P.zz)
theorem wk_tup (h : Z a = some (.tup vs)) (r : RepL K Z vs xs) : Wk K Z H A (Itt K a) xs where
  goes := fun Z' H' A' i P sb hi => walk_tup.goes i H' (by rw [r.length]; exact hi) (SqT.of (sub_tup sb (P.zz _ _ h)))
  stops := fun Z' H' A' P sb => by
    rw [← r.length]
    exact walk_tup.stops H' (SqT.of (sub_tup sb (P.zz _ _ h)))
  yields := fun Z' H' A' i v H'' d P sb hd hy => by
    obtain ⟨w, hw, rw'⟩ := r.get hd
    obtain ⟨rfl, e⟩ := walk_tup.yields i H' v H'' (by have := List.getElem?_eq_some_iff.mp hw; exact this.1) (SqT.of (sub_tup sb (P.zz _ _ h))) hy
    rw [hw] at e
    cases e
    exact .same (rw'.mono P.zz)
theorem charsOf_get {z : Str} {i : Nat} : (charsOf z)[i]? = z.cps[i]?.map fun c => .str ⟨#[c]⟩ := by
  unfold charsOf
  rw [List.getElem?_map, Array.getElem?_toList]
theorem charsOf_length {z : Str} : (charsOf z).length = z.cps.size := by
  unfold charsOf
  rw [List.length_map, Array.length_toList]
theorem wk_str {z : Str} : Wk K Z H A (Its z) (charsOf z) where
  goes := fun Z' H' A' i P sb hi => walk_str.goes i H' (by rw [← charsOf_length]; exact hi) trivial
  stops := fun Z' H' A' P sb => by
    rw [charsOf_length]
    exact walk_str.stops H' trivial
  yields := fun Z' H' A' i v H'' d P sb hd hy => by
    have hl : i < z.cps.size := by
      rw [← charsOf_length]
      exact (List.getElem?_eq_some_iff.mp hd).1
    obtain ⟨rfl, c, e1, e2⟩ := walk_str.yields i H' v H'' hl trivial hy
    rw [charsOf_get, e1] at hd
    cases hd
    rw [e2]
    exact .same (.str _)
def rangeD (lo hi : Int) : List D := (List.range (hi - lo).toNat).map fun i => .int (lo + (i : Nat))
theorem wk_range {lo hi : Int} : Wk K Z H A (Itr lo (hi - lo).toNat) (rangeD lo hi) where
  goes := fun Z' H' A' i P sb hi' => walk_range.goes i H' (by simpa [rangeD] using hi') trivial
  stops := fun Z' H' A' P sb => by
    have e : (rangeD lo hi).length = (hi - lo).toNat := by simp [rangeD]
    rw [e]
    exact walk_range.stops H' trivial
  yields := fun Z' H' A' i v H'' d P sb hd hy => by
    have hl : i < (hi - lo).toNat := by
      have := (List.getElem?_eq_some_iff.mp hd).1
      simpa [rangeD] using this
    obtain ⟨rfl, e2⟩ := walk_range.yields i H' v H'' hl trivial hy
    have e : d = .int (lo + (i : Nat)) := by
      unfold rangeD at hd
      rw [List.getElem?_map, List.getElem?_range hl] at hd
      exact (Option.some.inj hd).symm
    rw [e, e2]
    exact .same (.int _)
def enumD : Nat → List D → List D
  | _, [] => []
  | k, x :: xs => .tup [.int (k : Nat), x] :: enumD (k + 1) xs
theorem enumD_get : ∀ {xs : List D} {k i : Nat}, (enumD k xs)[i]? = xs[i]?.map fun x => .tup [.int ((k + i : Nat) : Int), x]
  | [], _, _ => rfl
  | x :: xs, k, 0 => rfl
  | x :: xs, k, i + 1 => by
    show (enumD (k + 1) xs)[i]? = xs[i]?.map _
    rw [enumD_get, show k + 1 + i = k + (i + 1) by omega]
theorem enumD_length : ∀ {xs : List D} {k : Nat}, (enumD k xs).length = xs.length
  | [], _ => rfl
  | x :: xs, k => congrArg (· + 1) enumD_length
theorem wk_enum (h : SqL K Z a vs) (r : RepL K Z vs xs) : Wk K Z H A (Ite K a) (enumD 0 xs) where
  goes := fun Z' H' A' i P sb hi => walk_enum.goes i H' (by rw [r.length, ← enumD_length (k := 0)]; exact hi) (sub_sq sb (sql_mono P.zz h))
  stops := fun Z' H' A' P sb => by
    rw [enumD_length, ← r.length]
    exact walk_enum.stops H' (sub_sq sb (sql_mono P.zz h))
  yields := fun Z' H' A' i v H'' d P sb hd hy => by
    rw [enumD_get] at hd
    obtain ⟨x, hx, ed⟩ := Option.map_eq_some_iff.mp hd
    obtain ⟨w, hw, rw'⟩ := r.get hx
    obtain ⟨T, u, u2, e1, e2, e3, e4, e5⟩ := walk_enum.yields i H' v H'' (by have := List.getElem?_eq_some_iff.mp hw; exact this.1) (sub_sq sb (sql_mono P.zz h)) hy
    have e5' : vs[i]? = some u2 := e5
    rw [hw] at e5'
    cases e5'
    cases e4
    rw [← ed, e1, e3, Nat.zero_add]
    exact .tup e2 (.cons (.int _) (.cons (rw'.mono P.zz) .nil))
def zipD : List D → List D → List D
  | x :: xs, y :: ys => .tup [x, y] :: zipD xs ys
  | _, _ => []
theorem zipD_get : ∀ {xs ys : List D} {i : Nat} {d : D}, (zipD xs ys)[i]? = some d → ∃ x y, xs[i]? = some x ∧ ys[i]? = some y ∧ d = .tup [x, y]
  | [], _, _, _, h => by simp [zipD] at h
  | _ :: _, [], _, _, h => by simp [zipD] at h
  | x :: xs, y :: ys, 0, d, h => by
    have h' : some (D.tup [x, y]) = some d := h
    cases h'
    exact ⟨x, y, rfl, rfl, rfl⟩
  | x :: xs, y :: ys, i + 1, d, h => zipD_get (xs := xs) (ys := ys) (i := i) h
theorem zipD_length : ∀ {xs ys : List D}, (zipD xs ys).length = min xs.length ys.length
  | [], ys => by simp [zipD]
  | _ :: _, [] => by simp [zipD]
  | x :: xs, y :: ys => by
    show (zipD xs ys).length + 1 = min (xs.length + 1) (ys.length + 1)
    rw [zipD_length]
    omega
theorem wk_zip (h : SqL K Z a vs) (r : RepL K Z vs xs) (h' : SqL K Z b ws) (r' : RepL K Z ws ys) : Wk K Z H A (Itz K a b) (zipD xs ys) where
  goes := fun Z' H' A' i P sb hi => (walk_zip (n := (zipD xs ys).length) (by rw [zipD_length, r.length, r'.length])).goes i H' hi ⟨sub_sq sb (sql_mono P.zz h), sub_sq sb (sql_mono P.zz h')⟩
  stops := fun Z' H' A' P sb => (walk_zip (n := (zipD xs ys).length) (by rw [zipD_length, r.length, r'.length])).stops H' ⟨sub_sq sb (sql_mono P.zz h), sub_sq sb (sql_mono P.zz h')⟩
  yields := fun Z' H' A' i v H'' d P sb hd hy => by
    have hl := (List.getElem?_eq_some_iff.mp hd).1
    obtain ⟨T, u, u2, e1, e2, e3, e4, e5⟩ := (walk_zip (n := (zipD xs ys).length) (by rw [zipD_length, r.length, r'.length])).yields i H' v H'' hl ⟨sub_sq sb (sql_mono P.zz h), sub_sq sb (sql_mono P.zz h')⟩ hy
    obtain ⟨x, y, hx, hy', ed⟩ := zipD_get hd
    obtain ⟨w, hw, rw'⟩ := r.get hx
    obtain ⟨w2, hw2, rw2⟩ := r'.get hy'
    have e4' : vs[i]? = some u := e4
    have e5' : ws[i]? = some u2 := e5
    rw [hw] at e4'
    rw [hw2] at e5'
    cases e4'
    cases e5'
    rw [ed, e1, e3]
    exact .tup e2 (.cons (rw'.mono P.zz) (.cons (rw2.mono P.zz) .nil))
end
section
variable {X : Cx} {tg e e2 : Expr} {F F2 : Sm} {p pos tpos : Pos} {elts : List Expr} {kk : Nat}
theorem si_val (he : PE X e (tE X.K F)) : PI X tg e (tI X.K (itL F)) := by
  refine pi_weak (pi_or (pi_list he) (pi_or (pi_tup he) (pi_str he))) ?_
  rintro σ H R ⟨Z, ρ, fp, xs, ρ', g, e, k⟩
  obtain ⟨⟨r, ρ1⟩, e1, e⟩ := Option.bind_eq_some_iff.mp e
  obtain ⟨⟨d, ρ2⟩, e2, e⟩ := Option.bind_eq_some_iff.mp e
  obtain ⟨ys, e3, e4⟩ := Option.map_eq_some_iff.mp e
  cases e4
  have key : ∀ (Q : VK), (∀ Z2 H1 v fp2, Good X.K Z2 H1 σ ρ2 fp2 → Rep X.K Z2 v d → Post Z H (E fp) Z2 H1 (E fp2) → Q v H1) → tE X.K F σ H Q := fun Q q => ⟨Z, ρ, fp, r, ρ1, g, e1, fun Z1 H1 v fp1 l g1 R1 n1 P1 => by
    obtain ⟨Z2, fp2, g2, R2, P2⟩ := frz_ok g1 R1 n1 e2
    exact q Z2 H1 v fp2 g2 R2 (P1.trans P2)⟩
  cases d with
  | lst ys =>
    cases e3
    refine .inl (key _ fun Z2 H1 v fp2 g2 R2 P2 => ?_)
    cases R2 with
    | lst h1 h2 => exact ⟨_, rfl, ⟨_, sub_sq g2.sub h1⟩, k Z2 H1 fp2 _ g2 P2 (wk_list h1 h2)⟩
  | tup ys =>
    cases e3
    refine .inr (.inl (key _ fun Z2 H1 v fp2 g2 R2 P2 => ?_))
    cases R2 with
    | tup h1 h2 => exact ⟨_, rfl, ⟨_, SqT.of (sub_tup g2.sub h1)⟩, k Z2 H1 fp2 _ g2 P2 (wk_tup h1 h2)⟩
  | str z =>
    cases e3
    refine .inr (.inr (key _ fun Z2 H1 v fp2 g2 R2 P2 => ?_))
    cases R2
    exact ⟨z, rfl, k Z2 H1 fp2 _ g2 P2 wk_str⟩
  | _ => cases e3
def big62 (i : Int) : Bool := decide (-(2 ^ 62) ≤ i) && decide (i < 2 ^ 62)
def itR1 (F : Sm) : Im := fun ρ => (F ρ).bind fun p => match p.1 with
  | .fz (.int j) => if big62 j = true then some (rangeD 0 j, p.2) else none
  | _ => none
def itR2 (F F2 : Sm) : Im := fun ρ => (F ρ).bind fun p => match p.1 with
  | .fz (.int i) => (F2 p.2).bind fun q => match q.1 with
    | .fz (.int j) => if (big62 i && big62 j) = true then some (rangeD i j, q.2) else none
    | _ => none
  | _ => none
theorem int_r {K : PySem.W.Frag} {Z H : Hp} {σ : L2.St} {v : V} {i : Int} {l : List Addr} (h : RR K Z H σ v (.fz (.int i)) l) : v = .int i ∧ l = [] := by
  obtain ⟨h1, h2⟩ := h
  cases h1
  exact ⟨rfl, h2⟩
theorem big62_ok {i : Int} (h : big62 i = true) : -(2 ^ 62) ≤ i ∧ i < 2 ^ 62 := by
  unfold big62 at h
  obtain ⟨h1, h2⟩ := Bool.and_eq_true_iff.mp h
  exact ⟨of_decide_eq_true h1, of_decide_eq_true h2⟩
theorem si_range1 (hg : Gl X "range") (hm : X.mg "range" = none) (he : PE X e (tE X.K F)) (hn : notStar e = true) : PI X tg (.Call (.Name "range" p) [e] [] pos) (tI X.K (itR1 F)) := by
  refine pi_weak (pi_range1 hg hm (pa_cons he pa_nil (star_ok hn)) (star_ok hn)) ?_
  rintro σ H R ⟨Z, ρ, fp, xs, ρ', g, e, k⟩
  obtain ⟨⟨r, ρ1⟩, e1, e⟩ := Option.bind_eq_some_iff.mp e
  cases r with
  | fz d =>
    cases d with
    | int j =>
      have e' : (if big62 j = true then some (rangeD 0 j, ρ1) else none) = some (xs, ρ') := e
      by_cases hj : big62 j = true
      · rw [if_pos hj] at e'
        cases e'
        obtain ⟨h1, h2⟩ := big62_ok hj
        refine ⟨Z, ρ, fp, _, _, g, e1, fun Z1 H1 v fp1 l g1 R1 n1 P1 => ?_⟩
        obtain ⟨rfl, rfl⟩ := int_r R1
        refine ⟨j, rfl, h1, h2, k Z1 H1 fp1 _ g1 (P1.weak fun p q => .inl q) ?_⟩
        have := wk_range (K := X.K) (Z := Z1) (H := H1) (A := E fp1) (lo := 0) (hi := j)
        rwa [Int.sub_zero] at this
      · rw [if_neg hj] at e'; cases e'
    | _ => cases e
  | _ => cases e
theorem si_range2 (hg : Gl X "range") (hm : X.mg "range" = none) (he : PE X e (tE X.K F)) (he2 : PE X e2 (tE X.K F2)) (hn : notStar e = true) (hn2 : notStar e2 = true) : PI X tg (.Call (.Name "range" p) [e, e2] [] pos) (tI X.K (itR2 F F2)) := by
  refine pi_weak (pi_range2 hg hm (pa_cons he (pa_cons he2 pa_nil (star_ok hn2)) (star_ok hn)) (by rw [star_ok hn, star_ok hn2]; rfl) (star_ok hn2)) ?_
  rintro σ H R ⟨Z, ρ, fp, xs, ρ', g, e, k⟩
  obtain ⟨⟨r, ρ1⟩, e1, e⟩ := Option.bind_eq_some_iff.mp e
  cases r with
  | fz d =>
    cases d with
    | int i =>
      obtain ⟨⟨r2, ρ2⟩, e2, e⟩ := Option.bind_eq_some_iff.mp e
      cases r2 with
      | fz d =>
        cases d with
        | int j =>
          have e' : (if (big62 i && big62 j) = true then some (rangeD i j, ρ2) else none) = some (xs, ρ') := e
          by_cases hj : (big62 i && big62 j) = true
          · rw [if_pos hj] at e'
            cases e'
            obtain ⟨hi, hj⟩ := Bool.and_eq_true_iff.mp hj
            obtain ⟨h1, h2⟩ := big62_ok hi
            obtain ⟨h3, h4⟩ := big62_ok hj
            refine ⟨Z, ρ, fp, _, ρ1, g, e1, fun Z1 H1 v fp1 l g1 R1 n1 P1 => ?_⟩
            obtain ⟨rfl, rfl⟩ := int_r R1
            refine ⟨Z1, ρ1, fp1, _, _, g1, e2, fun Z2 H2 v2 fp2 l2 g2 R2 n2 P2 => ?_⟩
            obtain ⟨rfl, rfl⟩ := int_r R2
            exact ⟨i, j, rfl, ⟨h1, h2, h3, h4⟩, k Z2 H2 fp2 _ g2 ((P1.weak fun p q => .inl q).trans (P2.weak fun p q => .inl q)) wk_range⟩
          · rw [if_neg hj] at e'; cases e'
        | _ => cases e
      | _ => cases e
    | _ => cases e
  | _ => cases e
def itE (F : Sm) : Im := fun ρ => (F ρ).bind fun p => (frz p.2 p.1).bind fun q => match q.1 with
  | .lst xs => some (enumD 0 xs, q.2)
  | _ => none
theorem si_enum (hg : Gl X "enumerate") (hm : X.mg "enumerate" = none) (he : PE X e (tE X.K F)) (hn : notStar e = true) : PI X (.Tuple elts kk tpos) (.Call (.Name "enumerate" p) [e] [] pos) (tI X.K (itE F)) := by
  refine pi_weak (pi_enum hg hm (pa_cons he pa_nil (star_ok hn)) (star_ok hn)) ?_
  rintro σ H R ⟨Z, ρ, fp, xs, ρ', g, e, k⟩
  obtain ⟨⟨r, ρ1⟩, e1, e⟩ := Option.bind_eq_some_iff.mp e
  obtain ⟨⟨d, ρ2⟩, e2, e⟩ := Option.bind_eq_some_iff.mp e
  cases d with
  | lst ys =>
    cases e
    refine ⟨Z, ρ, fp, r, ρ1, g, e1, fun Z1 H1 v fp1 l g1 R1 n1 P1 => ?_⟩
    obtain ⟨Z2, fp2, g2, R2, P2⟩ := frz_ok g1 R1 n1 e2
    cases R2 with
    | lst h1 h2 => exact ⟨_, _, rfl, sub_sq g2.sub h1, k Z2 H1 fp2 _ g2 (P1.trans P2) (wk_enum h1 h2)⟩
  | _ => cases e
def zip2 : List D → Option (List D)
  | [.lst xs, .lst ys] => some (zipD xs ys)
  | _ => none
theorem zip2_some {ds zs : List D} (h : zip2 ds = some zs) : ∃ xs ys, ds = [.lst xs, .lst ys] ∧ zs = zipD xs ys := by
  unfold zip2 at h
  split at h
  · cases h; exact ⟨_, _, rfl, rfl⟩
  · cases h
def itZ (Fs : List Sm) : Im := fun ρ => (seqs Fs ρ).bind fun p => (frzs p.1 p.2).bind fun q => (zip2 q.1).map fun xs => (xs, q.2)
theorem si_zip {Fs : List Sm} (hg : Gl X "zip") (hm : X.mg "zip" = none) (ha : PA X [e, e2] (tA X.K Fs)) (hn : notStar e = true) (hn2 : notStar e2 = true) : PI X (.Tuple elts kk tpos) (.Call (.Name "zip" p) [e, e2] [] pos) (tI X.K (itZ Fs)) := by
  refine pi_weak (pi_zip hg hm ha (star_ok hn) (by rw [star_ok hn2]; rfl)) ?_
  rintro σ H R ⟨Z, ρ, fp, xs, ρ', g, e, k⟩
  obtain ⟨⟨rs, ρ1⟩, e1, e⟩ := Option.bind_eq_some_iff.mp e
  obtain ⟨⟨ds, ρ2⟩, e2, e⟩ := Option.bind_eq_some_iff.mp e
  obtain ⟨zs, e3, e4⟩ := Option.map_eq_some_iff.mp e
  cases e4
  obtain ⟨as, bs, ea, eb⟩ := zip2_some e3
  have ea' : ds = [.lst as, .lst bs] := ea
  subst ea' eb
  refine ⟨Z, ρ, fp, rs, ρ1, g, e1, fun Z1 H1 vs fp1 l g1 R1 n1 P1 => ?_⟩
  obtain ⟨Z2, fp2, g2, R2, P2⟩ := frzs_ok g1 R1 n1 e2
  cases R2 with
  | cons r1 R2 =>
    cases R2 with
    | cons r2 R2 =>
      cases R2
      cases r1 with
      | lst h1 h2 =>
        cases r2 with
        | lst h3 h4 => exact ⟨_, _, _, _, rfl, sub_sq g2.sub h1, sub_sq g2.sub h3, k Z2 H1 fp2 _ g2 (P1.trans P2) (wk_zip h1 h2 h3 h4)⟩
end

/-! ### dicts: locked while they are walked -/
inductive DI where
  | keys | vals | items
def dictIt : DI → D → Option (List D)
  | .keys, .dic kvs => some (kvs.map fun p => dOf p.1)
  | .vals, .dic kvs => some (kvs.map fun p => p.2)
  | .items, .dic kvs => some (kvs.map fun p => .tup [dOf p.1, p.2])
  | _, _ => none
def itN (w : DI) (i : Nat) : Im := fun ρ => (frz ρ (.sl i)).bind fun q => (dictIt w q.1).map fun xs => (xs, q.2)
/-- a name: a list, a tuple, a text, or a dict -/
def itV (i : Nat) : Im := fun ρ => match ρ.getD i none with
  | some (.fz (.dic kvs)) => itN .keys i ρ
  | some (.ow (.dic kvs)) => itN .keys i ρ
  | _ => itL (vr i) ρ
def iDI : DI → TE → TI
  | .keys, t => iKeys t
  | .vals, t => iVals t
  | .items, t => iItems t
section
variable {K : PySem.W.Frag} {Z H : Hp} {A : Addr → Prop} {a : Addr} {o : Obj} {kvs : List (Key × V)} {kds : List (Key × D)}
theorem RepK.get : ∀ {vs : List (Key × V)} {ds : List (Key × D)} {i : Nat} {q : Key × D}, RepK K Z vs ds → ds[i]? = some q → ∃ v, vs[i]? = some (q.1, v) ∧ Rep K Z v q.2
  | _, _, _, _, .nil, e => by simp at e
  | _, _, 0, q, .cons h r, e => by simp at e; subst e; exact ⟨_, rfl, h⟩
  | _, _, i + 1, q, .cons h r, e => by
    obtain ⟨y, h1, h2⟩ := RepK.get (i := i) r (by simpa using e)
    exact ⟨y, by simpa using h1, h2⟩
theorem rep_dOf {k : Key} : Rep K Z (kV k) (dOf k) := by
  cases k with
  | inl i => exact .int i
  | inr x => exact .str x
theorem stay_lock {Z' H' : Hp} {A' : Addr → Prop} (P : Post Z H A Z' H' A') (hH : H a = some (.frz o (.dK kvs))) (ha : ¬ A a) : H' a = some (.frz o (.dK kvs)) := P.fr _ _ hH ha fun ps z => by cases z
theorem wk_keys (hH : H a = some (.frz o (.dK kvs))) (ha : ¬ A a) (r : RepK K Z kvs kds) : Wk K Z H A (Itk a o kvs) (kds.map fun p => dOf p.1) where
  goes := fun Z' H' A' i P sb hi => walk_keys.goes i H' (by rw [lenK r]; simpa using hi) (stay_lock P hH ha)
  stops := fun Z' H' A' P sb => by
    rw [List.length_map, ← lenK r]
    exact walk_keys.stops H' (stay_lock P hH ha)
  yields := fun Z' H' A' i v H'' d P sb hd hy => by
    rw [List.getElem?_map] at hd
    obtain ⟨q, hq, ed⟩ := Option.map_eq_some_iff.mp hd
    obtain ⟨w, hw, rw'⟩ := r.get hq
    obtain ⟨rfl, k, u, e1, e2⟩ := walk_keys.yields i H' v H'' (List.getElem?_eq_some_iff.mp hw).1 (stay_lock P hH ha) hy
    rw [hw] at e1
    cases e1
    rw [← ed, e2]
    exact .same rep_dOf
theorem wk_vals (hH : H a = some (.frz o (.dK kvs))) (ha : ¬ A a) (r : RepK K Z kvs kds) : Wk K Z H A (Itd a o kvs) (kds.map fun p => p.2) where
  goes := fun Z' H' A' i P sb hi => walk_values.goes i H' (by rw [lenK r]; simpa using hi) (stay_lock P hH ha)
  stops := fun Z' H' A' P sb => by
    rw [List.length_map, ← lenK r]
    exact walk_values.stops H' (stay_lock P hH ha)
  yields := fun Z' H' A' i v H'' d P sb hd hy => by
    rw [List.getElem?_map] at hd
    obtain ⟨q, hq, ed⟩ := Option.map_eq_some_iff.mp hd
    obtain ⟨w, hw, rw'⟩ := r.get hq
    obtain ⟨rfl, k, e1⟩ := walk_values.yields i H' v H'' (List.getElem?_eq_some_iff.mp hw).1 (stay_lock P hH ha) hy
    rw [hw] at e1
    cases e1
    rw [← ed]
    exact .same (rw'.mono P.zz)
theorem wk_items (hH : H a = some (.frz o (.dK kvs))) (ha : ¬ A a) (r : RepK K Z kvs kds) : Wk K Z H A (Iti a o kvs) (kds.map fun p => .tup [dOf p.1, p.2]) where
  goes := fun Z' H' A' i P sb hi => walk_items.goes i H' (by rw [lenK r]; simpa using hi) (stay_lock P hH ha)
  stops := fun Z' H' A' P sb => by
    rw [List.length_map, ← lenK r]
    exact walk_items.stops H' (stay_lock P hH ha)
  yields := fun Z' H' A' i v H'' d P sb hd hy => by
    rw [List.getElem?_map] at hd
    obtain ⟨q, hq, ed⟩ := Option.map_eq_some_iff.mp hd
    obtain ⟨w, hw, rw'⟩ := r.get hq
    obtain ⟨T, u, u2, e1, e2, e3, e4, e5⟩ := walk_items.yields i H' v H'' (List.getElem?_eq_some_iff.mp hw).1 (stay_lock P hH ha) hy
    have e4' : kvs[i]?.map (fun kv => kV kv.1) = some u := e4
    have e5' : kvs[i]?.map Prod.snd = some u2 := e5
    rw [hw] at e4' e5'
    cases e4'
    cases e5'
    rw [← ed, e1, e3]
    exact .tup e2 (.cons rep_dOf (.cons (rw'.mono P.zz) .nil))
/-- slot i holds a frozen dict that is locked -/
def Lkd (K : PySem.W.Frag) (Z H : Hp) (σ : St) (ρ : En) (i : Nat) : Prop := ∃ a o kvs kds, ρ.getD i none = some (.fz (.dic kds)) ∧ σ.getD i none = some (.ref a) ∧ Z a = some (.dK kvs) ∧ RepK K Z kvs kds ∧ H a = some (.frz o (.dK kvs))
theorem iDI_go {w : DI} {i : Nat} {σ : St} {ρ : En} {fp : Nat → List Addr} {R : It → Hp → Prop} (g : Good K Z H σ ρ fp) (lk : Lkd K Z H σ ρ i) {xs : List D} {ρ' : En} (e : itN w i ρ = some (xs, ρ')) (k : ∀ J, ρ' = ρ → Wk K Z H (E fp) J xs → R J H) : iDI w (tVar i) σ H R := by
  obtain ⟨a, o, kvs, kds, e1, e2, e3, r, e4⟩ := lk
  have na : ¬ E fp a := fun z => by
    have q := (g.there z).2
    rw [e3] at q; cases q
  have ef : frz ρ (.sl i) = some (.dic kds, ρ) := by
    show (match ρ.getD i none with
      | some (.fz d) => some (d, ρ)
      | some (.ow d) => some (d, ρ.set i (some (.fz d)))
      | _ => none) = _
    rw [e1]
  unfold itN at e
  rw [ef] at e
  obtain ⟨ys, e5, e6⟩ := Option.map_eq_some_iff.mp (show (dictIt w (.dic kds)).map (fun xs => (xs, ρ)) = some (xs, ρ') from e)
  cases e6
  cases w with
  | keys => cases e5; exact ⟨.ref a, getD_get e2, a, o, rfl, .inl ⟨kvs, e4, k _ rfl (wk_keys e4 na r)⟩⟩
  | vals => cases e5; exact ⟨.ref a, getD_get e2, a, o, kvs, rfl, e4, k _ rfl (wk_vals e4 na r)⟩
  | items => cases e5; exact ⟨.ref a, getD_get e2, a, o, kvs, rfl, e4, k _ rfl (wk_items e4 na r)⟩
end
section
variable {K : PySem.W.Frag} {Z H Z' H' : Hp} {σ σ' : St} {ρ ρ' : En} {fp fp' : Nat → List Addr} {a : Addr} {u : HO} {o : Obj}
/-- the dict at a locked -/
theorem frz_tx {o : Obj} {u : HO} : ¬ IsTx (.frz o u) := by rintro (⟨ps, e⟩ | ⟨f, e⟩) <;> cases e
theorem lock_tb (sb : Sub Z H) (hz : Z a = some u) (nt : ¬ IsTx u) {w : HO} : TbK H (upd H a w) := by
  rcases sb a u hz with q | ⟨⟨o, q⟩, _⟩
  · exact .at q nt
  · exact .at q frz_tx
theorem lock_in (g : Good K Z H σ ρ fp) (hz : Z a = some u) (mu : Mu u) : Good K Z (upd H a (.frz o u)) σ ρ fp := by
  refine g.mono (Same.refl _) (fun b v hb => ?_) (lock_tb g.sub hz mu.2) g.tz.no (fun q w hq e => ?_) fun q hq => (g.there hq).2
  · by_cases hb' : b = a
    · subst hb'
      rw [hz] at hb
      cases hb
      exact .inr ⟨⟨o, upd_same⟩, mu.1⟩
    · rw [upd_ne hb']; exact g.sub b v hb
  · rw [upd_ne (fun z => ?_)]
    · exact e
    · have y := (g.there hq).2
      rw [z, hz] at y; cases y
theorem lock_out (g : Good K Z' H' σ' ρ' fp') (hz : Z' a = some u) (nt : ¬ IsTx u) : Good K Z' (upd H' a u) σ' ρ' fp' := by
  refine g.mono (Same.refl _) (fun b v hb => ?_) (lock_tb g.sub hz nt) g.tz.no (fun q w hq e => ?_) fun q hq => (g.there hq).2
  · by_cases hb' : b = a
    · subst hb'
      rw [hz] at hb
      cases hb
      exact .inl upd_same
    · rw [upd_ne hb']; exact g.sub b v hb
  · rw [upd_ne (fun z => ?_)]
    · exact e
    · have y := (g.there hq).2
      rw [z, hz] at y; cases y
theorem lock_post {A A' : Addr → Prop} (P : Post Z (upd H a (.frz o u)) A Z' H' A') (hH : H a = some u) (hi : ∀ C dx fs, u ≠ .ins C dx fs) (nt : ¬ IsTx u) (na : ¬ A a) : Post Z H A Z' (upd H' a u) A' := by
  refine ⟨P.zz, fun p w e n t => ?_, fun p h => ?_, fun p w h => ?_, fun b C dx fv e => ?_, ((TbK.at hH nt).trans P.tb).trans (.at (P.fr _ _ upd_same na fun ps z => by cases z) frz_tx)⟩
  · by_cases hb : p = a
    · subst hb; rw [hH] at e; cases e; exact upd_same
    · rw [upd_ne hb]; exact P.fr p w (by rw [upd_ne hb]; exact e) n t
  · rcases P.nw p h with q | q
    · exact .inl q
    · by_cases hb : p = a
      · rw [hb, upd_same] at q; cases q
      · rw [upd_ne hb] at q; exact .inr q
  · rcases P.zn p w h with q | q | q
    · exact .inl q
    · exact .inr (.inl q)
    · by_cases hb : p = a
      · rw [hb, upd_same] at q; cases q
      · rw [upd_ne hb] at q; exact .inr (.inr q)
  · have hb : b ≠ a := fun z => by rw [z, hH] at e; cases e; exact hi _ _ _ rfl
    obtain ⟨fv', e1, e2⟩ := P.ic b C dx fv (by rw [upd_ne hb]; exact e)
    exact ⟨fv', by rw [upd_ne hb]; exact e1, e2⟩
theorem lock_rr {v : V} {r : R} {l : List Addr} (h : RR K Z H σ v r l) (hz : Z a = some u) (hi : ∀ C dx fs, H a ≠ some (.ins C dx fs)) : RR K Z (upd H a u) σ v r l := by
  cases r with
  | fz d => exact h
  | nw t => exact OwnT.mono (t := t) (Same.refl _) (fun p hp w e => by
      rw [upd_ne (fun z => ?_)]
      · exact e
      · have y := (OwnT.there (t := t) h p hp).2
        rw [z, hz] at y; cases y) (fun p hp => (OwnT.there (t := t) h p hp).2) h
  | sl i => exact h
  | sf i f =>
    obtain ⟨⟨b, C, dx, fv, e1, e2, e3⟩, e4⟩ := h
    exact ⟨⟨b, C, dx, fv, e1, by rw [upd_ne (fun z => by rw [z] at e2; exact hi _ _ _ e2)]; exact e2, e3⟩, e4⟩
/-- a name's dict, ready to be walked -/
theorem ready {i : Nat} {kds : List (Key × D)} (g : Good K Z H σ ρ fp) (e : frz ρ (.sl i) = some (.dic kds, ρ')) : ∃ Z' fp' a kvs, Good K Z' H σ ρ' fp' ∧ Post Z H (E fp) Z' H (E fp') ∧ ρ'.getD i none = some (.fz (.dic kds)) ∧ σ.getD i none = some (.ref a) ∧ Z' a = some (.dK kvs) ∧ RepK K Z' kvs kds ∧ ¬ E fp' a := by
  have e' : (match ρ.getD i none with
    | some (.fz d) => some (d, ρ)
    | some (.ow d) => some (d, ρ.set i (some (.fz d)))
    | _ => none) = some (D.dic kds, ρ') := e
  have hs : ∃ t v, ρ.getD i none = some t ∧ σ.getD i none = some v := by
    cases q : ρ.getD i none with
    | none => rw [q] at e'; cases e'
    | some t =>
      obtain ⟨v, hv, _⟩ := g.at q
      exact ⟨t, v, rfl, hv⟩
  obtain ⟨t, v, ht, hv⟩ := hs
  obtain ⟨Z', fp', g', R', P'⟩ := frz_ok (v := v) (r := .sl i) (l := []) g ⟨hv, rfl⟩ (fun p hp => by cases hp) e
  have er : ρ'.getD i none = some (.fz (.dic kds)) := by
    rw [ht] at e'
    cases t with
    | fz d => cases e'; exact ht
    | ow d => cases e'; rw [getD_set, if_pos ⟨rfl, lt_of_getD ht⟩]
    | _ => cases e'
  cases R' with
  | dic h1 h2 =>
    refine ⟨Z', fp', _, _, g', P'.wide (fun p q => q.elim id fun z => by cases z) (fun p q => .inl q), er, hv, h1, h2, fun z => ?_⟩
    have y := (g'.there z).2
    rw [h1] at y; cases y
/-- a statement that walks a dict by its name -/
theorem ss_lock {X : Cx} {kp : Nat → Bool} {st : Stmt} {t : TS} {F : Ss} {i : Nat} (h : PS X st t)
    (need : ∀ ρ fl ρ', F ρ = some (fl, ρ') → ∃ kds ρ1, frz ρ (.sl i) = some (.dic kds, ρ1) ∧ F ρ1 = some (fl, ρ'))
    (w : ∀ D σ H Z ρ fp fl ρ', Good X.K Z H σ ρ fp → F ρ = some (fl, ρ') → Kf X.K Z H fp σ kp ρ' fl D → Lkd X.K Z H σ ρ i → t D σ H) : PS X st (tS X.K kp F) := by
  have hor : PS X st (fun D σ H => t D σ H ∨ tLock t D σ H) := ⟨fun pins s σ H D I q => q.elim (h.run pins s σ H D I) ((ps_lock h).run pins s σ H D I)⟩
  refine ps_weak hor ?_
  rintro D σ H ⟨Z, ρ, fp, fl, ρ', g, e, k⟩
  obtain ⟨kds, ρ1, e1, e2⟩ := need ρ fl ρ' e
  obtain ⟨Z1, fp1, a, kvs, g1, P1, er, ev, ez, rk, na⟩ := ready g e1
  have k1 := Kf.then k (keepS.refl (kp := kp) (σ := σ)) P1
  rcases g1.sub a _ ez with hH | ⟨⟨o, hH⟩, _⟩
  · refine .inr ⟨a, _, hH, True.intro, fun od => ?_⟩
    refine w _ σ _ Z1 ρ1 fp1 fl ρ' (lock_in g1 ez mu_dK) e2 ?_ ⟨a, od, kvs, kds, er, ev, ez, rk, upd_same⟩
    have hni : ∀ C dx fs, HO.dK kvs ≠ .ins C dx fs := fun C dx fs z => by cases z
    have back : ∀ (Q : St → Hp → Prop), Ke X.K Z1 H fp1 σ kp ρ' Q → Ke X.K Z1 (upd H a (.frz od (.dK kvs))) fp1 σ kp ρ' (fun σ' H' => H' a = some (.frz od (.dK kvs)) ∧ Q σ' (upd H' a (.dK kvs))) := fun Q q Z' H' σ' fp' g' k' P' => by
      have zz := P'.zz _ _ ez
      exact ⟨P'.fr _ _ upd_same na (fun ps z => by cases z), q Z' _ σ' fp' (lock_out g' zz mu_dK.2) k' (lock_post P' hH hni mu_dK.2 na)⟩
    cases fl with
    | nx => exact back D.nx k1
    | bk => exact back D.bk k1
    | ct => exact back D.ct k1
    | rt r =>
      intro Z' H' σ' v fp' l g' k' R' n' P'
      have zz := P'.zz _ _ ez
      have hl : H' a = some (.frz od (.dK kvs)) := P'.fr _ _ upd_same na (fun ps z => by cases z)
      exact ⟨hl, (show Kr X.K Z1 H fp1 σ kp ρ' r D.rt from k1) Z' _ σ' v fp' l (lock_out g' zz mu_dK.2) k' (lock_rr R' zz fun C dx fs z => by rw [hl] at z; cases z) n' (lock_post P' hH hni mu_dK.2 na)⟩
  · exact .inl (w D σ H Z1 ρ1 fp1 fl ρ' g1 e2 k1 ⟨a, o, kvs, kds, er, ev, ez, rk, hH⟩)
/-- .. an expression -/
theorem se_lock {X : Cx} {ex : Expr} {t : TE} {F : Sm} {i : Nat} (h : PE X ex t)
    (need : ∀ ρ fl ρ', F ρ = some (fl, ρ') → ∃ kds ρ1, frz ρ (.sl i) = some (.dic kds, ρ1) ∧ F ρ1 = some (fl, ρ'))
    (w : ∀ σ H Q Z ρ fp r ρ', Good X.K Z H σ ρ fp → F ρ = some (r, ρ') → Kt X.K Z H fp σ ρ' r Q → Lkd X.K Z H σ ρ i → t σ H Q) : PE X ex (tE X.K F) := by
  have hor : PE X ex (fun σ H Q => t σ H Q ∨ tLockE t σ H Q) := ⟨fun pins s σ H Q I q => q.elim (h.run pins s σ H Q I) ((pe_lock h).run pins s σ H Q I)⟩
  refine pe_weak hor ?_
  rintro σ H Q ⟨Z, ρ, fp, r, ρ', g, e, k⟩
  obtain ⟨kds, ρ1, e1, e2⟩ := need ρ r ρ' e
  obtain ⟨Z1, fp1, a, kvs, g1, P1, er, ev, ez, rk, na⟩ := ready g e1
  have k1 := kt_next k P1
  rcases g1.sub a _ ez with hH | ⟨⟨o, hH⟩, _⟩
  · refine .inr ⟨a, _, hH, True.intro, fun od => ?_⟩
    refine w σ _ _ Z1 ρ1 fp1 r ρ' (lock_in g1 ez mu_dK) e2 ?_ ⟨a, od, kvs, kds, er, ev, ez, rk, upd_same⟩
    have hni : ∀ C dx fs, HO.dK kvs ≠ .ins C dx fs := fun C dx fs z => by cases z
    intro Z' H' v fp' l g' R' n' P'
    have zz := P'.zz _ _ ez
    have hl : H' a = some (.frz od (.dK kvs)) := P'.fr _ _ upd_same na (fun ps z => by cases z)
    exact ⟨hl, k1 Z' _ v fp' l (lock_out g' zz mu_dK.2) (lock_rr R' zz fun C dx fs z => by rw [hl] at z; cases z) n' (lock_post P' hH hni mu_dK.2 na)⟩
  · exact .inl (w σ H Q Z1 ρ1 fp1 r ρ' g1 e2 k1 ⟨a, o, kvs, kds, er, ev, ez, rk, hH⟩)
theorem itN_need {w : DI} {i : Nat} {ρ ρ' : En} {xs : List D} (e : itN w i ρ = some (xs, ρ')) : ∃ kds, frz ρ (.sl i) = some (.dic kds, ρ') ∧ itN w i ρ' = some (xs, ρ') := by
  obtain ⟨⟨d, ρ1⟩, e1, e⟩ := Option.bind_eq_some_iff.mp e
  obtain ⟨ys, e2, e3⟩ := Option.map_eq_some_iff.mp e
  cases e3
  have hd : ∃ kds, d = .dic kds := by cases w <;> cases d <;> first | (cases e2; done) | exact ⟨_, rfl⟩
  obtain ⟨kds, rfl⟩ := hd
  have er : ρ1.getD i none = some (.fz (.dic kds)) := by
    have e' : (match ρ.getD i none with
      | some (.fz d) => some (d, ρ)
      | some (.ow d) => some (d, ρ.set i (some (.fz d)))
      | _ => none) = some (D.dic kds, ρ1) := e1
    cases q : ρ.getD i none with
    | none => rw [q] at e'; cases e'
    | some t =>
      rw [q] at e'
      cases t with
      | fz d => cases e'; exact q
      | ow d => cases e'; rw [getD_set, if_pos ⟨rfl, lt_of_getD q⟩]
      | _ => cases e'
  refine ⟨kds, e1, ?_⟩
  unfold itN
  have ef : frz ρ1 (.sl i) = some (.dic kds, ρ1) := by
    show (match ρ1.getD i none with
      | some (.fz d) => some (d, ρ1)
      | some (.ow d) => some (d, ρ1.set i (some (.fz d)))
      | _ => none) = _
    rw [er]
  rw [ef]
  show (dictIt w (.dic kds)).map _ = _
  rw [e2]
  rfl
end
end FL

set_option Elab.async false
set_option maxRecDepth 100000
set_option maxHeartbeats 2000000
namespace FL
open PySem PySem.Spec L2

/-! ### for over a dict by its name -/
theorem ps_two {X : Cx} {st : Stmt} {kp : Nat → Bool} {F F1 F2 : Ss} (h1 : PS X st (tS X.K kp F1)) (h2 : PS X st (tS X.K kp F2)) (h : ∀ ρ, F ρ = F1 ρ ∨ F ρ = F2 ρ) : PS X st (tS X.K kp F) := by
  have hor : PS X st (fun D σ H => tS X.K kp F1 D σ H ∨ tS X.K kp F2 D σ H) := ⟨fun pins s σ H D I q => q.elim (h1.run pins s σ H D I) (h2.run pins s σ H D I)⟩
  refine ps_weak hor fun D σ H ⟨Z, ρ, fp, fl, ρ', g, e, k⟩ => ?_
  rcases h ρ with q | q
  · exact .inl ⟨Z, ρ, fp, fl, ρ', g, by rw [← q]; exact e, k⟩
  · exact .inr ⟨Z, ρ, fp, fl, ρ', g, by rw [← q]; exact e, k⟩
theorem pe_two {X : Cx} {ex : Expr} {F F1 F2 : Sm} (h1 : PE X ex (tE X.K F1)) (h2 : PE X ex (tE X.K F2)) (h : ∀ ρ, F ρ = F1 ρ ∨ F ρ = F2 ρ) : PE X ex (tE X.K F) := by
  have hor : PE X ex (fun σ H Q => tE X.K F1 σ H Q ∨ tE X.K F2 σ H Q) := ⟨fun pins s σ H Q I q => q.elim (h1.run pins s σ H Q I) (h2.run pins s σ H Q I)⟩
  refine pe_weak hor fun σ H Q ⟨Z, ρ, fp, r, ρ', g, e, k⟩ => ?_
  rcases h ρ with q | q
  · exact .inl ⟨Z, ρ, fp, r, ρ', g, by rw [← q]; exact e, k⟩
  · exact .inr ⟨Z, ρ, fp, r, ρ', g, by rw [← q]; exact e, k⟩
section
variable {X : Cx} {kp : Nat → Bool} {iter tg : Expr} {body : List Stmt} {B : Ss} {g : Tg} {pos p : Pos}
theorem ss_forD {w : DI} {i : Nat} (hp : PassesOwn (model X.prog X.w) X.A X.env X.xe) (hc : X.calm = true) (hi : PI X tg iter (iDI w (tVar i))) (hg : PG X tg (tGd X.K kp g)) (hb : PSs X body (tS X.K kp B)) (hs : ∀ x, foldedSetIterable iter X.env x = pure x) :
    PS X (.For tg iter body [] pos) (tS X.K kp (forF (itN w i) g B)) := by
  refine ss_lock (i := i) (ps_for hp hc hi hg hb hs) (fun ρ fl ρ' e => ?_) fun D σ H Z ρ fp fl ρ' gd e k lk => ?_
  · obtain ⟨⟨xs, ρ1⟩, e1, e2⟩ := Option.bind_eq_some_iff.mp e
    obtain ⟨kds, e3, e4⟩ := itN_need e1
    refine ⟨kds, ρ1, e3, ?_⟩
    show (itN w i ρ1).bind _ = _
    rw [e4]
    exact e2
  · obtain ⟨⟨xs, ρ1⟩, e1, e2⟩ := Option.bind_eq_some_iff.mp e
    refine iDI_go gd lk e1 fun J er wk => ?_
    subst er
    exact for_in gd e2 k wk
theorem itV_or {i : Nat} (g : Tg) (B : Ss) (ρ : En) : forF (itV i) g B ρ = forF (itL (vr i)) g B ρ ∨ forF (itV i) g B ρ = forF (itN .keys i) g B ρ := by
  have e : itV i ρ = itL (vr i) ρ ∨ itV i ρ = itN .keys i ρ := by
    unfold itV
    split
    · exact .inr rfl
    · exact .inr rfl
    · exact .inl rfl
  unfold forF
  rcases e with e | e
  · exact .inl (by rw [e])
  · exact .inr (by rw [e])
theorem ss_forV {x : Str} {i : Nat} (hp : PassesOwn (model X.prog X.w) X.A X.env X.xe) (hc : X.calm = true) (hv : PE X (.Name x p) (tVar i)) (hg : PG X tg (tGd X.K kp g)) (hb : PSs X body (tS X.K kp B)) :
    PS X (.For tg (.Name x p) body [] pos) (tS X.K kp (forF (itV i) g B)) :=
  ps_two (ss_for hp hc (si_val (se_var hv)) hg hb fun _ => rfl) (ss_forD (w := .keys) hp hc (pi_keys hv) hg hb fun _ => rfl) (itV_or g B)
end

/-! ### comprehensions -/
def wipeE (ρ : En) : List Nat → En
  | [] => ρ
  | v :: vs => (wipeE ρ vs).set v none
def restE (ρ0 : En) : List Nat → En → En
  | [], ρ => ρ
  | v :: vs, ρ => (restE ρ0 vs ρ).set v (ρ0.getD v none)
def okS : Option T → Bool
  | none => true
  | some (.fz _) => true
  | _ => false
def okW (ρ : En) (vs : List Nat) : Bool := vs.all fun v => okS (ρ.getD v none)
def tst (F : Option Sm) (ρ : En) : Option (Bool × En) := match F with
  | none => some (true, ρ)
  | some F => (F ρ).bind fun p => match p.1 with
    | .fz (.bl b) => some (b, p.2)
    | _ => none
def lcGo (vs : List Nat) (g : Tg) (Ft : Option Sm) (Fe : Sm) : List D → List D → En → Option (List D × En)
  | [], acc, ρ => some (acc, ρ)
  | x :: xs, acc, ρ => (g x ρ).bind fun ρ1 => (tst Ft ρ1).bind fun p => if p.1 = true then (Fe p.2).bind fun q => (frz q.2 q.1).bind fun z => if acc.length < sizeLine then lcGo vs g Ft Fe xs (acc ++ [z.1]) (wipeE z.2 vs) else none
    else lcGo vs g Ft Fe xs acc (wipeE p.2 vs)
def lcF (vs : List Nat) (it : Im) (g : Tg) (Ft : Option Sm) (Fe : Sm) : Sm := fun ρ => (it ρ).bind fun p => if okW p.2 vs = true then (lcGo vs g Ft Fe p.1 [] (wipeE p.2 vs)).map fun q => (.nw (.ow (.lst q.1)), restE p.2 vs q.2) else none
def dcGo (vs : List Nat) (g : Tg) (Ft : Option Sm) (Fk Fe : Sm) : List D → List (Key × D) → En → Option (List (Key × D) × En)
  | [], acc, ρ => some (acc, ρ)
  | x :: xs, acc, ρ => (g x ρ).bind fun ρ1 => (tst Ft ρ1).bind fun p => if p.1 = true then (Fk p.2).bind fun y => match y.1 with
      | .fz kd => (keyOf kd).bind fun k => (Fe y.2).bind fun q => (frz q.2 q.1).bind fun z => if acc.length < sizeLine then dcGo vs g Ft Fk Fe xs (dput acc k z.1) (wipeE z.2 vs) else none
      | _ => none
    else dcGo vs g Ft Fk Fe xs acc (wipeE p.2 vs)
def dcF (vs : List Nat) (it : Im) (g : Tg) (Ft : Option Sm) (Fk Fe : Sm) : Sm := fun ρ => (it ρ).bind fun p => if okW p.2 vs = true then (dcGo vs g Ft Fk Fe p.1 [] (wipeE p.2 vs)).map fun q => (.nw (.ow (.dic q.1)), restE p.2 vs q.2) else none
/-- the tests of a comprehension -/
def tTo (K : PySem.W.Frag) (F : Option Sm) : TT := fun σ H Q => ∃ Z ρ fp b ρ', Good K Z H σ ρ fp ∧ tst F ρ = some (b, ρ') ∧ ∀ Z' H' fp', Good K Z' H' σ ρ' fp' → Post Z H (E fp) Z' H' (E fp') → Q b H'
theorem pts_weak {X : Cx} {es : List Expr} {t t' : TT} (h : PTs X es t) (w : ∀ σ H Q, t' σ H Q → t σ H Q) : PTs X es t' := ⟨fun pins s σ H Q I q => h.run pins s σ H Q I (w σ H Q q)⟩
theorem spt_nil {X : Cx} : PTs X [] (tTo X.K none) := pts_weak pts_nil fun σ H Q ⟨Z, ρ, fp, b, ρ', g, e, k⟩ => by
  cases e
  exact k Z H fp g Post.refl
theorem spt_one {X : Cx} {c : Expr} {F : Sm} (h : PT X c (tT X.K F)) : PTs X [c] (tTo X.K (some F)) := pts_weak (pts_one h) fun σ H Q ⟨Z, ρ, fp, b, ρ', g, e, k⟩ => by
  obtain ⟨⟨r, ρ1⟩, e1, e⟩ := Option.bind_eq_some_iff.mp e
  cases r with
  | fz d =>
    cases d with
    | bl c => cases e; exact ⟨Z, ρ, fp, _, _, g, e1, k⟩
    | _ => cases e
  | _ => cases e
theorem wipe_getD {σ : St} {j : Nat} : ∀ {vs : List Nat}, (wipe σ vs).getD j none = if j ∈ vs then none else σ.getD j none
  | [] => by simp [wipe]
  | v :: vs => by
    show ((wipe σ vs).set v none).getD j none = _
    rw [getD_set, wipe_getD]
    by_cases e : v = j
    · subst e
      by_cases hl : v < (wipe σ vs).length
      · rw [if_pos ⟨rfl, hl⟩, if_pos List.mem_cons_self]
      · have : σ.getD v none = none := by
          rw [wipe_length] at hl
          rw [List.getD_eq_getElem?_getD, List.getElem?_eq_none (by omega)]; rfl
        rw [if_neg (fun q => hl q.2), if_pos List.mem_cons_self, this]
        simp
    · rw [if_neg (fun q => e q.1)]
      by_cases m : j ∈ vs
      · rw [if_pos m, if_pos (List.mem_cons_of_mem _ m)]
      · rw [if_neg m, if_neg (fun q => (List.mem_cons.mp q).elim (fun z => e z.symm) m)]
theorem wipeE_length {ρ : En} : ∀ {vs : List Nat}, (wipeE ρ vs).length = ρ.length
  | [] => rfl
  | v :: vs => by
    show ((wipeE ρ vs).set v none).length = _
    rw [List.length_set, wipeE_length]
theorem wipeE_getD {ρ : En} {j : Nat} : ∀ {vs : List Nat}, (wipeE ρ vs).getD j none = if j ∈ vs then none else ρ.getD j none
  | [] => by simp [wipeE]
  | v :: vs => by
    show ((wipeE ρ vs).set v none).getD j none = _
    rw [getD_set, wipeE_getD]
    by_cases e : v = j
    · subst e
      by_cases hl : v < (wipeE ρ vs).length
      · rw [if_pos ⟨rfl, hl⟩, if_pos List.mem_cons_self]
      · have : ρ.getD v none = none := by
          rw [wipeE_length] at hl
          rw [List.getD_eq_getElem?_getD, List.getElem?_eq_none (by omega)]; rfl
        rw [if_neg (fun q => hl q.2), if_pos List.mem_cons_self, this]
        simp
    · rw [if_neg (fun q => e q.1)]
      by_cases m : j ∈ vs
      · rw [if_pos m, if_pos (List.mem_cons_of_mem _ m)]
      · rw [if_neg m, if_neg (fun q => (List.mem_cons.mp q).elim (fun z => e z.symm) m)]
theorem restE_length {ρ0 ρ : En} : ∀ {vs : List Nat}, (restE ρ0 vs ρ).length = ρ.length
  | [] => rfl
  | v :: vs => by
    show ((restE ρ0 vs ρ).set v _).length = _
    rw [List.length_set, restE_length]
theorem restE_getD {ρ0 ρ : En} {j : Nat} (hl : ρ0.length = ρ.length) : ∀ {vs : List Nat}, (restE ρ0 vs ρ).getD j none = if j ∈ vs then ρ0.getD j none else ρ.getD j none
  | [] => by simp [restE]
  | v :: vs => by
    show ((restE ρ0 vs ρ).set v (ρ0.getD v none)).getD j none = _
    rw [getD_set, restE_getD hl]
    by_cases e : v = j
    · subst e
      by_cases hv : v < (restE ρ0 vs ρ).length
      · rw [if_pos ⟨rfl, hv⟩, if_pos List.mem_cons_self]
      · rw [restE_length] at hv
        have h0 : ρ0.getD v none = none := by
          rw [List.getD_eq_getElem?_getD, List.getElem?_eq_none (by omega)]; rfl
        have h1 : ρ.getD v none = none := by
          rw [List.getD_eq_getElem?_getD, List.getElem?_eq_none (by omega)]; rfl
        rw [if_neg (fun q => hv (by rw [restE_length] at q; exact q.2)), if_pos List.mem_cons_self, h0, h1]
        simp
    · rw [if_neg (fun q => e q.1)]
      by_cases m : j ∈ vs
      · rw [if_pos m, if_pos (List.mem_cons_of_mem _ m)]
      · rw [if_neg m, if_neg (fun q => (List.mem_cons.mp q).elim (fun z => e z.symm) m)]
theorem ext_getD {α : Type} {l m : List (Option α)} (hl : l.length = m.length) (h : ∀ i, l.getD i none = m.getD i none) : l = m := by
  apply List.ext_getElem?
  intro i
  have q := h i
  rw [List.getD_eq_getElem?_getD, List.getD_eq_getElem?_getD] at q
  by_cases hi : i < l.length
  · rw [List.getElem?_eq_getElem hi, List.getElem?_eq_getElem (by omega)] at q ⊢
    exact congrArg some q
  · rw [List.getElem?_eq_none (by omega), List.getElem?_eq_none (by omega)]
def kpv (vs : List Nat) : Nat → Bool := fun i => !decide (i ∈ vs)
section
variable {K : PySem.W.Frag} {Z H Z' H' : Hp} {σ σ2 : St} {ρ ρ' ρ0 : En} {fp fp' : Nat → List Addr} {vs : List Nat} {A A' : Addr → Prop}
theorem wipe_keep (h : keepS (kpv vs) (wipe σ vs) σ2) : wipe σ2 vs = wipe σ vs := by
  have hl : σ2.length = σ.length := by rw [h.1, wipe_length]
  apply ext_getD
  · rw [wipe_length, wipe_length, hl]
  · intro i
    rw [wipe_getD]
    by_cases m : i ∈ vs
    · rw [if_pos m, wipe_getD, if_pos m]
    · rw [if_neg m]
      exact h.2 i (by simp [kpv, m])
theorem Good.wipe (g : Good K Z H σ ρ fp) : Good K Z H (wipe σ vs) (wipeE ρ vs) (fun j => if j ∈ vs then [] else fp j) := by
  refine ⟨by rw [wipe_length, wipeE_length]; exact g.len, g.sub, fun i => ?_, fun i j p h1 h2 => ?_, g.tz⟩
  · rw [wipe_getD, wipeE_getD]
    by_cases m : i ∈ vs
    · rw [if_pos m, if_pos m, if_pos m]; exact rfl
    · rw [if_neg m, if_neg m, if_neg m]; exact g.slot i
  · have key : ∀ j, p ∈ (if j ∈ vs then [] else fp j) → p ∈ fp j := fun j hj => by
      by_cases m : j ∈ vs
      · rw [if_pos m] at hj; cases hj
      · rw [if_neg m] at hj; exact hj
    exact g.disj i j p (key i h1) (key j h2)
theorem E_wipe {p : Addr} (h : E (fun j => if j ∈ vs then [] else fp j) p) : E fp p := by
  obtain ⟨j, hj⟩ := h
  have hj' : p ∈ (if j ∈ vs then [] else fp j) := hj
  by_cases m : j ∈ vs
  · rw [if_pos m] at hj'; cases hj'
  · rw [if_neg m] at hj'; exact ⟨j, hj'⟩
theorem Good.rest (g : Good K Z' H' (L2.wipe σ vs) ρ fp') (hl : ρ0.length = σ.length) (h : ∀ v ∈ vs, SlotOk K Z' H' (σ.getD v none) (ρ0.getD v none) []) : Good K Z' H' σ (restE ρ0 vs ρ) (fun j => if j ∈ vs then [] else fp' j) := by
  have hl' : ρ0.length = ρ.length := by rw [← g.len, wipe_length]; exact hl
  refine ⟨by rw [restE_length, ← hl', hl], g.sub, fun i => ?_, fun i j p h1 h2 => ?_, g.tz⟩
  · rw [restE_getD hl']
    by_cases m : i ∈ vs
    · rw [if_pos m, if_pos m]; exact h i m
    · rw [if_neg m, if_neg m]
      have q := g.slot i
      rw [wipe_getD, if_neg m] at q
      exact q
  · have key : ∀ j, p ∈ (if j ∈ vs then [] else fp' j) → p ∈ fp' j := fun j hj => by
      by_cases m : j ∈ vs
      · rw [if_pos m] at hj; cases hj
      · rw [if_neg m] at hj; exact hj
    exact g.disj i j p (key i h1) (key j h2)
theorem okW_slot (g : Good K Z H σ ρ fp) (ok : okW ρ vs = true) (s : Same Z Z') : ∀ v ∈ vs, SlotOk K Z' H' (σ.getD v none) (ρ.getD v none) [] := fun v hv => by
  have q := List.all_eq_true.mp ok v hv
  have sl := g.slot v
  cases h1 : σ.getD v none with
  | none =>
    rw [h1] at sl
    cases h2 : ρ.getD v none with
    | none => exact rfl
    | some t => rw [h2] at sl; exact sl.elim
  | some x =>
    rw [h1] at sl
    cases h2 : ρ.getD v none with
    | none => rw [h2] at sl; exact sl.elim
    | some t =>
      rw [h2] at sl q
      cases t with
      | fz d => exact ⟨(show Rep K Z x d ∧ _ from sl).1.mono s, rfl⟩
      | _ => cases q
/-- the new thing -/
def Dk (K : PySem.W.Frag) (Z H : Hp) (fp : Nat → List Addr) (D : Addr) (o : HO) (d : FL.D) : Prop := H D = some o ∧ OwTop K Z H D d ∧ Z D = none ∧ ¬ E fp D
theorem Dk.mu {D : Addr} {o : HO} {d : FL.D} (k : Dk K Z H fp D o d) : Mu o := by
  obtain ⟨h1, h2, _, _⟩ := k
  obtain ⟨o2, e, m⟩ := h2.there
  rw [h1] at e; cases e
  exact m
theorem Dk.step {D : Addr} {o : HO} {d : FL.D} (k : Dk K Z H fp D o d) (P : Post Z H (E fp) Z' H' A') (h : ∀ p, E fp' p → A' p) : Dk K Z' H' fp' D o d := by
  have mu := k.mu
  obtain ⟨h1, h2, h3, h4⟩ := k
  have e : H' D = some o := P.fr _ _ h1 h4 mu.tbl
  refine ⟨e, h2.mono P.zz (fun u q => by rw [h1] at q; cases q; exact e), ?_, fun z => ?_⟩
  · cases q : Z' D with
    | none => rfl
    | some u =>
      rcases P.zn D u q with y | y | y
      · rw [h3] at y; cases y
      · exact absurd y h4
      · rw [h1] at y; cases y
  · rcases P.nw D (h D z) with y | y
    · exact h4 y
    · rw [h1] at y; cases y
theorem post_D {D : Addr} {Z0 H0 : Hp} {A0 : Addr → Prop} (P : Post Z0 H0 A0 Z H (fun p => E fp p ∨ p ∈ [D])) (Q : Post Z H (E fp) Z' H' A') (h : ∀ p, E fp' p → A' p) : Post Z0 H0 A0 Z' H' (fun p => E fp' p ∨ p ∈ [D]) :=
  P.trans (Q.wide (fun p q => .inl q) fun p q => q.elim (fun z => .inl (h p z)) fun z => .inr (.inr z))
theorem write_D {D : Addr} {o : HO} {d d' : FL.D} {o' : HO} (g : Good K Z H σ ρ fp) (k : Dk K Z H fp D o d) (on : OwTop K Z (upd H D o') D d') : Good K Z (upd H D o') σ ρ fp ∧ Dk K Z (upd H D o') fp D o' d' ∧ Post Z H (fun p => E fp p ∨ p ∈ [D]) Z (upd H D o') (fun p => E fp p ∨ p ∈ [D]) := by
  have mu := k.mu
  obtain ⟨h1, h2, h3, h4⟩ := k
  refine ⟨g.mono (Same.refl _) (fun b u hb => ?_) (.at h1 mu.2) g.tz.no (fun q w hq e => ?_) fun q hq => (g.there hq).2, ⟨upd_same, on, h3, h4⟩, Same.refl _, fun p w e n _ => ?_, fun p q => .inl q, fun p w q => .inl q, fun b C dx fv e => ?_, .at h1 mu.2⟩
  · have nb : b ≠ D := fun z => by rw [z, h3] at hb; cases hb
    rw [upd_ne nb]
    rcases g.sub b u hb with q | ⟨⟨o, q⟩, m⟩
    · exact .inl q
    · exact .inr ⟨⟨o, q⟩, m⟩
  · rw [upd_ne (fun z => h4 (by rw [← z]; exact hq))]; exact e
  · rw [upd_ne (fun z => n (.inr (by rw [z]; exact List.mem_cons_self)))]; exact e
  · have nb : b ≠ D := fun z => by
      rw [z, h1] at e
      cases e
      exact h2.mut h1 _ _ _ rfl
    exact ⟨fv, by rw [upd_ne nb]; exact e, fun f v q => q⟩
end
/-! the loop of a list comprehension -/
section
variable {K : PySem.W.Frag} {vs : List Nat} {g : Tg} {Ft : Option Sm} {Fe Fk : Sm} {xs : List FL.D} {J : It} {σ : St} {Zi Hi : Hp} {ρi ρe : En} {fpi : Nat → List Addr} {Q : VK}
theorem lc_in {out : List FL.D} (gi : Good K Zi Hi σ ρi fpi) (ok : okW ρi vs = true) (wk : Wk K Zi Hi (E fpi) J xs) (e0 : lcGo vs g Ft Fe xs [] (wipeE ρi vs) = some (out, ρe)) (k : Kt K Zi Hi fpi σ (restE ρi vs ρe) (.nw (.ow (.lst out))) Q) (D : Addr) (hD : Hi D = none) :
    ∃ W : Nat → Nat → Hp → Prop, (∃ m, W 0 m (upd Hi D (.lst []))) ∧ ∀ i m H, W i m H →
      (J.stop i H ∧ Q (.ref D) H) ∨ (J.go i H ∧ ∃ Nx : Hp → Prop, (∀ H', Nx H' → ∃ m', m' < m ∧ W (i + 1) m' H') ∧ ∀ x H', J.yld i H x H' → tGd K (kpv vs) g x (wipe σ vs) H' fun σ2 H2 => wipe σ2 vs = wipe σ vs ∧ tTo K Ft σ2 H2 fun b H3 =>
        if b = true then tE K Fe σ2 H3 fun y H4 => ∃ acc, H4 D = some (.lst acc) ∧ acc.length < sizeLine ∧ Nx (upd H4 D (.lst (acc ++ [y]))) else Nx H3) := by
  have zD : Zi D = none := gi.sub.none hD
  have nD : ¬ E fpi D := fun z => by
    obtain ⟨⟨o, q, _⟩, _⟩ := gi.there z
    rw [hD] at q; cases q
  have P0 : Post Zi Hi (E fpi) Zi (upd Hi D (.lst [])) (fun p => E fpi p ∨ p ∈ [D]) := Post.new hD
  refine ⟨fun i m H => i + m = xs.length ∧ ∃ Z ρ fp av ad, Good K Z H (wipe σ vs) ρ fp ∧ lcGo vs g Ft Fe (xs.drop i) ad ρ = some (out, ρe) ∧ RepL K Z av ad ∧ Dk K Z H fp D (.lst av) (.lst ad) ∧ Post Zi Hi (E fpi) Z H (fun p => E fp p ∨ p ∈ [D]), ⟨xs.length, Nat.zero_add _, Zi, wipeE ρi vs, _, [], [], (gi.new hD).wipe, e0, .nil, ⟨upd_same, ⟨[], upd_same, .nil⟩, zD, fun z => nD (E_wipe z)⟩, P0.weak fun p q => q.imp_left E_wipe⟩, ?_⟩
  rintro i m H ⟨hm, Z, ρ, fp, av, ad, gd, e, ra, dk, P⟩
  by_cases hi : i < xs.length
  · have ed : xs.drop i = xs[i] :: xs.drop (i + 1) := List.drop_eq_getElem_cons hi
    rw [ed] at e
    obtain ⟨ρ1, e1, e⟩ := Option.bind_eq_some_iff.mp e
    obtain ⟨⟨b, ρ2⟩, e2, e⟩ := Option.bind_eq_some_iff.mp e
    refine .inr ⟨wk.goes Z H _ i P gd.sub hi, fun H => i + 1 + (m - 1) = xs.length ∧ ∃ Z ρ fp av ad, Good K Z H (wipe σ vs) ρ fp ∧ lcGo vs g Ft Fe (xs.drop (i + 1)) ad ρ = some (out, ρe) ∧ RepL K Z av ad ∧ Dk K Z H fp D (.lst av) (.lst ad) ∧ Post Zi Hi (E fpi) Z H (fun p => E fp p ∨ p ∈ [D]), fun H' q => ⟨m - 1, by omega, q⟩, fun v H' hy => ?_⟩
    have o := wk.yields Z H _ i v H' xs[i] P gd.sub (by simp [hi]) hy
    refine kt_out (σ := wipe σ vs) (Q := fun v H' => tGd K (kpv vs) g v (wipe σ vs) H' _) ?_ gd Post.refl (fun p q => q) o
    intro Z1 H1 w fp1 l g1 R1 n1 P1
    obtain ⟨hr, rfl⟩ := R1
    refine ⟨Z1, ρ, fp1, _, ρ1, g1, hr, e1, fun σ2 fp2 g2 k2 s2 => ?_⟩
    have P1' : Post Z H (E fp) Z1 H1 (E fp1) := P1.weak fun p q => .inl q
    have dk2 := dk.step (fp' := fp2) P1 fun p q => .inl (s2 p q)
    have PP2 := post_D P P1 (fp' := fp2) fun p q => .inl (s2 p q)
    refine ⟨wipe_keep k2, Z1, ρ1, fp2, b, ρ2, g2, e2, fun Z3 H3 fp3 g3 P3 => ?_⟩
    have dk3 := dk2.step P3 fun p q => q
    have PP3 := post_D PP2 P3 fun p q => q
    have wk2 := wipe_keep k2
    cases b with
    | false =>
      have gw := g3.wipe (vs := vs)
      rw [wk2] at gw
      exact iteF ⟨by omega, Z3, _, _, av, ad, gw, e, ra.mono (P1.zz.trans P3.zz), ⟨dk3.1, dk3.2.1, dk3.2.2.1, fun z => dk3.2.2.2 (E_wipe z)⟩, PP3.weak fun p q => q.imp_left E_wipe⟩
    | true =>
      obtain ⟨⟨r, ρ3⟩, e3, e⟩ := Option.bind_eq_some_iff.mp e
      obtain ⟨⟨d, ρ4⟩, e4, e⟩ := Option.bind_eq_some_iff.mp e
      have e5 : (if ad.length < sizeLine then lcGo vs g Ft Fe (xs.drop (i + 1)) (ad ++ [d]) (wipeE ρ4 vs) else none) = some (out, ρe) := e
      by_cases hz : ad.length < sizeLine
      · rw [if_pos hz] at e5
        refine iteT ⟨Z3, ρ2, fp3, r, ρ3, g3, e3, fun Z4 H4 y fp4 l4 g4 R4 n4 P4 => ?_⟩
        obtain ⟨Z5, fp5, g5, R5, P5⟩ := frz_ok g4 R4 n4 e4
        have P45 := P4.trans P5
        have dk5 := dk3.step P45 fun p q => q
        have PP5 := post_D PP3 P45 fun p q => q
        have ra5 : RepL K Z5 av ad := ra.mono (P1.zz.trans (P3.zz.trans P45.zz))
        obtain ⟨g6, dk6, P6⟩ := write_D (o' := .lst (av ++ [y])) (d' := .lst (ad ++ [d])) g5 dk5 ⟨_, upd_same, ra5.append (.cons R5 .nil)⟩
        have gw := g6.wipe (vs := vs)
        rw [wk2] at gw
        exact ⟨av, dk5.1, by rw [ra.length]; exact hz, by omega, Z5, _, _, _, _, gw, e5, ra5.append (.cons R5 .nil), ⟨dk6.1, dk6.2.1, dk6.2.2.1, fun z => dk6.2.2.2 (E_wipe z)⟩, (PP5.trans P6).weak fun p q => q.imp_left E_wipe⟩
      · rw [if_neg hz] at e5; cases e5
  · have he : i = xs.length := by omega
    have e' : lcGo vs g Ft Fe [] ad ρ = some (out, ρe) := by
      rw [he, List.drop_length] at e
      exact e
    cases e'
    refine .inl ⟨by rw [he]; exact wk.stops Z H _ P gd.sub, ?_⟩
    have gr := gd.rest (ρ0 := ρi) gi.len.symm (okW_slot gi ok P.zz)
    exact k Z H (.ref D) _ [D] gr ⟨D, rfl, rfl, dk.2.2.1, dk.2.1⟩ (fun p hp z => by rw [List.mem_singleton.mp hp] at z; exact dk.2.2.2 (E_wipe z)) (P.weak fun p q => q.imp_left E_wipe)
theorem dc_in {out : List (Key × FL.D)} (gi : Good K Zi Hi σ ρi fpi) (ok : okW ρi vs = true) (wk : Wk K Zi Hi (E fpi) J xs) (e0 : dcGo vs g Ft Fk Fe xs [] (wipeE ρi vs) = some (out, ρe)) (k : Kt K Zi Hi fpi σ (restE ρi vs ρe) (.nw (.ow (.dic out))) Q) (D : Addr) (hD : Hi D = none) :
    ∃ W : Nat → Nat → Hp → Prop, (∃ m, W 0 m (upd Hi D (.dK []))) ∧ ∀ i m H, W i m H →
      (J.stop i H ∧ Q (.ref D) H) ∨ (J.go i H ∧ ∃ Nx : Hp → Prop, (∀ H', Nx H' → ∃ m', m' < m ∧ W (i + 1) m' H') ∧ ∀ x H', J.yld i H x H' → tGd K (kpv vs) g x (wipe σ vs) H' fun σ2 H2 => wipe σ2 vs = wipe σ vs ∧ tTo K Ft σ2 H2 fun b H3 =>
        if b = true then tE K Fk σ2 H3 fun y H4 => tE K Fe σ2 H4 fun z H5 => ∃ kvs k, y = kV k ∧ H5 D = some (.dK kvs) ∧ kvs.length < sizeLine ∧ Nx (upd H5 D (.dK (putK kvs k z))) else Nx H3) := by
  have zD : Zi D = none := gi.sub.none hD
  have nD : ¬ E fpi D := fun z => by
    obtain ⟨⟨o, q, _⟩, _⟩ := gi.there z
    rw [hD] at q; cases q
  have P0 : Post Zi Hi (E fpi) Zi (upd Hi D (.dK [])) (fun p => E fpi p ∨ p ∈ [D]) := Post.new hD
  refine ⟨fun i m H => i + m = xs.length ∧ ∃ Z ρ fp av ad, Good K Z H (wipe σ vs) ρ fp ∧ dcGo vs g Ft Fk Fe (xs.drop i) ad ρ = some (out, ρe) ∧ RepK K Z av ad ∧ Dk K Z H fp D (.dK av) (.dic ad) ∧ Post Zi Hi (E fpi) Z H (fun p => E fp p ∨ p ∈ [D]), ⟨xs.length, Nat.zero_add _, Zi, wipeE ρi vs, _, [], [], (gi.new hD).wipe, e0, .nil, ⟨upd_same, ⟨[], upd_same, .nil⟩, zD, fun z => nD (E_wipe z)⟩, P0.weak fun p q => q.imp_left E_wipe⟩, ?_⟩
  rintro i m H ⟨hm, Z, ρ, fp, av, ad, gd, e, ra, dk, P⟩
  by_cases hi : i < xs.length
  · have ed : xs.drop i = xs[i] :: xs.drop (i + 1) := List.drop_eq_getElem_cons hi
    rw [ed] at e
    obtain ⟨ρ1, e1, e⟩ := Option.bind_eq_some_iff.mp e
    obtain ⟨⟨b, ρ2⟩, e2, e⟩ := Option.bind_eq_some_iff.mp e
    refine .inr ⟨wk.goes Z H _ i P gd.sub hi, fun H => i + 1 + (m - 1) = xs.length ∧ ∃ Z ρ fp av ad, Good K Z H (wipe σ vs) ρ fp ∧ dcGo vs g Ft Fk Fe (xs.drop (i + 1)) ad ρ = some (out, ρe) ∧ RepK K Z av ad ∧ Dk K Z H fp D (.dK av) (.dic ad) ∧ Post Zi Hi (E fpi) Z H (fun p => E fp p ∨ p ∈ [D]), fun H' q => ⟨m - 1, by omega, q⟩, fun v H' hy => ?_⟩
    have o := wk.yields Z H _ i v H' xs[i] P gd.sub (by simp [hi]) hy
    refine kt_out (σ := wipe σ vs) (Q := fun v H' => tGd K (kpv vs) g v (wipe σ vs) H' _) ?_ gd Post.refl (fun p q => q) o
    intro Z1 H1 w fp1 l g1 R1 n1 P1
    obtain ⟨hr, rfl⟩ := R1
    refine ⟨Z1, ρ, fp1, _, ρ1, g1, hr, e1, fun σ2 fp2 g2 k2 s2 => ?_⟩
    have P1' : Post Z H (E fp) Z1 H1 (E fp1) := P1.weak fun p q => .inl q
    have dk2 := dk.step (fp' := fp2) P1 fun p q => .inl (s2 p q)
    have PP2 := post_D P P1 (fp' := fp2) fun p q => .inl (s2 p q)
    refine ⟨wipe_keep k2, Z1, ρ1, fp2, b, ρ2, g2, e2, fun Z3 H3 fp3 g3 P3 => ?_⟩
    have dk3 := dk2.step P3 fun p q => q
    have PP3 := post_D PP2 P3 fun p q => q
    have wk2 := wipe_keep k2
    cases b with
    | false =>
      have gw := g3.wipe (vs := vs)
      rw [wk2] at gw
      exact iteF ⟨by omega, Z3, _, _, av, ad, gw, e, ra.mono (P1.zz.trans P3.zz), ⟨dk3.1, dk3.2.1, dk3.2.2.1, fun z => dk3.2.2.2 (E_wipe z)⟩, PP3.weak fun p q => q.imp_left E_wipe⟩
    | true =>
      obtain ⟨⟨rk, ρk⟩, ek, e⟩ := Option.bind_eq_some_iff.mp e
      cases rk with
      | fz kd =>
        obtain ⟨key, ek2, e⟩ := Option.bind_eq_some_iff.mp e
        obtain ⟨⟨r, ρ3⟩, e3, e⟩ := Option.bind_eq_some_iff.mp e
        obtain ⟨⟨d, ρ4⟩, e4, e⟩ := Option.bind_eq_some_iff.mp e
        have e5 : (if ad.length < sizeLine then dcGo vs g Ft Fk Fe (xs.drop (i + 1)) (dput ad key d) (wipeE ρ4 vs) else none) = some (out, ρe) := e
        by_cases hz : ad.length < sizeLine
        · rw [if_pos hz] at e5
          refine iteT ⟨Z3, ρ2, fp3, _, ρk, g3, ek, fun Zk Hk yk fpk lk gk Rk nk Pk => ?_⟩
          obtain ⟨hrk, rfl⟩ := Rk
          have eyk := keyOf_v (hrk.rd gk.sub) ek2
          have Pk' : Post Z3 H3 (E fp3) Zk Hk (E fpk) := Pk.weak fun p q => .inl q
          have dkk := dk3.step Pk' fun p q => q
          have PPk := post_D PP3 Pk' fun p q => q
          refine ⟨Zk, ρk, fpk, r, ρ3, gk, e3, fun Z4 H4 y fp4 l4 g4 R4 n4 P4 => ?_⟩
          obtain ⟨Z5, fp5, g5, R5, P5⟩ := frz_ok g4 R4 n4 e4
          have P45 := P4.trans P5
          have dk5 := dkk.step P45 fun p q => q
          have PP5 := post_D PPk P45 fun p q => q
          have ra5 : RepK K Z5 av ad := ra.mono (P1.zz.trans (P3.zz.trans (Pk.zz.trans P45.zz)))
          obtain ⟨g6, dk6, P6⟩ := write_D (o' := .dK (putK av key y)) (d' := .dic (dput ad key d)) g5 dk5 ⟨_, upd_same, dput_rep ra5 R5⟩
          have gw := g6.wipe (vs := vs)
          rw [wk2] at gw
          exact ⟨av, key, eyk, dk5.1, by rw [lenK ra]; exact hz, by omega, Z5, _, _, _, _, gw, e5, dput_rep ra5 R5, ⟨dk6.1, dk6.2.1, dk6.2.2.1, fun z => dk6.2.2.2 (E_wipe z)⟩, (PP5.trans P6).weak fun p q => q.imp_left E_wipe⟩
        · rw [if_neg hz] at e5; cases e5
      | _ => cases e
  · have he : i = xs.length := by omega
    have e' : dcGo vs g Ft Fk Fe [] ad ρ = some (out, ρe) := by
      rw [he, List.drop_length] at e
      exact e
    cases e'
    refine .inl ⟨by rw [he]; exact wk.stops Z H _ P gd.sub, ?_⟩
    have gr := gd.rest (ρ0 := ρi) gi.len.symm (okW_slot gi ok P.zz)
    exact k Z H (.ref D) _ [D] gr ⟨D, rfl, rfl, dk.2.2.1, dk.2.1⟩ (fun p hp z => by rw [List.mem_singleton.mp hp] at z; exact dk.2.2.2 (E_wipe z)) (P.weak fun p q => q.imp_left E_wipe)

theorem lc_go {it : Im} {H : Hp} (h : tE K (lcF vs it g Ft Fe) σ H Q) : tLc (tI K it) (tGd K (kpv vs) g) (tTo K Ft) (tE K Fe) vs σ H Q := by
  obtain ⟨Z, ρ, fp, r, ρ', gd, e, k⟩ := h
  obtain ⟨⟨xs, ρ1⟩, e1, e⟩ := Option.bind_eq_some_iff.mp e
  by_cases ok : okW ρ1 vs = true
  · rw [if_pos ok] at e
    obtain ⟨⟨out, ρ2⟩, e2, e3⟩ := Option.map_eq_some_iff.mp e
    cases e3
    exact ⟨Z, ρ, fp, xs, ρ1, gd, e1, fun Z1 H1 fp1 J g1 P1 wk => lc_in g1 ok wk e2 (kt_next k P1)⟩
  · rw [if_neg ok] at e; cases e
theorem lcD_go {w : DI} {i : Nat} {Z H : Hp} {ρ ρ' : En} {fp : Nat → List Addr} {r : R} (gd : Good K Z H σ ρ fp) (e : lcF vs (itN w i) g Ft Fe ρ = some (r, ρ')) (k : Kt K Z H fp σ ρ' r Q) (lk : Lkd K Z H σ ρ i) : tLc (iDI w (tVar i)) (tGd K (kpv vs) g) (tTo K Ft) (tE K Fe) vs σ H Q := by
  obtain ⟨⟨xs, ρ1⟩, e1, e⟩ := Option.bind_eq_some_iff.mp e
  by_cases ok : okW ρ1 vs = true
  · rw [if_pos ok] at e
    obtain ⟨⟨out, ρ2⟩, e2, e3⟩ := Option.map_eq_some_iff.mp e
    cases e3
    refine iDI_go gd lk e1 fun J er wk => ?_
    have er' : ρ1 = ρ := er
    subst er'
    exact lc_in gd ok wk e2 k
  · rw [if_neg ok] at e; cases e
theorem lcF_need {w : DI} {i : Nat} {ρ ρ' : En} {r : R} (e : lcF vs (itN w i) g Ft Fe ρ = some (r, ρ')) : ∃ kds ρ1, frz ρ (.sl i) = some (.dic kds, ρ1) ∧ lcF vs (itN w i) g Ft Fe ρ1 = some (r, ρ') := by
  obtain ⟨⟨xs, ρ1⟩, e1, e2⟩ := Option.bind_eq_some_iff.mp e
  obtain ⟨kds, e3, e4⟩ := itN_need e1
  refine ⟨kds, ρ1, e3, ?_⟩
  show (itN w i ρ1).bind _ = _
  rw [e4]
  exact e2
theorem lcV_or {i : Nat} (ρ : En) : lcF vs (itV i) g Ft Fe ρ = lcF vs (itL (vr i)) g Ft Fe ρ ∨ lcF vs (itV i) g Ft Fe ρ = lcF vs (itN .keys i) g Ft Fe ρ := by
  have e : itV i ρ = itL (vr i) ρ ∨ itV i ρ = itN .keys i ρ := by
    unfold itV
    split
    · exact .inr rfl
    · exact .inr rfl
    · exact .inl rfl
  unfold lcF
  rcases e with e | e
  · exact .inl (by rw [e])
  · exact .inr (by rw [e])
theorem dc_go {it : Im} {H : Hp} (h : tE K (dcF vs it g Ft Fk Fe) σ H Q) : tDc (tI K it) (tGd K (kpv vs) g) (tTo K Ft) (tE K Fk) (tE K Fe) vs σ H Q := by
  obtain ⟨Z, ρ, fp, r, ρ', gd, e, k⟩ := h
  obtain ⟨⟨xs, ρ1⟩, e1, e⟩ := Option.bind_eq_some_iff.mp e
  by_cases ok : okW ρ1 vs = true
  · rw [if_pos ok] at e
    obtain ⟨⟨out, ρ2⟩, e2, e3⟩ := Option.map_eq_some_iff.mp e
    cases e3
    exact ⟨Z, ρ, fp, xs, ρ1, gd, e1, fun Z1 H1 fp1 J g1 P1 wk => dc_in g1 ok wk e2 (kt_next k P1)⟩
  · rw [if_neg ok] at e; cases e
theorem dcD_go {w : DI} {i : Nat} {Z H : Hp} {ρ ρ' : En} {fp : Nat → List Addr} {r : R} (gd : Good K Z H σ ρ fp) (e : dcF vs (itN w i) g Ft Fk Fe ρ = some (r, ρ')) (k : Kt K Z H fp σ ρ' r Q) (lk : Lkd K Z H σ ρ i) : tDc (iDI w (tVar i)) (tGd K (kpv vs) g) (tTo K Ft) (tE K Fk) (tE K Fe) vs σ H Q := by
  obtain ⟨⟨xs, ρ1⟩, e1, e⟩ := Option.bind_eq_some_iff.mp e
  by_cases ok : okW ρ1 vs = true
  · rw [if_pos ok] at e
    obtain ⟨⟨out, ρ2⟩, e2, e3⟩ := Option.map_eq_some_iff.mp e
    cases e3
    refine iDI_go gd lk e1 fun J er wk => ?_
    have er' : ρ1 = ρ := er
    subst er'
    exact dc_in gd ok wk e2 k
  · rw [if_neg ok] at e; cases e
theorem dcF_need {w : DI} {i : Nat} {ρ ρ' : En} {r : R} (e : dcF vs (itN w i) g Ft Fk Fe ρ = some (r, ρ')) : ∃ kds ρ1, frz ρ (.sl i) = some (.dic kds, ρ1) ∧ dcF vs (itN w i) g Ft Fk Fe ρ1 = some (r, ρ') := by
  obtain ⟨⟨xs, ρ1⟩, e1, e2⟩ := Option.bind_eq_some_iff.mp e
  obtain ⟨kds, e3, e4⟩ := itN_need e1
  refine ⟨kds, ρ1, e3, ?_⟩
  show (itN w i ρ1).bind _ = _
  rw [e4]
  exact e2
theorem dcV_or {i : Nat} (ρ : En) : dcF vs (itV i) g Ft Fk Fe ρ = dcF vs (itL (vr i)) g Ft Fk Fe ρ ∨ dcF vs (itV i) g Ft Fk Fe ρ = dcF vs (itN .keys i) g Ft Fk Fe ρ := by
  have e : itV i ρ = itL (vr i) ρ ∨ itV i ρ = itN .keys i ρ := by
    unfold itV
    split
    · exact .inr rfl
    · exact .inr rfl
    · exact .inl rfl
  unfold dcF
  rcases e with e | e
  · exact .inl (by rw [e])
  · exact .inr (by rw [e])
theorem set_kt {kp : Nat → Bool} {D : Ends} {Z H : Hp} {ρ ρ' : En} {fp : Nat → List Addr} {fl : Fl} {i : Nat} {F : Sm} (hk : kp i = false) (e : setF i F ρ = some (fl, ρ')) (k : Kf K Z H fp σ kp ρ' fl D) : ∃ r ρ1, F ρ = some (r, ρ1) ∧ Kt K Z H fp σ ρ1 r fun x H1 => gName i x σ H1 D.nx := by
  obtain ⟨⟨r, ρ1⟩, e1, e⟩ := Option.bind_eq_some_iff.mp e
  obtain ⟨⟨t, ρ2⟩, e2, e⟩ := Option.bind_eq_some_iff.mp e
  have e3 : (if i < ρ2.length then some (Fl.nx, ρ2.set i (some t)) else none) = some (fl, ρ') := e
  by_cases hl : i < ρ2.length
  · rw [if_pos hl] at e3
    cases e3
    refine ⟨r, ρ1, e1, fun Z' H' v fp' l g' R' n P => ?_⟩
    obtain ⟨Z2, fp2, m, g2, o2, a2, b2, P2⟩ := own_ok g' R' n e2
    exact (show Ke K Z H fp σ kp _ D.nx from k) Z2 H' _ _ (g2.put hl o2 fun p hp => .inr (a2 p hp)) (keepS.set hk) ((P.trans P2).weak fun p q => (E_put q).symm)
  · rw [if_neg hl] at e3; cases e3
end
section
variable {X : Cx} {elt kx vx tg iter : Expr} {ifs : List Expr} {scope : Scope} {own : List (Str × Nat)} {pos p : Pos} {g : Tg} {Ft : Option Sm} {Fe Fk : Sm} {it : Im} {kp : Nat → Bool}
abbrev InBlk (X : Cx) (scope : Scope) (P : Cx → Prop) : Prop := ∀ (s : Shared) (H : Hp) (C : Addr) (cl : List (Str × Addr)) (fp : List Addr), P (X.blk s H scope (compEnvC scope cl C X.env) fp)
theorem se_lc (hc : X.calm = true) (hN : X.N.Nodup) (hi : PI X tg iter (tI X.K it)) (ok : blkC X.N X.env.scope scope own = true)
    (hg : InBlk X scope fun Y => PG Y tg (tGd X.K (kpv (own.map (·.2))) g)) (ht : InBlk X scope fun Y => PTs Y ifs (tTo X.K Ft)) (he : InBlk X scope fun Y => PE Y elt (tE X.K Fe)) (hs : ∀ x, foldedSetIterable iter X.env x = pure x) :
    PE X (.ListComp elt [⟨tg, iter, ifs, 0⟩] scope pos) (tE X.K (lcF (own.map (·.2)) it g Ft Fe)) := pe_weak (pe_lc hc hN hi (blkOk_by ok) hg ht he hs) fun σ H Q h => lc_go h
theorem se_lcD {w : DI} {i : Nat} (hc : X.calm = true) (hN : X.N.Nodup) (hi : PI X tg iter (iDI w (tVar i))) (ok : blkC X.N X.env.scope scope own = true)
    (hg : InBlk X scope fun Y => PG Y tg (tGd X.K (kpv (own.map (·.2))) g)) (ht : InBlk X scope fun Y => PTs Y ifs (tTo X.K Ft)) (he : InBlk X scope fun Y => PE Y elt (tE X.K Fe)) (hs : ∀ x, foldedSetIterable iter X.env x = pure x) :
    PE X (.ListComp elt [⟨tg, iter, ifs, 0⟩] scope pos) (tE X.K (lcF (own.map (·.2)) (itN w i) g Ft Fe)) := se_lock (i := i) (pe_lc hc hN hi (blkOk_by ok) hg ht he hs) (fun ρ r ρ' e => lcF_need e) fun σ H Q Z ρ fp r ρ' gd e k lk => lcD_go gd e k lk
theorem se_lcV {x : Str} {i : Nat} (hc : X.calm = true) (hN : X.N.Nodup) (hv : PE X (.Name x p) (tVar i)) (ok : blkC X.N X.env.scope scope own = true)
    (hg : InBlk X scope fun Y => PG Y tg (tGd X.K (kpv (own.map (·.2))) g)) (ht : InBlk X scope fun Y => PTs Y ifs (tTo X.K Ft)) (he : InBlk X scope fun Y => PE Y elt (tE X.K Fe)) :
    PE X (.ListComp elt [⟨tg, .Name x p, ifs, 0⟩] scope pos) (tE X.K (lcF (own.map (·.2)) (itV i) g Ft Fe)) :=
  pe_two (se_lc hc hN (si_val (se_var hv)) ok hg ht he fun _ => rfl) (se_lcD (w := .keys) hc hN (pi_keys hv) ok hg ht he fun _ => rfl) lcV_or
theorem se_dc (hc : X.calm = true) (hN : X.N.Nodup) (hi : PI X tg iter (tI X.K it)) (ok : blkC X.N X.env.scope scope own = true)
    (hg : InBlk X scope fun Y => PG Y tg (tGd X.K (kpv (own.map (·.2))) g)) (ht : InBlk X scope fun Y => PTs Y ifs (tTo X.K Ft)) (hk : InBlk X scope fun Y => PE Y kx (tE X.K Fk)) (he : InBlk X scope fun Y => PE Y vx (tE X.K Fe)) (hs : ∀ x, foldedSetIterable iter X.env x = pure x) :
    PE X (.DictComp kx vx [⟨tg, iter, ifs, 0⟩] scope pos) (tE X.K (dcF (own.map (·.2)) it g Ft Fk Fe)) := pe_weak (pe_dc hc hN hi (blkOk_by ok) hg ht hk he hs) fun σ H Q h => dc_go h
theorem se_dcD {w : DI} {i : Nat} (hc : X.calm = true) (hN : X.N.Nodup) (hi : PI X tg iter (iDI w (tVar i))) (ok : blkC X.N X.env.scope scope own = true)
    (hg : InBlk X scope fun Y => PG Y tg (tGd X.K (kpv (own.map (·.2))) g)) (ht : InBlk X scope fun Y => PTs Y ifs (tTo X.K Ft)) (hk : InBlk X scope fun Y => PE Y kx (tE X.K Fk)) (he : InBlk X scope fun Y => PE Y vx (tE X.K Fe)) (hs : ∀ x, foldedSetIterable iter X.env x = pure x) :
    PE X (.DictComp kx vx [⟨tg, iter, ifs, 0⟩] scope pos) (tE X.K (dcF (own.map (·.2)) (itN w i) g Ft Fk Fe)) := se_lock (i := i) (pe_dc hc hN hi (blkOk_by ok) hg ht hk he hs) (fun ρ r ρ' e => dcF_need e) fun σ H Q Z ρ fp r ρ' gd e k lk => dcD_go gd e k lk
theorem se_dcV {x : Str} {i : Nat} (hc : X.calm = true) (hN : X.N.Nodup) (hv : PE X (.Name x p) (tVar i)) (ok : blkC X.N X.env.scope scope own = true)
    (hg : InBlk X scope fun Y => PG Y tg (tGd X.K (kpv (own.map (·.2))) g)) (ht : InBlk X scope fun Y => PTs Y ifs (tTo X.K Ft)) (hk : InBlk X scope fun Y => PE Y kx (tE X.K Fk)) (he : InBlk X scope fun Y => PE Y vx (tE X.K Fe)) :
    PE X (.DictComp kx vx [⟨tg, .Name x p, ifs, 0⟩] scope pos) (tE X.K (dcF (own.map (·.2)) (itV i) g Ft Fk Fe)) :=
  pe_two (se_dc hc hN (si_val (se_var hv)) ok hg ht hk he fun _ => rfl) (se_dcD (w := .keys) hc hN (pi_keys hv) ok hg ht hk he fun _ => rfl) dcV_or
/-! name = [..] -/
theorem ss_setLc {j : Nat} {y : Str} {py spos : Pos} (hc : X.calm = true) (hN : X.N.Nodup) (hy : X.N[j]? = some y) (hyl : X.env.scope.names.lookup y = some .local) (kj : kp j = false)
    (hsw : swapsWith (.ListComp elt [⟨tg, iter, ifs, 0⟩] scope pos) (some (.Name y py)) spos.line X.env = pure true) (hi : PI X tg iter (tI X.K it)) (ok : blkC X.N X.env.scope scope own = true)
    (hg : InBlk X scope fun Y => PG Y tg (tGd X.K (kpv (own.map (·.2))) g)) (ht : InBlk X scope fun Y => PTs Y ifs (tTo X.K Ft)) (he : InBlk X scope fun Y => PE Y elt (tE X.K Fe)) (hs : ∀ x, foldedSetIterable iter X.env x = pure x) :
    PS X (.Assign [.Name y py] (.ListComp elt [⟨tg, iter, ifs, 0⟩] scope pos) spos) (tS X.K kp (setF j (lcF (own.map (·.2)) it g Ft Fe))) :=
  ps_weak (ps_setLc hc hN hy hyl hsw hi (blkOk_by ok) hg ht he hs) fun D σ H h => lc_go (set_go kj h)
theorem ss_setLcD {w : DI} {i j : Nat} {y : Str} {py spos : Pos} (hc : X.calm = true) (hN : X.N.Nodup) (hy : X.N[j]? = some y) (hyl : X.env.scope.names.lookup y = some .local) (kj : kp j = false)
    (hsw : swapsWith (.ListComp elt [⟨tg, iter, ifs, 0⟩] scope pos) (some (.Name y py)) spos.line X.env = pure true) (hi : PI X tg iter (iDI w (tVar i))) (ok : blkC X.N X.env.scope scope own = true)
    (hg : InBlk X scope fun Y => PG Y tg (tGd X.K (kpv (own.map (·.2))) g)) (ht : InBlk X scope fun Y => PTs Y ifs (tTo X.K Ft)) (he : InBlk X scope fun Y => PE Y elt (tE X.K Fe)) (hs : ∀ x, foldedSetIterable iter X.env x = pure x) :
    PS X (.Assign [.Name y py] (.ListComp elt [⟨tg, iter, ifs, 0⟩] scope pos) spos) (tS X.K kp (setF j (lcF (own.map (·.2)) (itN w i) g Ft Fe))) := by
  refine ss_lock (i := i) (ps_setLc hc hN hy hyl hsw hi (blkOk_by ok) hg ht he hs) (fun ρ fl ρ' e => ?_) fun D σ H Z ρ fp fl ρ' gd e k lk => ?_
  · obtain ⟨⟨r, ρ1⟩, e1, e2⟩ := Option.bind_eq_some_iff.mp e
    obtain ⟨kds, ρ2, e3, e4⟩ := lcF_need e1
    refine ⟨kds, ρ2, e3, ?_⟩
    show (lcF _ _ _ _ _ ρ2).bind _ = _
    rw [e4]
    exact e2
  · obtain ⟨r, ρ1, e1, k1⟩ := set_kt kj e k
    exact lcD_go gd e1 k1 lk
theorem ss_setLcV {i j : Nat} {x y : Str} {py spos : Pos} (hc : X.calm = true) (hN : X.N.Nodup) (hy : X.N[j]? = some y) (hyl : X.env.scope.names.lookup y = some .local) (kj : kp j = false)
    (hsw : swapsWith (.ListComp elt [⟨tg, .Name x p, ifs, 0⟩] scope pos) (some (.Name y py)) spos.line X.env = pure true) (hv : PE X (.Name x p) (tVar i)) (ok : blkC X.N X.env.scope scope own = true)
    (hg : InBlk X scope fun Y => PG Y tg (tGd X.K (kpv (own.map (·.2))) g)) (ht : InBlk X scope fun Y => PTs Y ifs (tTo X.K Ft)) (he : InBlk X scope fun Y => PE Y elt (tE X.K Fe)) :
    PS X (.Assign [.Name y py] (.ListComp elt [⟨tg, .Name x p, ifs, 0⟩] scope pos) spos) (tS X.K kp (setF j (lcF (own.map (·.2)) (itV i) g Ft Fe))) :=
  ps_two (ss_setLc hc hN hy hyl kj hsw (si_val (se_var hv)) ok hg ht he fun _ => rfl) (ss_setLcD (w := .keys) hc hN hy hyl kj hsw (pi_keys hv) ok hg ht he fun _ => rfl) fun ρ => by
    unfold setF
    rcases lcV_or (vs := own.map (·.2)) (g := g) (Ft := Ft) (Fe := Fe) (i := i) ρ with e | e
    · exact .inl (by rw [e])
    · exact .inr (by rw [e])
end
end FL

set_option Elab.async false
set_option maxRecDepth 100000
set_option maxHeartbeats 2000000
namespace FL
open PySem PySem.Spec L2
open PyProof.Rows (IntsAre AllBare)

/-! ### a def by its body -/
def startE (N : Nat) (ts : List T) : En := ts.map some ++ List.replicate (N - ts.length) none
def outs (kp : Nat → Bool) (ρ : En) : Nat → Nat → List T
  | _, 0 => []
  | j, n + 1 => (if kp j = true then (ρ.getD j none).getD .mv else .mv) :: outs kp ρ (j + 1) n
def toR : T → R
  | .fz d => .fz d
  | t => .nw t
def defF (n N : Nat) (kp : Nat → Bool) (F : Ss) : Fn := fun ts => if ts.length = n then (F (startE N ts)).bind fun p => match p.1 with
  | .nx => some (.fz .non, outs kp p.2 0 n)
  | .rt r => (giv p.2 r).map fun q => (toR q.1, outs kp q.2 0 n)
  | _ => none
  else none
section
variable {K : PySem.W.Frag} {Z H Z' H' : Hp} {σ σ' : St} {ρ ρ' : En} {fp fp' : Nat → List Addr}
theorem toR_ok {v : V} {t : T} {l : List Addr} (h : OwnT K Z H v t l) : RN K Z H v (toR t) l := by
  cases t with
  | fz d => exact h
  | ow d => exact h
  | ob c fs => exact h
  | mv => exact h
  | tl _ _ => exact h
  | ls _ => exact h
  | dd _ => exact h
theorem getD_app {α : Type} {l : List (Option α)} {n j : Nat} : (l ++ List.replicate n none).getD j none = l.getD j none := by
  rw [List.getD_eq_getElem?_getD, List.getD_eq_getElem?_getD]
  by_cases h : j < l.length
  · rw [List.getElem?_append_left h]
  · rw [List.getElem?_append_right (by omega), List.getElem?_eq_none (l := l) (by omega)]
    by_cases h2 : j - l.length < n
    · rw [List.getElem?_replicate, if_pos h2]; rfl
    · rw [List.getElem?_eq_none (by simpa using h2)]
theorem own_fp : ∀ {vs : List V} {ts : List T} {l : List Addr}, OwnL K Z H vs ts l → ∃ fp : Nat → List Addr, (∀ i, SlotOk K Z H ((vs.map some).getD i none) ((ts.map some).getD i none) (fp i)) ∧ (∀ i j p, p ∈ fp i → p ∈ fp j → i = j) ∧ ∀ p, E fp p ↔ p ∈ l
  | _, _, _, .nil => ⟨fun _ => [], fun i => by simp [SlotOk], fun i j p h => by simp at h, fun p => ⟨fun ⟨i, h⟩ => by simp at h, fun h => by simp at h⟩⟩
  | _, _, _, .cons (v := v) (t := t) (l := l) (ls := ls) h r n => by
    obtain ⟨fp, h1, h2, h3⟩ := own_fp r
    refine ⟨fun i => match i with
      | 0 => l
      | i + 1 => fp i, fun i => ?_, fun i j p hi hj => ?_, fun p => ⟨fun ⟨i, hi⟩ => ?_, fun hp => ?_⟩⟩
    · cases i with
      | zero => exact h
      | succ i => simpa using h1 i
    · cases i with
      | zero =>
        cases j with
        | zero => rfl
        | succ j => exact absurd ((h3 p).mp ⟨j, hj⟩) (n p hi)
      | succ i =>
        cases j with
        | zero => exact absurd ((h3 p).mp ⟨i, hi⟩) (n p hj)
        | succ j => rw [h2 i j p hi hj]
    · cases i with
      | zero => exact List.mem_append_left _ hi
      | succ i => exact List.mem_append_right _ ((h3 p).mp ⟨i, hi⟩)
    · rcases List.mem_append.mp hp with q | q
      · exact ⟨0, q⟩
      · obtain ⟨i, hi⟩ := (h3 p).mpr q
        exact ⟨i + 1, hi⟩
theorem outs_ok {kp : Nat → Bool} (g : Good K Z H σ ρ fp) : ∀ (zs : List V) (off : Nat), (∀ i, i < zs.length → kp (off + i) = true → σ.getD (off + i) none = zs[i]?) → ∃ l, OwnL K Z H zs (outs kp ρ off zs.length) l ∧ ∀ p ∈ l, ∃ j, off ≤ j ∧ p ∈ fp j
  | [], off, h => ⟨[], .nil, fun p hp => by cases hp⟩
  | z :: zs, off, h => by
    obtain ⟨l, h1, h2⟩ := outs_ok g zs (off + 1) fun i hi hk => by
      have := h (i + 1) (by simpa using hi) (by rw [show off + (i + 1) = off + 1 + i by omega]; exact hk)
      rw [show off + 1 + i = off + (i + 1) by omega, this]
      rfl
    by_cases hk : kp off = true
    · have h0 := h 0 (by simp) hk
      have h0' : σ.getD off none = some z := h0
      have sl := g.slot off
      rw [h0'] at sl
      cases e : ρ.getD off none with
      | none => rw [e] at sl; exact sl.elim
      | some t =>
        rw [e] at sl
        have eo : outs kp ρ off (zs.length + 1) = t :: outs kp ρ (off + 1) zs.length := by
          show (if kp off = true then (ρ.getD off none).getD .mv else .mv) :: _ = _
          rw [if_pos hk, e]
          rfl
        refine ⟨fp off ++ l, ?_, fun p hp => (List.mem_append.mp hp).elim (fun q => ⟨off, Nat.le_refl _, q⟩) fun q => ?_⟩
        · show OwnL K Z H (z :: zs) (outs kp ρ off (zs.length + 1)) _
          rw [eo]
          refine .cons sl h1 fun p hp q => ?_
          obtain ⟨j, hj, hq⟩ := h2 p q
          have := g.disj off j p hp hq
          omega
        · obtain ⟨j, hj, hq⟩ := h2 p q
          exact ⟨j, by omega, hq⟩
    · have eo : outs kp ρ off (zs.length + 1) = .mv :: outs kp ρ (off + 1) zs.length := by
        show (if kp off = true then (ρ.getD off none).getD .mv else .mv) :: _ = _
        rw [if_neg hk]
      refine ⟨[] ++ l, ?_, fun p hp => ?_⟩
      · show OwnL K Z H (z :: zs) (outs kp ρ off (zs.length + 1)) _
        rw [eo]
        exact .cons (t := .mv) rfl h1 fun p hp => by cases hp
      · obtain ⟨j, hj, hq⟩ := h2 p (by simpa using hp)
        exact ⟨j, by omega, hq⟩
end
theorem start_getD {N : List Str} {zs : List V} {j : Nat} : (start N zs).getD j none = (zs.map some).getD j none := by
  unfold L2.start
  exact getD_app
theorem def_go {K : PySem.W.Frag} {n : Nat} {N : List Str} {kp : Nat → Bool} {F : Ss} {zs : List V} {J : Hp} {G : VK} (hn : n ≤ N.length) (h : spOf K (defF n N.length kp F) zs J G E0) : tS K kp F { nx := fun _ J' => G .non J', rt := G } (start N zs) J := by
  obtain ⟨Z, ts, l, r, ts', sb, tz, ow, e, k⟩ := h
  have e0 : (if ts.length = n then (F (startE N.length ts)).bind fun p => match p.1 with
    | .nx => some (R.fz .non, outs kp p.2 0 n)
    | .rt r => (giv p.2 r).map fun q => (toR q.1, outs kp q.2 0 n)
    | _ => none
    else none) = some (r, ts') := e
  by_cases hts : ts.length = n
  · rw [if_pos hts] at e0
    obtain ⟨⟨fl, ρ'⟩, e1, e2⟩ := Option.bind_eq_some_iff.mp e0
    obtain ⟨fp, s1, s2, s3⟩ := own_fp ow
    have hz : zs.length = n := by rw [ow.length]; exact hts
    have g : Good K Z J (start N zs) (startE N.length ts) fp := by
      refine ⟨?_, sb, fun i => ?_, s2, tz⟩
      · unfold L2.start startE
        rw [List.length_append, List.length_append, List.length_map, List.length_map, List.length_replicate, List.length_replicate, hz, hts]
      · rw [start_getD]
        unfold startE
        rw [getD_app]
        exact s1 i
    have fin : ∀ {Z' H' : Hp} {σ' : St} {ρ2 : En} {fp' : Nat → List Addr}, Good K Z' H' σ' ρ2 fp' → keepS kp (start N zs) σ' → ∃ l', OwnL K Z' H' zs (outs kp ρ2 0 n) l' ∧ ∀ p ∈ l', E fp' p := fun {Z' H' σ' ρ2 fp'} g' k' => by
      obtain ⟨l', h1, h2⟩ := outs_ok (kp := kp) g' zs 0 fun i hi hk => by
        rw [Nat.zero_add] at hk ⊢
        rw [k'.2 i hk, start_getD, List.getD_eq_getElem?_getD, List.getElem?_map, List.getElem?_eq_getElem hi]
        rfl
      rw [hz] at h1
      exact ⟨l', h1, fun p hp => by obtain ⟨j, _, hq⟩ := h2 p hp; exact ⟨j, hq⟩⟩
    refine ⟨Z, _, fp, fl, ρ', g, e1, ?_⟩
    cases fl with
    | nx =>
      cases e2
      intro Z' H' σ' fp' g' k' P'
      obtain ⟨l', h1, h2⟩ := fin g' k'
      refine k Z' H' .non [] l' g'.sub g'.tz.no ⟨.non, rfl⟩ h1 (fun p hp => by cases hp) (P'.wide (fun p q => (s3 p).mp q) fun p q => ?_)
      exact q.elim (fun z => .inl (h2 p z)) fun z => by cases z
    | rt r0 =>
      obtain ⟨⟨t, ρ2⟩, e3, e4⟩ := Option.map_eq_some_iff.mp e2
      cases e4
      intro Z' H' σ' v fp' lr g' k' R' n' P'
      obtain ⟨fp2, m, g2, o2, a2, b2, c2⟩ := giv_ok g' R' n' e3
      obtain ⟨l', h1, h2⟩ := fin g2 k'
      refine k Z' H' v m l' g2.sub g2.tz.no (toR_ok o2) h1 (fun p hp z => a2 p hp (h2 p z)) (P'.wide (fun p q => (s3 p).mp q) fun p q => ?_)
      rcases q with q | q
      · exact .inl (.inl (b2 p (h2 p q)))
      · exact .inl (c2 p q)
    | bk => cases e2
    | ct => cases e2
  · rw [if_neg hts] at e0; cases e0
theorem g_def {P : Program} {w : World} {K : PySem.W.Frag} {mg : Str → Option Value} {base : Heap} {x qual : Str} {params : Arguments} {body : List Stmt} {scope : Scope} {dvs : List V} {kws : List (Str × V)} {f : Addr} {fd : FuncData} {N ps : List Str} {k : Nat} {kp : Nat → Bool} {Fb : Ss}
    (F : FunD K x qual params body scope dvs kws f fd) (S : FnScope N ps scope)
    (hb : ∀ (cdv : Value) (B : Around) (below : List Env) (s : Shared) (J : Hp), Room k (B.deeper (PyProof.Rows.envOfC qual scope s.heap.objs.size f cdv)) → B.guards = some [] → PSs (cxOf CX0 P w K mg base N qual scope f cdv B below s J E0).nox body (tS K kp Fb)) :
    FnG P w K mg base (k + 1) f fd ps (spOf K (defF ps.length N.length kp Fb)) := by
  obtain ⟨oc, od, dV, kV, doc, pm, an, cdv, ct, osl, rfl, lk, hcd, _, _⟩ := F.ex
  have hle : ps.length ≤ N.length := by have := congrArg List.length S.pre; rw [List.length_take] at this; omega
  refine g_of lk hcd S (fun zs J G h => ?_) fun B below s J zs G hr hg h => ⟨_, PSs.nox (hb cdv B below s J hr hg), def_go hle h⟩
  obtain ⟨Z, ts, l, r, ts', sb, _, ow, e, _⟩ := h
  rw [ow.length]
  have e0 : (if ts.length = ps.length then (Fb (startE N.length ts)).bind fun p => match p.1 with
    | .nx => some (R.fz .non, outs kp p.2 0 ps.length)
    | .rt r => (giv p.2 r).map fun q => (toR q.1, outs kp q.2 0 ps.length)
    | _ => none
    else none) = some (r, ts') := e
  by_cases hts : ts.length = ps.length
  · exact hts
  · rw [if_neg hts] at e0; cases e0
theorem FnG.more {P : Program} {w : World} {K : PySem.W.Frag} {mg : Str → Option Value} {base : Heap} {j k : Nat} {f : Addr} {fd : FuncData} {ps : List Str} {sp : Sp} (F : FnG P w K mg base j f fd ps sp) (h : j ≤ k) : FnG P w K mg base k f fd ps sp :=
  ⟨F.many, fun B below s J ar us zs G hr => F.does B below s J ar us zs G (hr.mono h)⟩

/-! ### the law -/
def fnLaw (fn : Fn) (ns : List Int) : Prop := ∃ ts', fn [.fz (.lst (ns.map .int))] = some (.fz (.bl true), ts')
theorem ints_repL {K : PySem.W.Frag} {Z : Hp} : ∀ ns : List Int, RepL K Z (ns.map V.int) (ns.map D.int)
  | [] => .nil
  | n :: ns => .cons (.int n) (ints_repL ns)
theorem law_sp {K : PySem.W.Frag} {fn : Fn} {ns : List Int} {H : Hp} {a : Addr} (h : fnLaw fn ns) (tz : LamX.TabS H (He.cT K lamD).2 lamQ) (hS : SqL K H a (ns.map V.int)) : spOf K fn [.ref a] H (fun v _ => v = .bl true) E0 := by
  obtain ⟨ts', e⟩ := h
  have fin : ∀ Z : Hp, Sub Z H → NoT Z → SqL K Z a (ns.map V.int) → spOf K fn [.ref a] H (fun v _ => v = .bl true) E0 := fun Z sb nz hz => by
    refine ⟨Z, _, [] ++ [], _, _, sb, ⟨tz, nz⟩, .cons (t := .fz _) ⟨.lst hz (ints_repL ns), rfl⟩ .nil (fun p hp => by cases hp), e, fun Z' H' v lr l' s' _ rn _ _ _ => ?_⟩
    obtain ⟨h1, _⟩ := (show Rep K Z' v (.bl true) ∧ lr = [] from rn)
    cases h1
    rfl
  rcases hS with hR | hC
  · refine fin (fun b => if b = a then some (.lst (ns.map V.int)) else none) (fun b u hb => ?_) (fun b us hb => ?_) (.inl (.inl (if_pos rfl)))
    rotate_left
    · by_cases e : b = a
      · have e2 := (if_pos e).symm.trans hb
        cases e2
      · have e2 := (if_neg e).symm.trans hb
        cases e2
    by_cases e : b = a
    · subst e
      have e2 := (if_pos rfl).symm.trans hb
      cases e2
      rcases hR with q | ⟨o, q⟩
      · exact .inl q
      · exact .inr ⟨⟨o, q⟩, True.intro⟩
    · have e2 := (if_neg e).symm.trans hb
      cases e2
  · exact fin (fun _ => none) (fun b u hb => by cases hb) (fun b us hb => by cases hb) (.inr hC)
/-- the call of the law: nothing else is tracked than the one table and, perhaps, the script -/
theorem g_lawT {P : Program} {w : World} {K : PySem.W.Frag} {mg mb : Str → Option Value} {k : Nat} {fa a c tb : Addr} {fd : FuncData} {x : Str} {sp : Sp} {s₁ : Shared} {vs : List Value} {ns : List Int}
    (hIn : K.In s₁.heap) (hmod : s₁.heap.Ns mainGlobals mg) (hblt : s₁.heap.Ns builtinsNs mb) (hbb : ∀ x : Str, x ≠ "__name__" → mb x = bootBuiltins x) (hno : s₁.heap.NoLimit) (hgen : s₁.gens = #[])
    (hT : s₁.heap.get? tb = some { cls := .none, data := .fields #[] }) (nT : K.lookup tb = none) (hC : PySem.W.CodeHd s₁.heap c tb)
    (hbm : ∃ (bm : Addr) (ob : Obj), mg "__builtins__" = some (.ref bm) ∧ bm ≠ builtinsNs ∧ s₁.heap.get? bm = some ob ∧ ob.cls = .type "module" ∧ ob.dict = some builtinsNs ∧ ob.data = .plain)
    (ha : s₁.heap.get? a = some { cls := .type "list", data := .seq vs.toArray }) (hi : IntsAre vs ns) (hl : ns.length ≤ sizeLine) (hr : Room k callerA)
    (F : ∀ base : Heap, K.In base → base.Ns mainGlobals mg → LamX.TabB base mg c tb → FnG P w K mg base k fa fd [x] sp) (hbind : ∀ (s : Shared) (u : Value), BindsTo s fd ⟨[u], []⟩ [(x, u)])
    (hsp : ∀ H : Hp, H tb = some (.tbl #[]) → SqL K H a (ns.map V.int) → sp [.ref a] H (fun v _ => v = .bl true) E0) :
    codeAny (model P w) callerA (.call (.ref fa) ⟨[.ref a], []⟩) (fun r s' => r = .ok (.ret (.bool true)) ∧ OldK s₁.heap s'.heap ∧ s'.os = s₁.os ∧ AllBare s'.gens) s₁ := by
  have hlv := hi.length
  have nat : a ≠ tb := fun z => by
    rw [z, hT] at ha
    cases ha
  have walk : ∀ J : Hp, J tb = some (.tbl #[]) → (∀ b, J b ≠ none → b = tb ∨ (b = a ∧ ∃ o, J b = some (.frz o (.lst (ns.map V.int))))) → SqL K J a (ns.map V.int) → HOk P w J s₁.heap → (J a ≠ none → K.lookup a = none) →
      codeAny (model P w) callerA (.call (.ref fa) ⟨[.ref a], []⟩) (fun r s' => r = .ok (.ret (.bool true)) ∧ OldK s₁.heap s'.heap ∧ s'.os = s₁.os ∧ AllBare s'.gens) s₁ := by
    intro J hJ hA hS hok hK
    have seen : ∀ {b : Addr} {o : Obj}, s₁.heap.get? b = some o → J b = none → (hidT s₁.heap J).get? b = some o := fun e n => hidT_get e n
    have free : ∀ {b : Addr} {o : Obj}, s₁.heap.get? b = some o → o ≠ { cls := .none, data := .fields #[] } → (∀ l, o ≠ { cls := .type "list", data := .seq l }) → J b = none := by
      intro b o e n1 n2
      cases q : J b with
      | none => rfl
      | some u =>
        rcases hA b (by rw [q]; simp) with z | ⟨z, _⟩
        · rw [z, hT] at e; cases e; exact absurd rfl n1
        · rw [z, ha] at e; cases e; exact absurd rfl (n2 _)
    have space : ∀ {b : Addr} {m : Str → Option Value}, s₁.heap.Ns b m → (hidT s₁.heap J).Ns b m := by
      rintro b m ⟨o, es, ep, e, d, r⟩
      refine ⟨o, es, ep, seen e (free e (fun z => ?_) fun l z => ?_), d, r⟩
      · rw [z] at d; cases d
      · rw [z] at d; cases d
    have hKb : K.In (hidT s₁.heap J) := by
      intro b o e
      refine seen (hIn b o e) ?_
      cases q : J b with
      | none => rfl
      | some u =>
        rcases hA b (by rw [q]; simp) with z | ⟨z, _⟩
        · rw [z, nT] at e; cases e
        · rw [z] at e q; rw [hK (by rw [q]; simp)] at e; cases e
    have hM : Mod K mg (hidT s₁.heap J) := ⟨hKb, space hmod, ⟨mb, space hblt, hbb⟩, by obtain ⟨mc, h1, h2⟩ := hno; exact ⟨mc, space h1, h2⟩⟩
    have hg : mainGlobals ≠ tb := fun z => by
      obtain ⟨o, es, ep, e, d, _⟩ := hmod
      rw [z, hT] at e; cases e; cases d
    have B : LamX.TabB (hidT s₁.heap J) mg c tb := by
      refine ⟨?_, ?_, hg⟩
      · obtain ⟨o, us, file, tf, flags, tg, inF, text, tt, e1, r1, r2, r3, rest⟩ := hC
        refine ⟨o, us, file, tf, flags, tg, inF, text, tt, seen e1 (free e1 (fun z => ?_) fun l z => ?_), r1, r2, r3, rest⟩
        · rw [z] at r1; cases r1
        · rw [z] at r2; cases r2
      · obtain ⟨bm, ob, b1, b2, b3, b4, b5, b6⟩ := hbm
        refine ⟨bm, ob, b1, b2, fun z => ?_, fun z => ?_, seen b3 (free b3 (fun z => ?_) fun l z => ?_), b4, b5, b6⟩
        · obtain ⟨o, es, ep, e, d, _⟩ := hmod
          rw [z, e] at b3; cases b3; rw [d] at b6; cases b6
        · rw [z, hT] at b3; cases b3; cases b6
        · rw [z] at b6; cases b6
        · rw [z] at b6; cases b6
    have e0 : Env0 P w K mg (hidT s₁.heap J) callerA [] s₁ J := ⟨rfl, hM, fun b o e => of_hidT e, Nat.le_of_eq (hidT_size _ _), trivial, fun b hb => absurd (show b ∈ ([] : List Addr) from hb) (by simp), hok, .of_eq hgen⟩
    have run := (F _ hKb (space hmod) B).does callerA [] s₁ J ⟨[.ref a], []⟩ [.ref a] [.ref a] _ hr rfl e0 (hbind s₁ (.ref a)) (.cons rfl .nil) (hsp J hJ hS)
    refine codeAny_mono run ?_
    intro r s' h
    cases r with
    | error e => exact (show False from h).elim
    | ok fl =>
      cases fl with
      | next => exact (show False from h).elim
      | brk => exact (show False from h).elim
      | cont => exact (show False from h).elim
      | ret u =>
        obtain ⟨v, J', os, bare, un, hok', rv, q⟩ := h
        have eq : v = .bl true := q
        subst eq
        have eu : u = Value.bool true := rv
        subst eu
        have others : ∀ b o, b ≠ tb → s₁.heap.get? b = some o → s'.heap.get? b = some o := by
          intro b o nb e
          cases q : J b with
          | none => exact un.keep b o e q (fun z => absurd (show b ∈ ([] : List Addr) from z) (by simp)) (by simp)
          | some u =>
            rcases hA b (by rw [q]; simp) with z | ⟨_, ob, z⟩
            · exact absurd z nb
            · obtain ⟨e1, _⟩ := hok b _ z
              obtain ⟨e2, _⟩ := hok' b _ (un.frzs b ob _ z)
              rw [e] at e1; cases e1
              exact e2
        obtain ⟨more, hmore⟩ := un.tbls tb #[] hJ
        have now : s'.heap.get? tb = some { cls := .none, data := .fields (#[] ++ more) } := hok' tb _ hmore
        refine ⟨rfl, ⟨fun b o e => ?_, fun b o e => ?_⟩, os, bare⟩
        · by_cases hb : b = tb
          · rw [hb] at e ⊢
            rw [hT] at e; cases e
            exact .inr (.inl ⟨(hC.tab hT).isCodeTable, rfl, #[], more, rfl, now⟩)
          · exact .inl (others b o hb e)
        · by_cases hb : b = tb
          · rw [hb]; exact ⟨_, now⟩
          · exact ⟨o, others b o hb e⟩
  cases hk : K.lookup a with
  | some o =>
    have e := hIn a o hk
    rw [ha] at e
    cases e
    refine walk (fun b => if b = tb then some (.tbl #[]) else none) (if_pos rfl) (fun b z => ?_) (.inr ⟨_, vs.toArray, _, hk, rfl, rfl, rfl, ?_, ?_⟩) (fun b u z => ?_) fun z => absurd (if_neg nat) z
    · by_cases hb : b = tb
      · exact .inl hb
      · exact absurd (if_neg hb) z
    · rw [List.size_toArray, hlv]; exact hl
    · simpa using vals_ints hi
    · by_cases hb : b = tb
      · have z' := (if_pos hb).symm.trans z
        cases z'
        rw [hb]; exact hT
      · have z' := (if_neg hb).symm.trans z
        cases z'
  | none =>
    refine walk (fun b => if b = tb then some (.tbl #[]) else if b = a then some (.frz { cls := .type "list", data := .seq vs.toArray } (.lst (ns.map V.int))) else none) (if_pos rfl) (fun b z => ?_) (.inl (.inr ⟨{ cls := .type "list", data := .seq vs.toArray }, (if_neg nat).trans (if_pos rfl)⟩)) (fun b u z => ?_) fun _ => hk
    · by_cases hb : b = tb
      · exact .inl hb
      · by_cases hb2 : b = a
        · exact .inr ⟨hb2, _, (if_neg hb).trans (if_pos hb2)⟩
        · exact absurd ((if_neg hb).trans (if_neg hb2)) z
    · by_cases hb : b = tb
      · have z' := (if_pos hb).symm.trans z
        cases z'
        rw [hb]; exact hT
      · by_cases hb2 : b = a
        · have z' := ((if_neg hb).trans (if_pos hb2)).symm.trans z
          cases z'
          subst hb2
          exact ⟨ha, by rw [List.length_map]; exact hl, vs, _, vals_ints hi, ha⟩
        · have z' := ((if_neg hb).trans (if_neg hb2)).symm.trans z
          cases z'
/-- what the head must tell of the law's promise -/
structure LawG (l : PySem.W.OpenLaw) (w : World) (K : PySem.W.Frag) (k n : Nat) (x : Str) (mg : Str → Option Value) (fa : Addr) (h : Heap) (fd : FuncData) (fn : Fn) : Prop where
  inn : K.In h
  tab : h.get? (He.cT K lamD).2 = some { cls := .none, data := .fields #[] }
  out : K.lookup (He.cT K lamD).2 = none
  cod : PySem.W.CodeHd h (He.cT K lamD).1 (He.cT K lamD).2
  bnd : ∀ (s : Shared) (u : Value), BindsTo s fd ⟨[u], []⟩ [(x, u)]
  tru : ∀ ns : List Int, ns.length ≤ n → (∀ k ∈ ns, Builtin.Int.intBits k ≤ 1048576) → fnLaw fn ns
  ok : ∀ base : Heap, K.In base → base.Ns mainGlobals mg → LamX.TabB base mg (He.cT K lamD).1 (He.cT K lamD).2 → FnG l.prog w K mg base k fa fd [x] (spOf K fn)
theorem walk_gT {l : PySem.W.OpenLaw} {n k : Nat} {q : Program} {loose : List Str} {XP : (Str → Option Value) → Heap → Prop} {YP : World → Heap → Prop} {d : DefRec} {x : Str}
    (hn : l.most = some n) (hn2 : n ≤ sizeLine) (hdf : d.params.defaults = []) (hr : Room k callerA)
    (F : ∀ (w : World) (mg : Str → Option Value) (fa : Addr) (h : Heap), YP w h → h.Ns mainGlobals mg → mg d.name = some (.ref fa) →
      ∃ (K : PySem.W.Frag) (fd : FuncData) (fn : Fn), LawG l w K k n x mg fa h fd fn) :
    PySem.W.WalkO q loose XP YP l.row.toRowW d [] (fun f vs => PySem.call f vs) := by
  refine Att.attach_callB hn hdf ?_
  intro w s₀ s₁ mg mb fa o pm cd doc a vs ns G Y ho hd hcd hmg hobj hints hlen hbits hg
  obtain ⟨K, fd, fn, L⟩ := F w mg fa _ Y G.T.g hmg
  exact g_lawT L.inn G.T.g G.T.b G.T.builtins G.T.nolimit hg L.tab L.out L.cod G.T.bmain hobj hints (Nat.le_trans hlen hn2) hr L.ok L.bnd fun H hT hS => law_sp (L.tru ns hlen hbits) (LamX.TabS.nil hT) hS
end FL

set_option Elab.async false
set_option maxRecDepth 100000
set_option maxHeartbeats 2000000
namespace FL
open PySem PySem.Spec L2
open PyProof.Rows (IntsAre AllBare seqObj)

/-! ### the values of a dict, in a row -/
/-- a row of the values of the dict at d stands at r -/
def ValsAt (X : Cx) (pins : List (Addr × Obj)) (σ : L2.St) (H : Hp) (d : Addr) (kvs : List (Key × V)) (r : Addr) (s : Shared) : Prop :=
  Inv X pins σ H s ∧ ∃ es ep, (s.heap.IsValuesView r d ∧ s.heap.DictRaw d es ep) ∧ es.size = kvs.length ∧ ∀ (i : Nat) (hi : i < es.size) (q : Key × V), kvs[i]? = some q → RelV q.2 es[i].val
theorem vals_view {X : Cx} {e : Expr} {te : TE} {apos cpos : Pos} (he : PE X e te) (hbase : attributeBase e "values" X.env (eval e X.env) = eval e X.env) (hline : (apos.endLine == cpos.line) = true) {pins : List (Addr × Obj)} {s : Shared} {σ : L2.St} {H : Hp} {R : Addr → List (Key × V) → Hp → Prop} (I : Inv X pins σ H s)
    (h : te σ H fun x H1 => ∃ d kvs, x = .ref d ∧ Rd H1 d (.dK kvs) ∧ R d kvs H1) :
    wpAny (model X.prog X.w) X.A (eval (.Call (.Attribute e "values" apos) [] [] cpos) X.env) (fun u s' => ∃ d kvs H1 r, u = .ref r ∧ kvs.length ≤ sizeLine ∧ ValsAt X pins σ H1 d kvs r s' ∧ R d kvs H1) X.xe s := by
  refine wpAny_Call_method (T := "dict") (id := "dict.values") hbase rfl hline PySem.F.plainAttrs_dict PySem.F.slot_dict_values PySem.F.type_dict_values (thn (he.run pins s σ H _ I h) ?_)
  rintro u s1 ⟨x, H1, I1, rx, d, kvs, rfl, hd, q⟩
  have eu : u = Value.ref d := rx
  subst eu
  obtain ⟨z, hs, vs, kv, hdo⟩ := dk_rd I1.hok hd
  have hl : kvs.length = vs.length := Paired.length kv
  refine ⟨hdo.typeIs, hdo.mapOf.noDict, ?_⟩
  have I2 : Inv X pins σ H1 { s1 with heap := s1.heap.push { cls := .type "dict_values", data := .fields #[.ref d] } } := I1.kept (t' := s1.toks) fun b ob q => Heap.get?_push_of_some _ q
  show wpAny _ _ (callWith cpos (.builtin "dict.values") [.ref d] [] []) _ X.xe s1
  refine method_meetsIn PySem.F.slot_dict_values PySem.F.entry_dict_values rfl (PySem.evalArgs_none ⟨rfl, hdo.typeIs, PySem.F.args_dict_values_1 _, _, meets_dict_values (mixKind X.prog X.w) d hs, ⟨vs, hdo⟩, ?_⟩)
  obtain ⟨es, ep, raw, hsz, hat⟩ := hdo.raw
  refine ⟨d, kvs, H1, s1.heap.objs.size, rfl, z, ⟨I2, es, ep, ⟨⟨_, Heap.get?_push_size _ rfl, rfl, rfl⟩, raw.at fun o e => Heap.get?_push_of_some _ e⟩, by rw [hsz, hl], fun i hi q hq => ?_⟩, q⟩
  obtain ⟨w, hw, h1, h2⟩ := paired_get kv hq
  obtain ⟨_, h3⟩ := hat i hi w.1 w.2 hw
  rw [h3]
  exact h2
theorem vals_items {es : Array DictEntry} {kvs : List (Key × V)} {acc : Array Value} (hsz : es.size = kvs.length) (h : ∀ (i : Nat) (hi : i < es.size) (q : Key × V), kvs[i]? = some q → RelV q.2 es[i].val) (ha : ItemsOf (fun i v => ∃ hi : i < es.size, v = es[i].val) acc es.size) : Vals (kvs.map (·.2)) acc.toList := by
  have key : ∀ (us : List Value) (ks : List (Key × V)), us.length = ks.length → (∀ (j : Nat) (u : Value) (q : Key × V), us[j]? = some u → ks[j]? = some q → RelV q.2 u) → Vals (ks.map (·.2)) us := by
    intro us
    induction us with
    | nil =>
      intro ks hl _
      cases ks with
      | nil => exact .nil
      | cons _ _ => cases hl
    | cons u us ih =>
      intro ks hl hh
      cases ks with
      | nil => cases hl
      | cons q ks => exact .cons (hh 0 u q rfl rfl) (ih ks (by simpa using hl) fun j v p e1 e2 => hh (j + 1) v p (by simpa using e1) (by simpa using e2))
  refine key _ _ (by rw [Array.length_toList, ha.1, hsz]) fun j u q e1 e2 => ?_
  obtain ⟨hi, rfl⟩ := ha.2 j u (by rw [← Array.getElem?_toList]; exact e1)
  exact h j hi q e2
section
variable {X : Cx} {e : Expr} {te : TE} {p apos cpos pos : Pos} {F : Sm}
def tListVals (te : TE) : TE := fun σ H Q => te σ H fun x H1 => ∃ d kvs, x = .ref d ∧ Rd H1 d (.dK kvs) ∧ ∀ q, H1 q = none → kvs.length ≤ sizeLine → Q (.ref q) (upd H1 q (.lst (kvs.map (·.2))))
theorem pe_listVals (hc : X.calm = true) (he : PE X e te) (hg : Gl X "list") (hm : X.mg "list" = none) (hbase : attributeBase e "values" X.env (eval e X.env) = eval e X.env) (hline : (apos.endLine == cpos.line) = true) :
    PE X (.Call (.Name "list" p) [.Call (.Attribute e "values" apos) [] [] cpos] [] pos) (tListVals te) := by
  constructor
  intro pins s σ H Q I hq
  refine wpAny_Call_Name_kw (ld_blt I hg hm PyProof.Rows.boot_list ?_)
  refine PyProof.Rows.callWith_type1 ?_ (star_ok rfl) rfl
  rw [star_ok rfl]
  show wpAny _ _ (spliced ((false, eval (.Call (.Attribute e "values" apos) [] [] cpos) X.env) :: backTo pos (starEach [] X.env))) _ _ s
  refine Calls.spliced_cons (thn (vals_view he hbase hline I hq) ?_)
  rintro u s1 ⟨d, kvs, H1, r, rfl, z, ⟨I1, es, ep, hv, hsz, hat⟩, q⟩
  refine Calls.spliced_nil ?_
  refine PySem.W.kdl_call (PySem.KdlSrc.rawValues (es := es) (ep := ep)) (I1.ok.hd hc) hv (by rw [hsz]; exact z) fun h' tk acc c hk hS hacc => ?_
  have hn := I1.hok.fresh (Nat.le_refl s1.heap.objs.size)
  refine ⟨.ref s1.heap.objs.size, _, I1.laid (t' := tk) hk (Nat.le_refl _) (show ObjOk X.prog X.w _ _ _ (.lst (kvs.map (·.2))) from ⟨by rw [List.length_map]; exact z, acc.toList, c, vals_items hsz hat hacc, by rw [Array.toArray_toList]; exact hS⟩), rfl, q _ hn z⟩
def tSortVals (te : TE) : TE := fun σ H Q => te σ H fun x H1 => ∃ d kvs, x = .ref d ∧ Rd H1 d (.dK kvs) ∧ ∃ ks : List Int, kvs.map (·.2) = ks.map V.int ∧ ks.length < 64 ∧ ∀ (ys : List Int) (q : Addr), ys.Perm ks → ys.Pairwise (· ≤ ·) → H1 q = none → Q (.ref q) (upd H1 q (.lst (ys.map V.int)))
theorem vals_intsAre : ∀ {ks : List Int} {us : List Value}, Vals (ks.map V.int) us → IntsAre us ks
  | [], _, .nil => .nil
  | k :: ks, _, .cons r t => by
    obtain ⟨tk, rfl⟩ := r
    exact .cons k tk (vals_intsAre t)
theorem pe_sortVals (hc : X.calm = true) (he : PE X e te) (hg : Gl X "sorted") (hm : X.mg "sorted" = none) (hbase : attributeBase e "values" X.env (eval e X.env) = eval e X.env) (hline : (apos.endLine == cpos.line) = true) :
    PE X (.Call (.Name "sorted" p) [.Call (.Attribute e "values" apos) [] [] cpos] [] pos) (tSortVals te) := by
  constructor
  intro pins s σ H Q I hq
  refine wpAny_Call_Name_kw (ld_blt I hg hm PyProof.Rows.boot_sorted ?_)
  refine PyProof.Rows.callWith_builtin1 ?_ (star_ok rfl) rfl
  rw [star_ok rfl]
  show wpAny _ _ (spliced ((false, eval (.Call (.Attribute e "values" apos) [] [] cpos) X.env) :: backTo pos (starEach [] X.env))) _ _ s
  refine Calls.spliced_cons (thn (vals_view he hbase hline I hq) ?_)
  rintro u s1 ⟨d, kvs, H1, r, rfl, z, ⟨I1, es, ep, hv, hsz, hat⟩, ks, hks, h64, q⟩
  refine Calls.spliced_nil ?_
  have hl : kvs.length = ks.length := by
    have := congrArg List.length hks
    rwa [List.length_map, List.length_map] at this
  refine Calls.call_function_entry PyProof.Rows.kind_sorted PyProof.Rows.plain_sorted PyProof.Rows.entry_sorted (PyProof.Rows.args_sorted1 _) ?_
  unfold Builtin.«sorted»
  refine wpAny_bind (m := checkCount "sorted" 1 1 _) (wpAny_pure ?_)
  refine wpAny_bind (PySem.W.kdu_collect (A := X.A.in1) (PySem.KdlSrc.rawValues (es := es) (ep := ep)) (I1.ok.hd hc) hv (by rw [hsz]; exact z) fun h' tk acc hk hacc => ?_)
  have hV := vals_items hsz hat hacc
  rw [hks] at hV
  have hS : IntsAre acc.toList ks := vals_intsAre hV
  have hal : acc.toList.length = ks.length := hS.length
  have I2 : Inv X pins σ H1 { s1 with heap := h', toks := tk } := I1.kept hk
  refine wpAny_bind (wpAny_newList ?_ (by rw [hal, sizeLine_eq]; omega))
  have hoL : (h'.push (seqObj "list" acc.toList.toArray 0)).get? h'.objs.size = some (seqObj "list" acc.toList.toArray 0) := Heap.get?_push_size _ rfl
  show wpAny _ _ _ _ _ { s1 with heap := h'.push (seqObj "list" acc.toList.toArray 0), toks := tk }
  refine wpAny_bind (wpAny_holding (wpAny_call_entry PyProof.Rows.slot_list_sort ⟨_, hoL, rfl⟩ PyProof.Rows.entry_list_sort
    (PyProof.Rows.list_sort_tree (s := { s1 with heap := h'.push (seqObj "list" acc.toList.toArray 0), toks := tk }) hoL hS (by rw [hal]; exact h64) fun out ys g1 g2 g3 => ⟨_, rfl, ?_⟩) (PyProof.Rows.args_list_sort _)))
  obtain ⟨e', he'⟩ := PyProof.Rows.sortedHeap_at (vs := acc.toList) (out := out) hoL
  have hlen : (ys.map V.int).length ≤ sizeLine := by
    rw [List.length_map, g2.length_eq]
    exact Nat.le_trans (Nat.le_of_lt h64) (by decide)
  refine wpAny_pure ⟨_, rfl, .ref h'.objs.size, upd H1 h'.objs.size (.lst (ys.map V.int)), I2.laid (t' := tk) (fun b u e => ?_) (Nat.le_refl _)
    (show ObjOk X.prog X.w _ _ _ (.lst (ys.map V.int)) from ⟨hlen, out.toList, e', vals_ints g1, by rw [Array.toArray_toList]; exact he'⟩), rfl, q ys _ g2 g3 (I2.hok.fresh (Nat.le_refl _))⟩
  have hb : b < h'.objs.size := Heap.lt_size e
  rw [PyProof.Rows.sortedHeap_old (Nat.ne_of_lt hb) (by rw [Heap.size_push]; exact Nat.lt_succ_of_lt hb)]
  exact Heap.get?_push_of_some _ e
end
end FL

set_option Elab.async false
set_option maxRecDepth 100000
set_option maxHeartbeats 2000000
namespace FL
open PySem PySem.Spec L2

/-! ### compound built-ins -/
def lvD : D → Option R
  | .dic kvs => if kvs.length ≤ sizeLine then some (.nw (.ow (.lst (kvs.map fun p => p.2)))) else none
  | _ => none
def svD : D → Option R
  | .dic kvs => (intsOf (kvs.map fun p => p.2)).bind fun ns => if ns.length < 64 then some (.nw (.ow (.lst ((sortI ns).map .int)))) else none
  | _ => none
def lsD : D → Option R
  | .lst xs => (intsOf xs).bind fun ns => if ns.Nodup ∧ ns.length ≤ 4000 then some (.fz (.int ns.length)) else none
  | _ => none
def ngD : D → Option R
  | .int i => some (.fz (.int (-i)))
  | _ => none
theorem repK_vals {K : PySem.W.Frag} {Z : Hp} : ∀ {vs : List (Key × V)} {ds : List (Key × D)}, RepK K Z vs ds → RepL K Z (vs.map (·.2)) (ds.map fun p => p.2)
  | _, _, .nil => .nil
  | _, _, .cons h r => .cons h (repK_vals r)
theorem ints_of_rep {K : PySem.W.Frag} {Z : Hp} {vs : List V} : ∀ {ns : List Int}, RepL K Z vs (ns.map D.int) → vs = ns.map V.int := by
  induction vs with
  | nil =>
    intro ns h
    cases ns with
    | nil => rfl
    | cons _ _ => cases h
  | cons v vs ih =>
    intro ns h
    cases ns with
    | nil => cases h
    | cons n ns =>
      cases h with
      | cons h r =>
        cases h
        rw [ih r]
        rfl
section
variable {X : Cx} {e e2 : Expr} {p p2 q apos cpos pos : Pos} {F F2 : Sm}
theorem se_listVals (hc : X.calm = true) (hg : Gl X "list") (hm : X.mg "list" = none) (he : PE X e (tE X.K F)) (hbase : attributeBase e "values" X.env (eval e X.env) = eval e X.env) (hline : (apos.endLine == cpos.line) = true) :
    PE X (.Call (.Name "list" p) [.Call (.Attribute e "values" apos) [] [] cpos] [] pos) (tE X.K (uno lvD F)) := pe_weak (pe_listVals hc he hg hm hbase hline) fun σ H Q h => uno_go h fun Z H' v d r sb hd er k => by
  cases d with
  | dic kvs =>
    have e' : (if kvs.length ≤ sizeLine then some (R.nw (.ow (.lst (kvs.map fun p => p.2)))) else none) = some r := er
    by_cases hz : kvs.length ≤ sizeLine
    · rw [if_pos hz] at e'
      cases e'
      obtain ⟨a, vs, rfl, h1, h2⟩ := hd
      exact ⟨a, vs, rfl, h1, fun q hq _ => k _ _ (.new (o := .lst _) (d := .lst _) hq ⟨_, upd_same, repK_vals h2⟩)⟩
    · rw [if_neg hz] at e'; cases e'
  | _ => cases er
theorem se_sortVals (hc : X.calm = true) (hg : Gl X "sorted") (hm : X.mg "sorted" = none) (he : PE X e (tE X.K F)) (hbase : attributeBase e "values" X.env (eval e X.env) = eval e X.env) (hline : (apos.endLine == cpos.line) = true) :
    PE X (.Call (.Name "sorted" p) [.Call (.Attribute e "values" apos) [] [] cpos] [] pos) (tE X.K (uno svD F)) := pe_weak (pe_sortVals hc he hg hm hbase hline) fun σ H Q h => uno_go h fun Z H' v d r sb hd er k => by
  cases d with
  | dic kvs =>
    obtain ⟨ns, e1, e2⟩ := Option.bind_eq_some_iff.mp (show (intsOf (kvs.map fun p => p.2)).bind (fun ns => if ns.length < 64 then some (R.nw (.ow (.lst ((sortI ns).map .int)))) else none) = some r from er)
    by_cases hz : ns.length < 64
    · rw [if_pos hz] at e2
      cases e2
      obtain ⟨a, vs, rfl, h1, h2⟩ := hd
      have h3 := repK_vals h2
      rw [intsOf_eq e1] at h3
      refine ⟨a, vs, rfl, h1, ns, ints_of_rep h3, hz, fun ys q p1 p2 hq => ?_⟩
      rw [sortI_eq p1 p2]
      exact k _ _ (.new (o := .lst _) (d := .lst _) hq ⟨_, upd_same, ints_rep _⟩)
    · rw [if_neg hz] at e2; cases e2
  | _ => cases er
theorem se_lenSet (hc : X.calm = true) (hg : Gl X "len") (hm : X.mg "len" = none) (hg2 : Gl X "set") (hm2 : X.mg "set" = none) (he : PE X e (tE X.K F)) (hn : notStar e = true) :
    PE X (.Call (.Name "len" p) [.Call (.Name "set" p2) [e] [] q] [] pos) (tE X.K (uno lsD F)) := pe_weak (RZ.pe_lenSetI hg hm hg2 hm2 he hc (star_ok hn)) fun σ H Q h => uno_go h fun Z H' v d r sb hd er k => by
  cases d with
  | lst xs =>
    obtain ⟨ns, e1, e2⟩ := Option.bind_eq_some_iff.mp (show (intsOf xs).bind (fun ns => if ns.Nodup ∧ ns.length ≤ 4000 then some (R.fz (.int ns.length)) else none) = some r from er)
    by_cases hz : ns.Nodup ∧ ns.length ≤ 4000
    · rw [if_pos hz] at e2
      cases e2
      obtain ⟨a, vs, rfl, h1, h2⟩ := hd
      rw [intsOf_eq e1] at h2
      rw [ints_of_rep h2] at h1
      exact ⟨a, ns, rfl, h1, hz.1, hz.2, k _ _ (.same (.int _))⟩
    · rw [if_neg hz] at e2; cases e2
  | _ => cases er
theorem se_neg (he : PE X e (tE X.K F)) : PE X (.UnaryOp .USub e pos) (tE X.K (uno ngD F)) := pe_weak (pe_un un_neg he) fun σ H Q h => uno_go h fun Z H' v d r sb hd er k => by
  cases d with
  | int i =>
    cases er
    have hv : v = .int i := hd
    exact ⟨i, hv, k _ _ (.same (.int _))⟩
  | _ => cases er
def okRg (i j : Int) : Bool := big62 i && (big62 j && decide ((j - i).toNat ≤ 2 ^ 24))
def lrF1 (F : Sm) : Sm := fun ρ => (F ρ).bind fun p => match p.1 with
  | .fz (.int j) => if okRg 0 j = true then some (.nw (.ow (.lst (rangeD 0 j))), p.2) else none
  | _ => none
def lrF2 (F F2 : Sm) : Sm := fun ρ => (F ρ).bind fun p => match p.1 with
  | .fz (.int i) => (F2 p.2).bind fun q => match q.1 with
    | .fz (.int j) => if okRg i j = true then some (.nw (.ow (.lst (rangeD i j))), q.2) else none
    | _ => none
  | _ => none
theorem okRg_ok {i j : Int} (h : okRg i j = true) : RgOk i j := by
  unfold okRg at h
  obtain ⟨h1, h⟩ := Bool.and_eq_true_iff.mp h
  obtain ⟨h2, h3⟩ := Bool.and_eq_true_iff.mp h
  obtain ⟨a, b⟩ := big62_ok h1
  obtain ⟨c, d⟩ := big62_ok h2
  exact ⟨a, b, c, d, of_decide_eq_true h3⟩
theorem rg_rep {K : PySem.W.Frag} {Z : Hp} (i j : Int) : RepL K Z (rgV i j) (rangeD i j) := by
  unfold rgV rangeD
  generalize List.range (j - i).toNat = l
  induction l with
  | nil => exact .nil
  | cons x l ih => exact .cons (.int _) ih
theorem se_listRg1 {pr rpos : Pos} (hc : X.calm = true) (hg : Gl X "list") (hm : X.mg "list" = none) (hgr : Gl X "range") (hmr : X.mg "range" = none) (he : PE X e (tE X.K F)) (hn : notStar e = true) :
    PE X (.Call (.Name "list" p) [.Call (.Name "range" pr) [e] [] rpos] [] pos) (tE X.K (lrF1 F)) := pe_weak (pe_listRg hc hg hm (prg_1 hgr hmr he (star_ok hn)) (star_ok rfl)) fun σ H Q ⟨Z, ρ, fp, r, ρ', g, er, k⟩ => by
  obtain ⟨⟨r1, ρ1⟩, e1, er⟩ := Option.bind_eq_some_iff.mp er
  cases r1 with
  | fz d =>
    cases d with
    | int j =>
      have e' : (if okRg 0 j = true then some (R.nw (.ow (.lst (rangeD 0 j))), ρ1) else none) = some (r, ρ') := er
      by_cases hj : okRg 0 j = true
      · rw [if_pos hj] at e'
        cases e'
        refine ⟨Z, ρ, fp, _, _, g, e1, fun Z1 H1 v fp1 l g1 R1 n1 P1 => ?_⟩
        obtain ⟨rfl, rfl⟩ := int_r R1
        exact ⟨j, rfl, okRg_ok hj, fun q hq => kt_out k g1 P1 (fun p q => .inl q) (.new (o := .lst _) (d := .lst _) hq ⟨_, upd_same, rg_rep 0 j⟩)⟩
      · rw [if_neg hj] at e'; cases e'
    | _ => cases er
  | _ => cases er
theorem se_listRg2 {pr rpos : Pos} (hc : X.calm = true) (hg : Gl X "list") (hm : X.mg "list" = none) (hgr : Gl X "range") (hmr : X.mg "range" = none) (he : PE X e (tE X.K F)) (he2 : PE X e2 (tE X.K F2)) (hn : notStar e = true) (hn2 : notStar e2 = true) :
    PE X (.Call (.Name "list" p) [.Call (.Name "range" pr) [e, e2] [] rpos] [] pos) (tE X.K (lrF2 F F2)) := pe_weak (pe_listRg hc hg hm (prg_2 hgr hmr he he2 (star_ok hn) (star_ok hn2) (by rw [star_ok hn2]; rfl)) (star_ok rfl)) fun σ H Q ⟨Z, ρ, fp, r, ρ', g, er, k⟩ => by
  obtain ⟨⟨r1, ρ1⟩, e1, er⟩ := Option.bind_eq_some_iff.mp er
  cases r1 with
  | fz d =>
    cases d with
    | int i =>
      obtain ⟨⟨r2, ρ2⟩, e2, er⟩ := Option.bind_eq_some_iff.mp er
      cases r2 with
      | fz d =>
        cases d with
        | int j =>
          have e' : (if okRg i j = true then some (R.nw (.ow (.lst (rangeD i j))), ρ2) else none) = some (r, ρ') := er
          by_cases hj : okRg i j = true
          · rw [if_pos hj] at e'
            cases e'
            refine ⟨Z, ρ, fp, _, ρ1, g, e1, fun Z1 H1 v fp1 l g1 R1 n1 P1 => ?_⟩
            obtain ⟨rfl, rfl⟩ := int_r R1
            refine ⟨Z1, ρ1, fp1, _, _, g1, e2, fun Z2 H2 v2 fp2 l2 g2 R2 n2 P2 => ?_⟩
            obtain ⟨rfl, rfl⟩ := int_r R2
            exact ⟨i, j, rfl, rfl, okRg_ok hj, fun q hq => kt_out k g2 ((P1.weak fun p q => .inl q).trans P2) (fun p q => .inl q) (.new (o := .lst _) (d := .lst _) hq ⟨_, upd_same, rg_rep i j⟩)⟩
          · rw [if_neg hj] at e'; cases e'
        | _ => cases er
      | _ => cases er
    | _ => cases er
  | _ => cases er
/-- a constant of the module -/
theorem se_gc {x : Str} {v : V} {d : D} (hg : Gl X x) (h : ∃ u, X.mg x = some u ∧ RelV v u) (hd : (x == ("__debug__" : Str)) = false) (hr : ∀ Z, Rep X.K Z v d) : PE X (.Name x pos) (tE X.K (cst d)) := se_cst (C8.pe_gc hg h hd) hr
end

/-! ### displays of dicts -/
def newD (d : D) : Sm := fun ρ => some (.nw (.ow d), ρ)
section
variable {K : PySem.W.Frag} {σ : L2.St} {H : Hp}
theorem ta_nil {Q : List V → Hp → Prop} (h : tA K [] σ H Q) : Q [] H := by
  obtain ⟨Z, ρ, fp, rs, ρ', g, e, k⟩ := h
  cases e
  exact k Z H [] fp [] g .nil (fun p hp => by cases hp) (Post.refl.weak fun p q => q.elim (fun z => z) fun z => by cases z)
theorem ta_cons {F : Sm} {Fs : List Sm} {Q : List V → Hp → Prop} (h : tA K (F :: Fs) σ H Q) : tE K F σ H fun x H1 => tA K Fs σ H1 fun xs H2 => Q (x :: xs) H2 := by
  obtain ⟨Z, ρ, fp, rs, ρ', g, h, k⟩ := h
  obtain ⟨⟨r1, ρ1⟩, h1, h⟩ := Option.bind_eq_some_iff.mp h
  obtain ⟨⟨rs', ρ2⟩, h2, h⟩ := Option.bind_eq_some_iff.mp h
  cases h
  refine ⟨Z, ρ, fp, r1, ρ1, g, h1, fun Z1 H1 v1 fp1 l1 g1 R1 n1 P1 => ⟨Z1, ρ1, fp1, rs', ρ2, g1, h2, fun Z2 H2 vs fp2 l2 g2 R2 n2 P2 => ?_⟩⟩
  obtain ⟨R1', n1'⟩ := R1.stay n1 P2
  refine k Z2 H2 _ fp2 (l1 ++ l2) g2 (.cons R1' R2 fun p hp z => n1' p hp (.inr z)) (fun p hp => (List.mem_append.mp hp).elim (fun z w => n1' p z (.inl w)) (n2 p)) (P1.trans (P2.wide (fun p q => .inl q) fun p q => ?_))
  rcases q with q | q
  · exact .inl (.inl q)
  · exact (List.mem_append.mp q).elim (fun z => .inr (.inr z)) fun z => .inl (.inr z)
def flatP : List (Sm × Sm) → List Sm
  | [] => []
  | p :: ps => p.1 :: p.2 :: flatP ps
def pairV : List V → List (V × V)
  | x :: y :: r => (x, y) :: pairV r
  | _ => []
theorem ta_pairs : ∀ {Fps : List (Sm × Sm)} {H : Hp} {Q : List (V × V) → Hp → Prop}, tA K (flatP Fps) σ H (fun vs H' => Q (pairV vs) H') → tPairs (Fps.map fun p => (tE K p.1, tE K p.2)) σ H Q
  | [], H, Q, h => ta_nil h
  | p :: ps, H, Q, h => by
    show tE K p.1 σ H fun x H1 => tE K p.2 σ H1 fun y H2 => tPairs (ps.map fun p => (tE K p.1, tE K p.2)) σ H2 fun qs H3 => Q ((x, y) :: qs) H3
    obtain ⟨Z, ρ, fp, r, ρ1, g, e, k⟩ := ta_cons h
    refine ⟨Z, ρ, fp, r, ρ1, g, e, fun Z1 H1 v fp1 l g1 R1 n1 P1 => ?_⟩
    obtain ⟨Z2, ρ2, fp2, r2, ρ3, g2, e2, k2⟩ := ta_cons (k Z1 H1 v fp1 l g1 R1 n1 P1)
    exact ⟨Z2, ρ2, fp2, r2, ρ3, g2, e2, fun Z3 H3 v3 fp3 l3 g3 R3 n3 P3 => ta_pairs (k2 Z3 H3 v3 fp3 l3 g3 R3 n3 P3)⟩
def pairD : List D → Option (List (Key × D))
  | [] => some []
  | k :: d :: r => (keyOf k).bind fun k => (pairD r).map fun l => (k, d) :: l
  | _ => none
theorem pair_rep {Z : Hp} (sb : Sub Z H) : ∀ {vs : List V} {ds : List D} {kds : List (Key × D)}, RepL K Z vs ds → pairD ds = some kds → ∃ kvs : List (Key × V), pairV vs = kvs.map (fun kv => (kV kv.1, kv.2)) ∧ RepK K Z kvs kds
  | _, _, _, .nil, e => by cases e; exact ⟨[], rfl, .nil⟩
  | _, _, _, .cons _ .nil, e => by cases e
  | _, _, _, .cons h1 (.cons h2 r), e => by
    obtain ⟨k, e1, e⟩ := Option.bind_eq_some_iff.mp e
    obtain ⟨l, e2, e3⟩ := Option.map_eq_some_iff.mp e
    cases e3
    obtain ⟨kvs, e4, e5⟩ := pair_rep sb r e2
    refine ⟨(k, _) :: kvs, ?_, .cons h2 e5⟩
    show (_, _) :: pairV _ = (_, _) :: _
    rw [e4, keyOf_v (h1.rd sb) e1]
end
def dspF (Fps : List (Sm × Sm)) : Sm := fun ρ => (seqs (flatP Fps) ρ).bind fun p => (frzs p.1 p.2).bind fun q => (pairD q.1).bind fun kds => if kds.length ≤ 15 then some (.nw (.ow (.dic (dmerge [] kds))), q.2) else none
section
variable {X : Cx} {pos : Pos} {k v : Expr} {ks : List (Option Expr)} {vs : List Expr} {Fps : List (Sm × Sm)}
theorem se_dnewK : PE X (.Dict [] [] pos) (tE X.K (newD (.dic []))) := pe_weak pe_dnewK fun σ H Q ⟨Z, ρ, fp, r, ρ', g, e, kt⟩ => by
  cases e
  exact fun p hp => kt_out kt g Post.refl (fun p q => q) (.new (o := .dK []) (d := .dic []) hp ⟨[], upd_same, .nil⟩)
theorem se_dnewT : PE X (.Dict [] [] pos) (tE X.K (newD (.dit []))) := pe_weak pe_dnewT fun σ H Q ⟨Z, ρ, fp, r, ρ', g, e, kt⟩ => by
  cases e
  exact fun p hp => kt_out kt g Post.refl (fun p q => q) (.new (o := .dT []) (d := .dit []) hp ⟨[], upd_same, .nil⟩)
theorem sp_nil : PPs X pos [] [] (([] : List (Sm × Sm)).map fun p => (tE X.K p.1, tE X.K p.2)) := pps_nil
theorem sp_cons {Fk Fv : Sm} (hk : PE X k (tE X.K Fk)) (hv : PE X v (tE X.K Fv)) (hr : PPs X pos ks vs (Fps.map fun p => (tE X.K p.1, tE X.K p.2))) :
    PPs X pos (some k :: ks) (v :: vs) (((Fk, Fv) :: Fps).map fun p => (tE X.K p.1, tE X.K p.2)) := pps_cons hk hv hr
theorem se_disp (h : PPs X pos ks vs (Fps.map fun p => (tE X.K p.1, tE X.K p.2))) (hall : ks.all (·.isSome) = true) (hl : ks.length = vs.length) (h0 : ks ≠ []) (h15 : ks.length ≤ 15) : PE X (.Dict ks vs pos) (tE X.K (dspF Fps)) := by
  refine pe_weak (pe_disp h hall hl h0 h15) ?_
  rintro σ H Q ⟨Z, ρ, fp, r, ρ', g, e, kt⟩ p hp
  obtain ⟨⟨rs, ρ1⟩, e1, e⟩ := Option.bind_eq_some_iff.mp e
  obtain ⟨⟨ds, ρ2⟩, e2, e⟩ := Option.bind_eq_some_iff.mp e
  obtain ⟨kds, e3, e⟩ := Option.bind_eq_some_iff.mp e
  have e4 : (if kds.length ≤ 15 then some (R.nw (.ow (.dic (dmerge [] kds))), ρ2) else none) = some (r, ρ') := e
  by_cases hz : kds.length ≤ 15
  · rw [if_pos hz] at e4
    cases e4
    refine ta_pairs ⟨Z, ρ, fp, rs, ρ1, g.new hp, e1, fun Z1 H1 vs fp1 l g1 R1 n1 P1 => ?_⟩
    obtain ⟨Z2, fp2, g2, R2, P2⟩ := frzs_ok g1 R1 n1 e2
    obtain ⟨kvs, h1, h2⟩ := pair_rep g2.sub R2 e3
    have zp : Z p = none := g.sub.none hp
    have np : ¬ E fp p := fun z => by
      obtain ⟨⟨o, q, _⟩, _⟩ := g.there z
      rw [hp] at q; cases q
    have dk : Dk X.K Z (upd H p (.dK [])) fp p (.dK []) (.dic []) := ⟨upd_same, ⟨[], upd_same, .nil⟩, zp, np⟩
    have P12 : Post Z (upd H p (.dK [])) (E fp) Z2 H1 (E fp2) := P1.trans P2
    have dk2 := dk.step P12 fun p q => q
    obtain ⟨g3, dk3, P3⟩ := write_D (o' := .dK (mergeK [] kvs)) (d' := .dic (dmerge [] kds)) g2 dk2 ⟨_, upd_same, dmerge_rep .nil h2⟩
    refine ⟨dk2.1, kvs, h1, by rw [lenK h2]; exact hz, ?_⟩
    have P0 : Post Z H (E fp) Z (upd H p (.dK [])) (fun q => E fp q ∨ q ∈ [p]) := Post.new hp
    have PP := (post_D P0 P12 (fp' := fp2) fun p q => q).trans P3
    exact kt Z2 _ (.ref p) fp2 [p] g3 ⟨p, rfl, rfl, dk3.2.2.1, dk3.2.1⟩ (fun q hq z => by rw [List.mem_singleton.mp hq] at z; exact dk3.2.2.2 z) PP
  · rw [if_neg hz] at e4; cases e4
end

/-! ### attributes, stored -/
def atF (ats : List (Str × Str)) (f : Str) (Fv Fo : Sm) : Ss := fun ρ => (Fv ρ).bind fun pv => (Fo pv.2).bind fun po => match po.1 with
  | .sl i => (own po.2 pv.1).bind fun q => match q.2.getD i none with
    | some (.ob c fs) => if (c, f) ∈ ats ∧ fs.lookup f = none ∧ fs.length < 1000 ∧ isOb q.1 = false then some (.nx, q.2.set i (some (.ob c (fs ++ [(f, q.1)])))) else none
    | _ => none
  | _ => none
theorem putF_new {f : Str} {v : V} : ∀ {fv : List (Str × V)}, fv.lookup f = none → putF f v fv = fv ++ [(f, v)]
  | [], _ => rfl
  | (g, x) :: r, h => by
    rw [List.lookup_cons] at h
    cases q : (f == g) with
    | true => rw [q] at h; cases h
    | false =>
      rw [q] at h
      have ne : ¬ g = f := fun z => by rw [z] at q; simp at q
      show (if g = f then (g, v) :: r else (g, x) :: putF f v r) = _
      rw [if_neg ne, putF_new h]
      rfl
theorem lookup_app {α : Type} {f : Str} {v : α} {m : List (Str × α)} : ∀ {fv : List (Str × α)}, fv.lookup f = some v → (fv ++ m).lookup f = some v
  | [], h => by cases h
  | (g, x) :: r, h => by
    rw [List.cons_append, List.lookup_cons] at *
    cases q : (f == g) with
    | true => rw [q] at h; exact h
    | false => rw [q] at h; exact lookup_app h
section
variable {K : PySem.W.Frag} {Z H : Hp}
theorem OwnF.length : ∀ {fv : List (Str × V)} {fs : List (Str × T)} {l : List Addr}, OwnF K Z H fv fs l → fv.length = fs.length
  | _, _, _, .nil => rfl
  | _, _, _, .cons _ r _ => congrArg (· + 1) r.length
theorem OwnF.app : ∀ {fv : List (Str × V)} {fs : List (Str × T)} {l m : List Addr} {f : Str} {v : V} {t : T}, OwnF K Z H fv fs l → Own1 K Z H v t m → (∀ p ∈ m, p ∉ l) → ∃ l', OwnF K Z H (fv ++ [(f, v)]) (fs ++ [(f, t)]) l' ∧ ∀ p ∈ l', p ∈ l ∨ p ∈ m
  | _, _, _, m, f, v, t, .nil, o, d => ⟨m ++ [], .cons o .nil (fun p hp z => by cases z), fun p hp => .inr (by simpa using hp)⟩
  | _, _, _, m, f, v, t, .cons (l := l0) (ls := ls) h r n, o, d => by
    obtain ⟨l', h1, h2⟩ := OwnF.app (f := f) r o fun p hp z => d p hp (List.mem_append_right _ z)
    refine ⟨l0 ++ l', .cons h h1 fun p hp z => ?_, fun p hp => ?_⟩
    · rcases h2 p z with y | y
      · exact n p hp y
      · exact d p y (List.mem_append_left _ hp)
    · rcases List.mem_append.mp hp with y | y
      · exact .inl (List.mem_append_left _ y)
      · exact (h2 p y).imp_left (List.mem_append_right _)
end
theorem ss_at {X : Cx} {kp : Nat → Bool} {ats : List (Str × Str)} {o value : Expr} {f : Str} {pos pos' : Pos} {Fv Fo : Sm} (ha : AtsOk X.K ats) (ho : PE X o (tE X.K Fo)) (hv : PE X value (tE X.K Fv)) (hs : swapsWith value (some (.Attribute o f pos')) pos.line X.env = pure false) :
    PS X (.Assign [.Attribute o f pos'] value pos) (tS X.K kp (atF ats f Fv Fo)) := by
  refine ps_weak (ps_fld ho hv hs) ?_
  rintro D σ H ⟨Z, ρ, fp, fl, ρ', g, e, k⟩
  obtain ⟨⟨rv, ρ1⟩, e1, e⟩ := Option.bind_eq_some_iff.mp e
  obtain ⟨⟨ro, ρ2⟩, e2, e⟩ := Option.bind_eq_some_iff.mp e
  cases ro with
  | sl i =>
    obtain ⟨⟨t, ρ3⟩, e3, e⟩ := Option.bind_eq_some_iff.mp e
    have e4 : (match ρ3.getD i none with
      | some (.ob c fs) => if (c, f) ∈ ats ∧ fs.lookup f = none ∧ fs.length < 1000 ∧ isOb t = false then some (Fl.nx, ρ3.set i (some (.ob c (fs ++ [(f, t)])))) else none
      | _ => none) = some (fl, ρ') := e
    cases q : ρ3.getD i none with
    | none => rw [q] at e4; cases e4
    | some u =>
      rw [q] at e4
      cases u with
      | ob c fs =>
        have e5 : (if (c, f) ∈ ats ∧ fs.lookup f = none ∧ fs.length < 1000 ∧ isOb t = false then some (Fl.nx, ρ3.set i (some (.ob c (fs ++ [(f, t)])))) else none) = some (fl, ρ') := e4
        by_cases hc : (c, f) ∈ ats ∧ fs.lookup f = none ∧ fs.length < 1000 ∧ isOb t = false
        · rw [if_pos hc] at e5
          cases e5
          obtain ⟨c1, c2, c3, c4⟩ := hc
          refine ⟨Z, ρ, fp, rv, ρ1, g, e1, fun Z1 H1 y fp1 l1 g1 R1 n1 P1 => ?_⟩
          refine ⟨Z1, ρ1, fp1, .sl i, ρ2, g1, e2, fun Z2 H2 x fp2 l2 g2 R2 n2 P2 => ?_⟩
          obtain ⟨R1', n1'⟩ := R1.stay n1 P2
          have hx : σ.getD i none = some x := R2.1
          have hl2 : l2 = [] := R2.2
          subst hl2
          obtain ⟨Z3, fp3, m, g3, o3, a3, b3, P3⟩ := own_ok g2 R1' (fun p hp z => n1' p hp (.inl z)) e3
          obtain ⟨w, hw, a, dx, fv, ls, rfl, hl, hz, na, hh, Fo'⟩ := g3.at q
          rw [hx] at hw
          cases hw
          have hfv : fv.lookup f = none := Fo'.no c2
          obtain ⟨hcls, hno⟩ := ha c f c1
          refine ⟨a, _, dx, fv, rfl, hh, hcls, hno, by rw [Fo'.length]; exact c3, ?_⟩
          rw [putF_new hfv]
          have ham : ∀ p ∈ m, p ∉ fp3 i := fun p hp z => a3 p hp ⟨i, z⟩
          have o1 : Own1 X.K Z3 H2 y t m := ownT_1 o3 c4
          have up : ∀ p, p ≠ a → ∀ u, H2 p = some u → upd H2 a (.ins (He.ga X.K c) dx (fv ++ [(f, y)])) p = some u := fun p hp u e => by rw [upd_ne hp]; exact e
          have nam : a ∉ m := fun z => ham a z (by rw [hl]; exact List.mem_cons_self)
          have F1 : OwnF X.K Z3 (upd H2 a (.ins (He.ga X.K c) dx (fv ++ [(f, y)]))) fv fs ls := Fo'.mono (Same.refl _) (fun p hp u e => up p (fun z => na (by rw [← z]; exact hp)) u e) fun p hp => (Fo'.there p hp).2
          have O1 : Own1 X.K Z3 (upd H2 a (.ins (He.ga X.K c) dx (fv ++ [(f, y)]))) y t m := o1.mono (Same.refl _) (fun p hp u e => up p (fun z => nam (by rw [← z]; exact hp)) u e) fun p hp => (o1.there p hp).2
          obtain ⟨l', F2, s2⟩ := F1.app (f := f) O1 fun p hp z => ham p hp (by rw [hl]; exact List.mem_cons_of_mem _ z)
          have hai : a ∈ fp3 i := by rw [hl]; exact List.mem_cons_self
          have tk : TbK H2 (upd H2 a (.ins (He.ga X.K c) dx (fv ++ [(f, y)]))) := .at hh mu_ins.2
          have Gm : Good X.K Z3 (upd H2 a (.ins (He.ga X.K c) dx (fv ++ [(f, y)]))) σ (ρ3.set i (some (.ob c (fs ++ [(f, t)])))) (fun j => if j = i then a :: l' else fp3 j) := by
            refine ⟨by rw [List.length_set]; exact g3.len, fun b u hb => ?_, fun j => ?_, fun j j' p h1 h2 => ?_, ⟨tk.ts _ g3.tz.ts, g3.tz.no⟩⟩
            · have nb : b ≠ a := fun z => by rw [z, hz] at hb; cases hb
              rw [upd_ne nb]
              exact g3.sub b u hb
            · rw [getD_set]
              by_cases ej : i = j
              · rw [if_pos ⟨ej, lt_of_getD q⟩, if_pos ej.symm, ← ej, hx]
                refine ⟨a, dx, _, l', rfl, rfl, hz, fun z => ?_, upd_same, F2⟩
                rcases s2 a z with w | w
                · exact na w
                · exact nam w
              · rw [if_neg (fun w => ej w.1), if_neg (fun w => ej w.symm)]
                have sl := g3.slot j
                have naj : a ∉ fp3 j := fun w => ej (g3.disj i j a hai w)
                cases h1 : σ.getD j none with
                | none =>
                  rw [h1] at sl
                  cases h2 : ρ3.getD j none with
                  | none => rw [h2] at sl; exact sl
                  | some t => rw [h2] at sl; exact sl.elim
                | some x =>
                  rw [h1] at sl
                  cases h2 : ρ3.getD j none with
                  | none => rw [h2] at sl; exact sl.elim
                  | some t =>
                    rw [h2] at sl
                    exact OwnT.mono (Same.refl _) (fun p hp u e => up p (fun w => naj (by rw [← w]; exact hp)) u e) (fun p hp => (OwnT.there sl p hp).2) sl
            · have key : ∀ j, p ∈ (if j = i then a :: l' else fp3 j) → (j = i ∧ (p ∈ fp3 i ∨ p ∈ m)) ∨ (j ≠ i ∧ p ∈ fp3 j) := fun j hj => by
                by_cases ej : j = i
                · rw [if_pos ej] at hj
                  refine .inl ⟨ej, ?_⟩
                  rcases List.mem_cons.mp hj with w | w
                  · rw [w]; exact .inl hai
                  · exact (s2 p w).imp_left fun w => by rw [hl]; exact List.mem_cons_of_mem _ w
                · rw [if_neg ej] at hj; exact .inr ⟨ej, hj⟩
              rcases key j h1 with ⟨ej, pj⟩ | ⟨ej, pj⟩ <;> rcases key j' h2 with ⟨ek, pk⟩ | ⟨ek, pk⟩
              · rw [ej, ek]
              · rcases pj with w | w
                · exact absurd (g3.disj _ _ p w pk).symm ek
                · exact absurd ⟨j', pk⟩ (a3 p w)
              · rcases pk with w | w
                · exact absurd (g3.disj _ _ p w pj).symm ej
                · exact absurd ⟨j, pj⟩ (a3 p w)
              · exact g3.disj j j' p pj pk
          have Pm : Post Z3 H2 (fun p => E fp3 p ∨ p ∈ m) Z3 (upd H2 a (.ins (He.ga X.K c) dx (fv ++ [(f, y)]))) (E (fun j => if j = i then a :: l' else fp3 j)) := by
            refine ⟨Same.refl _, fun p u e n _ => up p (fun w => n (.inl ⟨i, by rw [w]; exact hai⟩)) u e, fun p w => .inl ?_, fun p u w => .inl w, fun b C dx' fw hb => ?_, tk⟩
            · obtain ⟨j, hj⟩ := w
              have hj' : p ∈ (if j = i then a :: l' else fp3 j) := hj
              by_cases ej : j = i
              · rw [if_pos ej] at hj'
                rcases List.mem_cons.mp hj' with w | w
                · exact .inl ⟨i, by rw [w]; exact hai⟩
                · exact (s2 p w).imp_left fun w => ⟨i, by rw [hl]; exact List.mem_cons_of_mem _ w⟩
              · rw [if_neg ej] at hj'; exact .inl ⟨j, hj'⟩
            · by_cases eb : b = a
              · subst eb
                rw [hh] at hb
                cases hb
                exact ⟨_, upd_same, fun f' v' w => lookup_app w⟩
              · exact ⟨fw, by rw [upd_ne eb]; exact hb, fun f' v' w => w⟩
          have Q2 : Post Z H (E fp) Z2 H2 (fun p => E fp2 p ∨ p ∈ l1) := P1.trans (P2.wide (B := fun p => E fp1 p ∨ p ∈ l1) (B' := fun p => E fp2 p ∨ p ∈ l1) (fun p q => .inl q) fun p q => q.elim (fun z => .inl (.inl z)) fun z => .inr (.inr z))
          exact (show Ke X.K Z H fp σ kp _ D.nx from k) Z3 _ σ _ Gm keepS.refl ((Q2.trans P3).trans Pm)
        · rw [if_neg hc] at e5; cases e5
      | _ => cases e4
  | _ => cases e
end FL

set_option Elab.async false
set_option maxRecDepth 100000
set_option maxHeartbeats 2000000
namespace FL
open PySem PySem.Spec L2

/-! ### calls, bundled -/
structure CalG (P : Program) (w : World) (K : PySem.W.Frag) (mg : Str → Option Value) (base : Heap) (k : Nat) (x : Str) (fn : Fn) (ds : List D) : Prop where
  ex : ∃ (f : Addr) (fd : FuncData) (ps : List Str) (dvs : List V) (dvals : List Value), FnG P w K mg base k f fd ps (spOf K fn) ∧ mg x = some (.ref f) ∧ PySem.W.keepIn K (.ref f) = true ∧ Binds K fd ps dvals ∧ Vals dvs dvals ∧ ∀ Z, RepL K Z dvs ds
structure MetG (P : Program) (w : World) (K : PySem.W.Frag) (mg : Str → Option Value) (base : Heap) (k : Nat) (c m : Str) (fn : Fn) (ds : List D) : Prop where
  cls : Cls K (He.ga K c)
  ex : ∃ (f : Addr) (fd : FuncData) (ps : List Str) (dvs : List V) (dvals : List Value), FnG P w K mg base k f fd ps (spOf K fn) ∧ Meth K (He.ga K c) m f ∧ Binds K fd ps dvals ∧ Vals dvs dvals ∧ ∀ Z, RepL K Z dvs ds
structure MakG (P : Program) (w : World) (K : PySem.W.Frag) (mg : Str → Option Value) (base : Heap) (k : Nat) (c : Str) (fn : Fn) (ds : List D) : Prop where
  ex : ∃ (f : Addr) (fd : FuncData) (ps : List Str) (dvs : List V) (dvals : List Value), FnG P w K mg base k f fd ps (spOf K fn) ∧ Mk K (He.ga K c) f ∧ mg c = some (.ref (He.ga K c)) ∧ Binds K fd ps dvals ∧ Vals dvs dvals ∧ ∀ Z, RepL K Z dvs ds
section
variable {X : Cx} {j k : Nat} {x c m : Str} {fn : Fn} {ds : List D} {e o : Expr} {es : List Expr} {p pos apos : Pos} {Fs : List Sm} {Fo : Sm}
theorem se_call (c : CalG X.prog X.w X.K X.mg X.base k x fn ds) (hr : Room j X.A) (hg : X.A.guards = some []) (hk : Nat.ble k j = true) (hx : Gl X x) (ha : PA X (e :: es) (tA X.K Fs)) (hdb : (x == ("__debug__" : Str)) = false) (hs : (e :: es).all notStar = true) :
    PE X (.Call (.Name x p) (e :: es) [] pos) (tE X.K (cll Fs ds fn)) := by
  obtain ⟨f, fd, ps, dvs, dvals, F, hm, kp, hb, hd, hrep⟩ := c.ex
  rw [List.all_cons, Bool.and_eq_true] at hs
  exact pe_weak (gpe_call F (hr.mono (Nat.le_of_ble_eq_true hk)) hg hx hm kp hb hd ha hdb (star_ok hs.1) (plain_back hs.2)) fun σ H Q h => cll_go hrep h
theorem se_call0 (c : CalG X.prog X.w X.K X.mg X.base k x fn ds) (hr : Room j X.A) (hg : X.A.guards = some []) (hk : Nat.ble k j = true) (hx : Gl X x) (hdb : (x == ("__debug__" : Str)) = false) :
    PE X (.Call (.Name x p) [] [] pos) (tE X.K (cll [] ds fn)) := by
  obtain ⟨f, fd, ps, dvs, dvals, F, hm, kp, hb, hd, hrep⟩ := c.ex
  exact pe_weak (gpe_call0 F (hr.mono (Nat.le_of_ble_eq_true hk)) hg hx hm kp hb hd hdb) fun σ H Q h => ta_nil (Q := fun vs H1 => spOf X.K fn (vs ++ dvs) H1 Q E0) (cll_go hrep h)
theorem se_meth {pl : Sem Bool} (mt : MetG X.prog X.w X.K X.mg X.base k c m fn ds) (hr : Room j X.A) (hg : X.A.guards = some []) (hk : Nat.ble k j = true) (ho : PE X o (tE X.K Fo)) (ha : PA X (e :: es) (tA X.K Fs)) (hs : (e :: es).all notStar = true)
    (ht : eval (.Call (.Attribute o m apos) (e :: es) [] pos) X.env = (do
      let ov ← eval o X.env
      standAt apos.atName
      let (f, first) ← holding [ov] (getMethod ov m pl)
      callWith pos f first (backTo pos (starEach (e :: es) X.env)) (backToKw pos (keywordEach [] X.env)))) :
    PE X (.Call (.Attribute o m apos) (e :: es) [] pos) (tE X.K (mth c m Fo Fs ds fn)) := by
  obtain ⟨f, fd, ps, dvs, dvals, F, hm, hb, hd, hrep⟩ := mt.ex
  rw [List.all_cons, Bool.and_eq_true] at hs
  exact pe_weak (gpe_meth ho mt.cls hm F (hr.mono (Nat.le_of_ble_eq_true hk)) hg hb hd ha (star_ok hs.1) (plain_back hs.2) ht) fun σ H Q h => mth_go hrep h
theorem se_meth0 {pl : Sem Bool} (mt : MetG X.prog X.w X.K X.mg X.base k c m fn ds) (hr : Room j X.A) (hg : X.A.guards = some []) (hk : Nat.ble k j = true) (ho : PE X o (tE X.K Fo))
    (ht : eval (.Call (.Attribute o m apos) [] [] pos) X.env = (do
      let ov ← eval o X.env
      standAt apos.atName
      let (f, first) ← holding [ov] (getMethod ov m pl)
      callWith pos f first (backTo pos (starEach [] X.env)) (backToKw pos (keywordEach [] X.env)))) :
    PE X (.Call (.Attribute o m apos) [] [] pos) (tE X.K (mth c m Fo [] ds fn)) := by
  obtain ⟨f, fd, ps, dvs, dvals, F, hm, hb, hd, hrep⟩ := mt.ex
  refine pe_weak (gpe_meth0 ho mt.cls hm F (hr.mono (Nat.le_of_ble_eq_true hk)) hg hb hd ht) fun σ H Q h => ?_
  obtain ⟨Z, ρ, fp, r, ρ1, g, e1, kk⟩ := mth_go hrep h
  refine ⟨Z, ρ, fp, r, ρ1, g, e1, fun Z1 H1 v fp1 l g1 R1 n1 P1 => ?_⟩
  obtain ⟨a, dx, fs, h1, h2, h3, h4⟩ := kk Z1 H1 v fp1 l g1 R1 n1 P1
  exact ⟨a, dx, fs, h1, h2, h3, ta_nil (Q := fun vs H1 => spOf X.K fn (v :: (vs ++ dvs)) H1 Q E0) h4⟩
theorem se_make (c' : MakG X.prog X.w X.K X.mg X.base k c fn ds) (hr : Room j X.A) (hg : X.A.guards = some []) (hk : Nat.ble (k + 1) j = true) (hx : Gl X c) (ha : PA X (e :: es) (tA X.K Fs)) (hdb : (c == ("__debug__" : Str)) = false) (hs : (e :: es).all notStar = true) :
    PE X (.Call (.Name c p) (e :: es) [] pos) (tE X.K (cll Fs ds (mkFn c fn))) := by
  obtain ⟨f, fd, ps, dvs, dvals, F, M, hm, hb, hd, hrep⟩ := c'.ex
  rw [List.all_cons, Bool.and_eq_true] at hs
  refine pe_weak (gpe_make M F (hr.mono (Nat.le_of_ble_eq_true hk)) hg hx hm hb hd ha hdb (star_ok hs.1) (plain_back hs.2)) fun σ H Q h => ?_
  obtain ⟨Z, ρ, fp, rs, ρ1, g, e1, kk⟩ := cll_go (E0 := E0) hrep h
  exact ⟨Z, ρ, fp, rs, ρ1, g, e1, fun Z1 H1 vs fp1 l g1 R1 n1 P1 y dx h1 h2 h3 => mk_sp (kk Z1 H1 vs fp1 l g1 R1 n1 P1) h1 h2 h3⟩
end

/-! ### short forms -/
def visB (sc : Scope) (x : Str) : Bool := match sc.names.lookup x with
  | some .local => true
  | some .cell => true
  | some .free => true
  | _ => false
def locB (sc : Scope) (x : Str) : Bool := match sc.names.lookup x with
  | some .local => true
  | some .cell => true
  | _ => false
def duB (x : Str) : Bool := (x == ("__debug__" : Str)) || (x == ("__classdict__" : Str))
theorem vis_of {sc : Scope} {x : Str} (h : visB sc x = true) : Vis sc x := by
  unfold visB at h
  split at h
  · exact .inl ‹_›
  · exact .inr (.inl ‹_›)
  · exact .inr (.inr ‹_›)
  · cases h
theorem loc_of {sc : Scope} {x : Str} (h : locB sc x = true) : Loc sc x := by
  unfold locB at h
  split at h
  · exact .inl ‹_›
  · exact .inr ‹_›
  · cases h
def kpl (l : List Nat) : Nat → Bool := fun i => l.contains i
section
variable {X : Cx} {x : Str} {pos : Pos}
theorem tv_ (i : Nat) (hN : X.N[i]? = some x) (hv : visB X.env.scope x = true) (hd : duB x = false) : PE X (.Name x pos) (tVar i) := by
  unfold duB at hd
  rw [Bool.or_eq_false_iff] at hd
  exact pe_var hN (vis_of hv) hd.1 hd.2
theorem v_ (i : Nat) (hN : X.N[i]? = some x) (hv : visB X.env.scope x = true) (hd : duB x = false) : PE X (.Name x pos) (tE X.K (vr i)) := se_var (tv_ i hN hv hd)
theorem ki_ {i : Int} {j : Nat} : PE X (.Constant (.int i) j pos) (tE X.K (cst (.int i))) := se_cst pe_int fun _ => .int _
theorem ks_ {z : Str} {j : Nat} : PE X (.Constant (.str z) j pos) (tE X.K (cst (.str z))) := se_cst pe_str fun _ => .str _
theorem kb_ {b : Bool} {j : Nat} : PE X (.Constant (.bool b) j pos) (tE X.K (cst (.bl b))) := se_cst pe_bl fun _ => .bl _
theorem kn_ {j : Nat} : PE X (.Constant .none j pos) (tE X.K (cst .non)) := se_cst pe_non fun _ => .non
theorem gi_ {i : Int} (hg : Gl X x) (h : ∃ t, X.mg x = some (.int i t)) (hd : (x == ("__debug__" : Str)) = false) : PE X (.Name x pos) (tE X.K (cst (.int i))) := se_gc (v := .int i) hg (by obtain ⟨t, h⟩ := h; exact ⟨_, h, t, rfl⟩) hd fun _ => .int _
theorem gs_ {z : Str} (hg : Gl X x) (h : ∃ t, X.mg x = some (.str z t)) (hd : (x == ("__debug__" : Str)) = false) : PE X (.Name x pos) (tE X.K (cst (.str z))) := se_gc (v := .str z) hg (by obtain ⟨t, h⟩ := h; exact ⟨_, h, t, rfl⟩) hd fun _ => .str _
theorem tg_ (kp : Nat → Bool) (i : Nat) (hN : X.N.Nodup) (hi : X.N[i]? = some x) (hx : locB X.env.scope x = true) (hk : kp i = false) (hf : X.fn x = true ∨ X.env.scope.names.lookup x = some .local) : PG X (.Name x pos) (tGd X.K kp (gNm i)) := sg_name hN hi (loc_of hx) hk hf
theorem hu_ {j : Nat} (hr : Room j X.A) : X.A.units + 200 < cLine := by have := hr.un; omega
end
end FL
namespace FL
open PySem PySem.Spec L2
theorem g_mk {P : Program} {w : World} {K : PySem.W.Frag} {mg : Str → Option Value} {base : Heap} {x qual : Str} {params : Arguments} {body : List Stmt} {scope : Scope} {dvs : List V} {kws : List (Str × V)} {f : Addr} {fd : FuncData} {N ps : List Str} {k n m : Nat} {kp : Nat → Bool} {Fb : Ss}
    (hn : ps.length = n) (hm : N.length = m) (F : FunD K x qual params body scope dvs kws f fd) (S : FnScope N ps scope)
    (hb : ∀ (cdv : Value) (B : Around) (below : List Env) (s : Shared) (J : Hp), Room k (B.deeper (PyProof.Rows.envOfC qual scope s.heap.objs.size f cdv)) → B.guards = some [] → PSs (cxOf CX0 P w K mg base N qual scope f cdv B below s J E0).nox body (tS K kp Fb)) :
    FnG P w K mg base (k + 1) f fd ps (spOf K (defF n m kp Fb)) := by
  subst hn hm
  exact g_def F S hb
end FL
namespace FL
open PySem PySem.Spec L2
section
variable {X : Cx} {kp : Nat → Bool} {a b : Expr} {F1 F2 : Sm} {pos : Pos}
/-- a, b = x, y where a name is a cell: by a tuple that nobody keeps -/
theorem ss_parC {i j : Nat} {x y : Str} {px py pt : Pos} {kt k2 : Nat} {pt2 : Pos} (hc : X.calm = true) (hN : X.N.Nodup) (hi : X.N[i]? = some x) (hj : X.N[j]? = some y) (ki : kp i = false) (kj : kp j = false)
    (hx : Loc X.env.scope x) (hy : Loc X.env.scope y) (fx : X.fn x = true) (fy : X.fn y = true) (ha : PA X [a, b] (tA X.K [F1, F2]))
    (hw : swappedStores [.Tuple [.Name x px, .Name y py] kt pt] (.Tuple [a, b] k2 pt2) X.env = pure none) (hs : swapsWithSole [.Tuple [.Name x px, .Name y py] kt pt] (.Tuple [a, b] k2 pt2) pos.line X.env = pure false)
    (h1 : (assignEach [.Tuple [.Name x px, .Name y py] kt pt] X.env).map (·.2) = [assign (.Tuple [.Name x px, .Name y py] kt pt) X.env]) :
    PS X (.Assign [.Tuple [.Name x px, .Name y py] kt pt] (.Tuple [a, b] k2 pt2) pos) (tS X.K kp (parF i j F1 F2)) := by
  have hg : PG X (.Tuple [.Name x px, .Name y py] kt pt) (gTup X.K 2 (gCons (gName i) (gCons (gName j) gNil))) :=
    pg_tup hc (pgs_cons (pg_name hN hi hx (.inl fx)) (pgs_cons (pg_name hN hj hy (.inl fy)) pgs_nil rfl) rfl) rfl rfl
  refine ps_weak (ps_asg (pe_tup ha) hg hs hw h1) ?_
  rintro D σ H ⟨Z, ρ, fp, fl, ρ', gd, e, k⟩
  obtain ⟨⟨rs, ρ1⟩, e1, e⟩ := Option.bind_eq_some_iff.mp e
  obtain ⟨⟨ts, ρ2⟩, e2, e⟩ := Option.bind_eq_some_iff.mp e
  refine ⟨Z, ρ, fp, rs, ρ1, gd, e1, fun Z' H' vs fp' l g' R' n P => ?_⟩
  obtain ⟨Z2, fp2, m, g2, o2, a2, b2, P2⟩ := owns_ok g' R' n e2
  have e3 : put2 i j ρ2 ts = some (fl, ρ') := e
  cases o2 with
  | nil => cases e3
  | cons o1 o2 d1 =>
    cases o2 with
    | nil => cases e3
    | cons o2 o3 d2 =>
      cases o3 with
      | cons _ _ _ => cases e3
      | nil =>
        rename_i v t l1 w u l2
        have e4 : (if i < ρ2.length ∧ j < ρ2.length then some (Fl.nx, (ρ2.set i (some t)).set j (some u)) else none) = some (fl, ρ') := e3
        by_cases hl : i < ρ2.length ∧ j < ρ2.length
        · rw [if_pos hl] at e4
          cases e4
          refine ⟨by show 2 ≤ sizeLine; decide, fun p hp => ⟨p, [v, w], rfl, SqT.of upd_same, rfl, v, [w], rfl, w, [], rfl, rfl, ?_⟩⟩
          have g2' : Good X.K Z2 (upd H' p (.tup [v, w])) σ ρ2 fp2 := g2.new hp
          have up : ∀ q u, H' q = some u → upd H' p (.tup [v, w]) q = some u := upd_keep hp
          have o1' : OwnT X.K Z2 (upd H' p (.tup [v, w])) v t l1 := OwnT.mono (Same.refl _) (fun q _ u e => up q u e) (fun q hq => (OwnT.there o1 q hq).2) o1
          have o2' : OwnT X.K Z2 (upd H' p (.tup [v, w])) w u l2 := OwnT.mono (Same.refl _) (fun q _ u e => up q u e) (fun q hq => (OwnT.there o2 q hq).2) o2
          have g3 := g2'.put hl.1 o1' fun p hp => .inr (a2 p (by simp [hp]))
          have g4 := g3.put (i := j) (by rw [List.length_set]; exact hl.2) o2' fun p hp => .inr fun z => ?_
          · have P3 : Post Z2 H' (fun q => E fp2 q ∨ q ∈ l1 ++ (l2 ++ [])) Z2 (upd H' p (.tup [v, w])) (fun q => E fp2 q ∨ q ∈ l1 ++ (l2 ++ [])) := (Post.new hp).weak fun q z => .inl z
            refine (show Ke X.K Z H fp σ kp _ D.nx from k) Z2 _ _ _ g4 ((keepS.set ki).trans (keepS.set kj)) (((P.trans P2).trans P3).weak fun p q => ?_)
            rcases E_put q with y | y
            · exact .inr (by simp [y])
            · rcases E_put y with y | y
              · exact .inr (by simp [y])
              · exact .inl y
          · rcases E_put z with y | y
            · exact d1 p y (by simp [hp])
            · exact a2 p (by simp [hp]) y
        · rw [if_neg hl] at e4; cases e4
end
end FL

set_option Elab.async false
set_option maxRecDepth 100000
set_option maxHeartbeats 2000000
namespace FL
open PySem

/-! ### evaluation, for simp -/
def brB {α : Type} (r : R) (x y : Option α) : Option α := match r with
  | .fz (.bl true) => x
  | .fz (.bl false) => y
  | _ => none
@[simp] theorem brB_b {α : Type} {b : Bool} {x y : Option α} : brB (.fz (.bl b)) x y = if b = true then x else y := by cases b <;> rfl
def notR (r : R) : Option R := match r with
  | .fz (.bl b) => some (.fz (.bl (!b)))
  | _ => none
@[simp] theorem notR_b {b : Bool} : notR (.fz (.bl b)) = some (.fz (.bl (!b))) := rfl
section
variable {ρ : En} {F Fa Fb Fc : Sm} {A B : Ss} {Fs : List Sm}
@[simp] theorem ifF_ev : ifF Fc A B ρ = (Fc ρ).bind fun p => brB p.1 (A p.2) (B p.2) := by
  unfold ifF
  congr 1
@[simp] theorem andF_ev : andF Fa Fb ρ = (Fa ρ).bind fun p => brB p.1 (Fb p.2) (some (.fz (.bl false), p.2)) := by
  unfold andF
  congr 1
@[simp] theorem orF_ev : orF Fa Fb ρ = (Fa ρ).bind fun p => brB p.1 (some (.fz (.bl true), p.2)) (Fb p.2) := by
  unfold orF
  congr 1
@[simp] theorem iteF_ev : iteF' Fc Fa Fb ρ = (Fc ρ).bind fun p => brB p.1 (Fa p.2) (Fb p.2) := by
  unfold iteF'
  congr 1
@[simp] theorem notF_ev : notF F ρ = (F ρ).bind fun p => (notR p.1).map fun r => (r, p.2) := by
  unfold notF
  congr 1
  funext p
  obtain ⟨r, ρ'⟩ := p
  cases r with
  | fz d => cases d <;> rfl
  | _ => rfl
@[simp] theorem cst_ev {d : D} : cst d ρ = some (.fz d, ρ) := rfl
def vrT (i : Nat) (t : Option T) (ρ : En) : Option (R × En) := match t with
  | some (.fz d) => some (.fz d, ρ)
  | some (.ow _) => some (.sl i, ρ)
  | some (.ob _ _) => some (.sl i, ρ)
  | _ => none
@[simp] theorem vr_ev {i : Nat} : vr i ρ = vrT i (ρ.getD i none) ρ := rfl
@[simp] theorem vrT_fz {i : Nat} {d : D} : vrT i (some (.fz d)) ρ = some (.fz d, ρ) := rfl
@[simp] theorem vrT_ow {i : Nat} {d : D} : vrT i (some (.ow d)) ρ = some (.sl i, ρ) := rfl
@[simp] theorem vrT_ob {i : Nat} {c : Str} {fs : List (Str × T)} : vrT i (some (.ob c fs)) ρ = some (.sl i, ρ) := rfl
@[simp] theorem two_ev : two Fa Fb ρ = (Fa ρ).bind fun p => (Fb p.2).bind fun q => some (p.1, q.1, q.2) := rfl
@[simp] theorem bin_ev {g : D → D → Option R} : bin g Fa Fb ρ = (two Fa Fb ρ).bind fun p => (peek p.2.2 p.1).bind fun x => (peek p.2.2 p.2.1).bind fun y => (g x y).map fun r => (r, p.2.2) := rfl
@[simp] theorem uno_ev {g : D → Option R} : uno g F ρ = (F ρ).bind fun p => (peek p.2 p.1).bind fun d => (g d).map fun r => (r, p.2) := rfl
@[simp] theorem peek_fz {d : D} : peek ρ (.fz d) = some d := rfl
@[simp] theorem peek_nw {t : T} : peek ρ (.nw t) = t.dat := rfl
@[simp] theorem peek_sl {i : Nat} : peek ρ (.sl i) = (ρ.getD i none).bind T.dat := rfl
@[simp] theorem dat_fz {d : D} : T.dat (.fz d) = some d := rfl
@[simp] theorem dat_ow {d : D} : T.dat (.ow d) = some d := rfl
@[simp] theorem seqs_nil : seqs [] ρ = some ([], ρ) := rfl
@[simp] theorem seqs_cons : seqs (F :: Fs) ρ = (F ρ).bind fun p => (seqs Fs p.2).bind fun q => some (p.1 :: q.1, q.2) := rfl
@[simp] theorem frz_fz {d : D} : frz ρ (.fz d) = some (d, ρ) := rfl
@[simp] theorem frz_nwo {d : D} : frz ρ (.nw (.ow d)) = some (d, ρ) := rfl
def frzT (i : Nat) (t : Option T) (ρ : En) : Option (D × En) := match t with
  | some (.fz d) => some (d, ρ)
  | some (.ow d) => some (d, ρ.set i (some (.fz d)))
  | _ => none
@[simp] theorem frz_sl {i : Nat} : frz ρ (.sl i) = frzT i (ρ.getD i none) ρ := rfl
@[simp] theorem frzT_fz {i : Nat} {d : D} : frzT i (some (.fz d)) ρ = some (d, ρ) := rfl
@[simp] theorem frzT_ow {i : Nat} {d : D} : frzT i (some (.ow d)) ρ = some (d, ρ.set i (some (.fz d))) := rfl
@[simp] theorem frzs_nil : frzs [] ρ = some ([], ρ) := rfl
@[simp] theorem frzs_cons {r : R} {rs : List R} : frzs (r :: rs) ρ = (frz ρ r).bind fun p => (frzs rs p.2).map fun q => (p.1 :: q.1, q.2) := rfl
@[simp] theorem froz_ev {f : List D → Option R} : froz Fs f ρ = (seqs Fs ρ).bind fun p => (frzs p.1 p.2).bind fun q => (f q.1).map fun r => (r, q.2) := rfl
@[simp] theorem seqF_ev : seqF A B ρ = (A ρ).bind fun p => match p.1 with
  | .nx => B p.2
  | fl => some (fl, p.2) := rfl
@[simp] theorem nxF_ev : nxF ρ = some (.nx, ρ) := rfl
@[simp] theorem exF_ev : exF F ρ = (F ρ).map fun p => (.nx, p.2) := rfl
@[simp] theorem rtF_ev : rtF F ρ = (F ρ).map fun p => (.rt p.1, p.2) := rfl
@[simp] theorem asgF_ev {g : Tg} : asgF g F ρ = (F ρ).bind fun p => (frz p.2 p.1).bind fun q => (g q.1 q.2).map fun ρ' => (.nx, ρ') := rfl
@[simp] theorem gNm_ev {i : Nat} {d : D} : gNm i d ρ = if i < ρ.length then some (ρ.set i (some (.fz d))) else none := rfl
@[simp] theorem goTs_nil : goTs [] [] ρ = some ρ := rfl
@[simp] theorem goTs_cons {g : Tg} {gs : List Tg} {d : D} {ds : List D} : goTs (g :: gs) (d :: ds) ρ = (g d ρ).bind fun ρ' => goTs gs ds ρ' := rfl
@[simp] theorem gTp_tup {n : Nat} {gs : List Tg} {ds : List D} : gTp n gs (.tup ds) ρ = if ds.length = n then goTs gs ds ρ else none := rfl
@[simp] theorem setF_ev {i : Nat} : setF i F ρ = (F ρ).bind fun p => (own p.2 p.1).bind fun q => if i < q.2.length then some (.nx, q.2.set i (some q.1)) else none := rfl
@[simp] theorem own_nw {t : T} : own ρ (.nw t) = some (t, ρ) := rfl
@[simp] theorem own_fz {d : D} : own ρ (.fz d) = some (.fz d, ρ) := rfl
@[simp] theorem own_sl {i : Nat} : own ρ (.sl i) = (frz ρ (.sl i)).map fun q => (.fz q.1, q.2) := rfl
@[simp] theorem owns_nil : owns [] ρ = some ([], ρ) := rfl
@[simp] theorem owns_cons {r : R} {rs : List R} : owns (r :: rs) ρ = (own ρ r).bind fun p => (owns rs p.2).map fun q => (p.1 :: q.1, q.2) := rfl
@[simp] theorem parF_ev {i j : Nat} {F G : Sm} : parF i j F G ρ = (seqs [F, G] ρ).bind fun p => (owns p.1 p.2).bind fun q => put2 i j q.2 q.1 := rfl
@[simp] theorem put2_ev {i j : Nat} {t u : T} : put2 i j ρ [t, u] = if i < ρ.length ∧ j < ρ.length then some (.nx, (ρ.set i (some t)).set j (some u)) else none := rfl
@[simp] theorem giv_fz {d : D} : giv ρ (.fz d) = some (.fz d, ρ) := rfl
@[simp] theorem giv_nw {t : T} : giv ρ (.nw t) = some (t, ρ) := rfl
def givT (i : Nat) (t : Option T) (ρ : En) : Option (T × En) := match t with
  | some .mv => none
  | some t => some (t, ρ.set i (some .mv))
  | none => none
@[simp] theorem giv_sl {i : Nat} : giv ρ (.sl i) = givT i (ρ.getD i none) ρ := rfl
@[simp] theorem givT_fz {i : Nat} {d : D} : givT i (some (.fz d)) ρ = some (.fz d, ρ.set i (some .mv)) := rfl
@[simp] theorem givT_ow {i : Nat} {d : D} : givT i (some (.ow d)) ρ = some (.ow d, ρ.set i (some .mv)) := rfl
@[simp] theorem givT_ob {i : Nat} {c : Str} {fs : List (Str × T)} : givT i (some (.ob c fs)) ρ = some (.ob c fs, ρ.set i (some .mv)) := rfl
@[simp] theorem givs_nil : givs [] ρ = some ([], ρ) := rfl
@[simp] theorem givs_cons {r : R} {rs : List R} : givs (r :: rs) ρ = (giv ρ r).bind fun p => (givs rs p.2).map fun q => (p.1 :: q.1, q.2) := rfl
@[simp] theorem bak_fz {d : D} {t : T} : bak ρ (.fz d) t = some ρ := rfl
@[simp] theorem bak_nw {u t : T} : bak ρ (.nw u) t = some ρ := rfl
@[simp] theorem bak_sl {i : Nat} {t : T} : bak ρ (.sl i) t = some (ρ.set i (some t)) := rfl
@[simp] theorem baks_nil {ts : List T} : baks [] ts ρ = some ρ := by cases ts <;> rfl
@[simp] theorem baks_cons {r : R} {rs : List R} {t : T} {ts : List T} : baks (r :: rs) (t :: ts) ρ = (bak ρ r t).bind fun ρ' => baks rs ts ρ' := rfl
@[simp] theorem cll_ev {ds : List D} {fn : Fn} : cll Fs ds fn ρ = (seqs Fs ρ).bind fun p => (givs p.1 p.2).bind fun q => (fn (q.1 ++ ds.map .fz)).bind fun z => (baks p.1 z.2 q.2).map fun ρ3 => (z.1, ρ3) := rfl
@[simp] theorem toR_fz {d : D} : toR (.fz d) = .fz d := rfl
@[simp] theorem toR_ow {d : D} : toR (.ow d) = .nw (.ow d) := rfl
@[simp] theorem toR_ob {c : Str} {fs : List (Str × T)} : toR (.ob c fs) = .nw (.ob c fs) := rfl
@[simp] theorem bR_ev {b : Bool} : bR b = some (.fz (.bl b)) := rfl
@[simp] theorem outs_z {kp : Nat → Bool} {j : Nat} : outs kp ρ j 0 = [] := rfl
@[simp] theorem outs_s {kp : Nat → Bool} {j n : Nat} : outs kp ρ j (n + 1) = (if kp j = true then (ρ.getD j none).getD .mv else .mv) :: outs kp ρ (j + 1) n := rfl
@[simp] theorem forF_ev {it : Im} {g : Tg} {b : Ss} : forF it g b ρ = (it ρ).bind fun p => forGo g b p.1 p.2 := rfl
end
theorem defF_ev {n N : Nat} {kp : Nat → Bool} {F : Ss} {ts : List T} (h : ts.length = n) : defF n N kp F ts = (F (startE N ts)).bind fun p => match p.1 with
  | .nx => some (.fz .non, outs kp p.2 0 n)
  | .rt r => (giv p.2 r).map fun q => (toR q.1, outs kp q.2 0 n)
  | _ => none := by
  unfold defF
  rw [if_pos h]
  all_goals congr 1
end FL
namespace FL
open PySem
section
variable {ρ : En} {Fs : List Sm} {i j : Int} {x y : Str} {xs ys : List D} {kvs : List (L2.Key × D)} {d : D}
@[simp] theorem cal_ev {g : List D → Option R} : cal g Fs ρ = (seqs Fs ρ).bind fun p => (peeks p.2 p.1).bind fun ds => (g ds).map fun r => (r, p.2) := rfl
@[simp] theorem peeks_nil : peeks ρ [] = some [] := rfl
@[simp] theorem peeks_cons {r : R} {rs : List R} : peeks ρ (r :: rs) = (peek ρ r).bind fun d => (peeks ρ rs).map (d :: ·) := rfl
@[simp] theorem d1_ev {g : D → Option R} : d1 g [d] = g d := rfl
@[simp] theorem d2_ev {g : D → D → Option R} {e : D} : d2 g [d, e] = g d e := rfl
@[simp] theorem minF_ev : minF (.int i) (.int j) = some (.fz (.int (if j < i then j else i))) := rfl
@[simp] theorem maxF_ev : maxF (.int i) (.int j) = some (.fz (.int (if j > i then j else i))) := rfl
@[simp] theorem at0 {α : Type} {a : α} {l : List α} : L2.atI (a :: l) 0 = some a := by
  unfold L2.atI L2.ixN
  simp
theorem at_nat {α : Type} {l : List α} {k : Nat} (h : k < l.length) : L2.atI l (k : Int) = l[k]? := by
  have e : L2.ixN l.length (k : Int) = some k := by
    unfold L2.ixN
    rw [if_pos (by omega), if_pos (by omega)]
    rfl
  unfold L2.atI
  rw [e]
  rfl
@[simp] theorem at1 {α : Type} {a b : α} {l : List α} : L2.atI (a :: b :: l) 1 = some b := at_nat (k := 1) (by simp)
@[simp] theorem at2 {α : Type} {a b c : α} {l : List α} : L2.atI (a :: b :: c :: l) 2 = some c := at_nat (k := 2) (by simp)
@[simp] theorem ixD_tup : ixD (.tup xs) (.int i) = (L2.atI xs i).map .fz := rfl
@[simp] theorem ixD_lst : ixD (.lst xs) (.int i) = (L2.atI xs i).map .fz := rfl
@[simp] theorem ixD_dicS : ixD (.dic kvs) (.str x) = (dfind kvs (.inr x)).map .fz := rfl
@[simp] theorem ixD_dicI : ixD (.dic kvs) (.int i) = (dfind kvs (.inl i)).map .fz := rfl
@[simp] theorem isND_non : isND .non = some (.fz (.bl true)) := rfl
@[simp] theorem isND_int : isND (.int i) = some (.fz (.bl false)) := rfl
@[simp] theorem isND_tup : isND (.tup xs) = some (.fz (.bl false)) := rfl
@[simp] theorem op_add : op2 .add (.int i) (.int j) = some (.fz (.int (i + j))) := rfl
@[simp] theorem op_addS : op2 .add (.str x) (.str y) = if x.length + y.length ≤ sizeLine then some (.fz (.str (x ++ y))) else none := rfl
@[simp] theorem op_addL : op2 .add (.lst xs) (.lst ys) = if xs.length + ys.length ≤ sizeLine then some (.nw (.ow (.lst (xs ++ ys)))) else none := rfl
@[simp] theorem op_sub : op2 .sub (.int i) (.int j) = some (.fz (.int (i - j))) := rfl
@[simp] theorem op_mul : op2 .mul (.int i) (.int j) = if i.natAbs < big ∧ j.natAbs < big then some (.fz (.int (i * j))) else none := rfl
@[simp] theorem op_fdv : op2 .fdv (.int i) (.int j) = if 0 < j ∧ j.natAbs < 2 ^ 256 then some (.fz (.int (i / j))) else none := rfl
@[simp] theorem op_mod : op2 .mod (.int i) (.int j) = if 0 < j then some (.fz (.int (i % j))) else none := rfl
@[simp] theorem op_pow : op2 .pow (.int i) (.int j) = if 0 ≤ j ∧ j ≤ 1000 ∧ i.natAbs < 2 ^ 32 then some (.fz (.int (i ^ j.toNat))) else none := rfl
@[simp] theorem op_lt : op2 .lt (.int i) (.int j) = some (.fz (.bl (decide (i < j)))) := rfl
@[simp] theorem op_le : op2 .le (.int i) (.int j) = some (.fz (.bl (decide (i ≤ j)))) := rfl
@[simp] theorem op_gt : op2 .gt (.int i) (.int j) = some (.fz (.bl (decide (j < i)))) := rfl
@[simp] theorem op_ge : op2 .ge (.int i) (.int j) = some (.fz (.bl (decide (j ≤ i)))) := rfl
@[simp] theorem op_eqI : op2 .eq (.int i) (.int j) = some (.fz (.bl (i == j))) := rfl
@[simp] theorem op_eqS : op2 .eq (.str x) (.str y) = some (.fz (.bl (x == y))) := rfl
@[simp] theorem op_neI : op2 .ne (.int i) (.int j) = some (.fz (.bl (!(i == j)))) := rfl
@[simp] theorem op_neS : op2 .ne (.str x) (.str y) = some (.fz (.bl (!(x == y)))) := rfl
@[simp] theorem op_inS : op2 .isin (.str x) (.dic kvs) = some (.fz (.bl (dfind kvs (.inr x)).isSome)) := rfl
@[simp] theorem ng_ev : ngD (.int i) = some (.fz (.int (-i))) := rfl
@[simp] theorem tupF_ev : tupF xs = if xs.length ≤ sizeLine then some (.fz (.tup xs)) else none := rfl
@[simp] theorem lstF_ev : lstF xs = if xs.length ≤ sizeLine then some (.nw (.ow (.lst xs))) else none := rfl
theorem line_ge : 16777216 ≤ sizeLine := by rw [sizeLine_eq]; decide
@[simp] theorem line0 : (0 : Nat) ≤ sizeLine := Nat.zero_le _
@[simp] theorem line1 : 1 ≤ sizeLine := Nat.le_trans (by decide) line_ge
@[simp] theorem line2 : 2 ≤ sizeLine := Nat.le_trans (by decide) line_ge
@[simp] theorem line3 : 3 ≤ sizeLine := Nat.le_trans (by decide) line_ge
@[simp] theorem line4 : 4 ≤ sizeLine := Nat.le_trans (by decide) line_ge
@[simp] theorem line5 : 5 ≤ sizeLine := Nat.le_trans (by decide) line_ge
end
end FL
namespace FL
open PySem
section
variable {ρ : En} {F Fv Fo Fi : Sm} {Fs : List Sm} {i : Nat} {f c : Str} {fs : List (Str × T)} {d : D} {t : T}
def givO (i : Nat) (c f : Str) (fs : List (Str × T)) (o : Option T) (ρ : En) : Option (T × En) := match o with
  | some .mv => none
  | some t => some (t, ρ.set i (some (.ob c (fput fs f .mv))))
  | none => none
def givF (i : Nat) (f : Str) (o : Option T) (ρ : En) : Option (T × En) := match o with
  | some (.ob c fs) => givO i c f fs (fs.lookup f) ρ
  | _ => none
@[simp] theorem giv_sf : giv ρ (.sf i f) = givF i f (ρ.getD i none) ρ := by
  show (match ρ.getD i none with
    | some (.ob c fs) => match fs.lookup f with
      | some .mv => none
      | some t => some (t, ρ.set i (some (.ob c (fput fs f .mv))))
      | none => none
    | _ => none) = _
  cases ρ.getD i none with
  | none => rfl
  | some t =>
    cases t with
    | ob c fs =>
      show (match fs.lookup f with
        | some .mv => none
        | some t => some (t, ρ.set i (some (.ob c (fput fs f .mv))))
        | none => none) = givO i c f fs (fs.lookup f) ρ
      cases fs.lookup f with
      | none => rfl
      | some t => cases t <;> rfl
    | _ => rfl
@[simp] theorem givF_ob : givF i f (some (.ob c fs)) ρ = givO i c f fs (fs.lookup f) ρ := rfl
@[simp] theorem givO_ow : givO i c f fs (some (.ow d)) ρ = some (.ow d, ρ.set i (some (.ob c (fput fs f .mv)))) := rfl
@[simp] theorem givO_fz : givO i c f fs (some (.fz d)) ρ = some (.fz d, ρ.set i (some (.ob c (fput fs f .mv)))) := rfl
def bakO (i : Nat) (c f : Str) (fs : List (Str × T)) (t : T) (o : Option T) (ρ : En) : Option En := match o with
  | some .mv => if isOb t = true then none else some (ρ.set i (some (.ob c (fput fs f t))))
  | _ => none
def bakF (i : Nat) (f : Str) (t : T) (o : Option T) (ρ : En) : Option En := match o with
  | some (.ob c fs) => bakO i c f fs t (fs.lookup f) ρ
  | _ => none
@[simp] theorem bak_sf : bak ρ (.sf i f) t = bakF i f t (ρ.getD i none) ρ := by
  show (match ρ.getD i none with
    | some (.ob c fs) => match fs.lookup f with
      | some .mv => if isOb t = true then none else some (ρ.set i (some (.ob c (fput fs f t))))
      | _ => none
    | _ => none) = _
  cases ρ.getD i none with
  | none => rfl
  | some u =>
    cases u with
    | ob c fs =>
      show (match fs.lookup f with
        | some .mv => if isOb t = true then none else some (ρ.set i (some (.ob c (fput fs f t))))
        | _ => none) = bakO i c f fs t (fs.lookup f) ρ
      cases fs.lookup f with
      | none => rfl
      | some t => cases t <;> rfl
    | _ => rfl
@[simp] theorem bakF_ob : bakF i f t (some (.ob c fs)) ρ = bakO i c f fs t (fs.lookup f) ρ := rfl
@[simp] theorem bakO_mv : bakO i c f fs t (some .mv) ρ = if isOb t = true then none else some (ρ.set i (some (.ob c (fput fs f t)))) := rfl
@[simp] theorem isOb_ow : isOb (.ow d) = false := rfl
@[simp] theorem isOb_fz : isOb (.fz d) = false := rfl
def pkO (o : Option T) (f : Str) : Option D := match o with
  | some (.ob _ fs) => (fs.lookup f).bind T.dat
  | _ => none
@[simp] theorem peek_sf : peek ρ (.sf i f) = pkO (ρ.getD i none) f := rfl
@[simp] theorem pkO_ob : pkO (some (.ob c fs)) f = (fs.lookup f).bind T.dat := rfl
def fldO (i : Nat) (f : Str) (o : Option T) (ρ : En) : Option (R × En) := match o with
  | some (.fz d) => some (.fz d, ρ)
  | some (.ow _) => some (.sf i f, ρ)
  | _ => none
def fldT (ats : List (Str × Str)) (f : Str) (i : Nat) (o : Option T) (ρ : En) : Option (R × En) := match o with
  | some (.ob c fs) => if (c, f) ∈ ats then fldO i f (fs.lookup f) ρ else none
  | _ => none
def fldR (ats : List (Str × Str)) (f : Str) (r : R) (ρ : En) : Option (R × En) := match r with
  | .sl i => fldT ats f i (ρ.getD i none) ρ
  | _ => none
@[simp] theorem fldF_ev {ats : List (Str × Str)} : fldF ats f Fo ρ = (Fo ρ).bind fun p => fldR ats f p.1 p.2 := by
  unfold fldF
  congr 1
@[simp] theorem fldR_sl {ats : List (Str × Str)} : fldR ats f (.sl i) ρ = fldT ats f i (ρ.getD i none) ρ := rfl
@[simp] theorem fldT_ob {ats : List (Str × Str)} : fldT ats f i (some (.ob c fs)) ρ = if (c, f) ∈ ats then fldO i f (fs.lookup f) ρ else none := rfl
@[simp] theorem fldO_fz : fldO i f (some (.fz d)) ρ = some (.fz d, ρ) := rfl
@[simp] theorem fldO_ow : fldO i f (some (.ow d)) ρ = some (.sf i f, ρ) := rfl
@[simp] theorem plOf_sl : plOf (.sl i) = some (.s i) := rfl
@[simp] theorem plOf_sf : plOf (.sf i f) = some (.f i f) := rfl
def pgT (o : Option T) : Option D := match o with
  | some (.ow d) => some d
  | _ => none
@[simp] theorem pgT_ow : pgT (some (.ow d)) = some d := rfl
@[simp] theorem plGet_s : plGet ρ (.s i) = pgT (ρ.getD i none) := rfl
def pgF (f : Str) (o : Option T) : Option D := match o with
  | some (.ob _ fs) => pgT (fs.lookup f)
  | _ => none
@[simp] theorem plGet_f : plGet ρ (.f i f) = pgF f (ρ.getD i none) := by
  show (match ρ.getD i none with
    | some (.ob _ fs) => match fs.lookup f with
      | some (.ow d) => some d
      | _ => none
    | _ => none) = _
  cases ρ.getD i none with
  | none => rfl
  | some t => cases t <;> rfl
@[simp] theorem pgF_ob : pgF f (some (.ob c fs)) = pgT (fs.lookup f) := rfl
@[simp] theorem plSet_s : plSet ρ d (.s i) = ρ.set i (some (.ow d)) := rfl
def psF (ρ : En) (d : D) (i : Nat) (f : Str) (o : Option T) : En := match o with
  | some (.ob c fs) => ρ.set i (some (.ob c (fput fs f (.ow d))))
  | _ => ρ
@[simp] theorem plSet_f : plSet ρ d (.f i f) = psF ρ d i f (ρ.getD i none) := rfl
@[simp] theorem psF_ob : psF ρ d i f (some (.ob c fs)) = ρ.set i (some (.ob c (fput fs f (.ow d)))) := rfl
@[simp] theorem stF_ev : stF Fv Fo Fi ρ = (Fv ρ).bind fun pv => (Fo pv.2).bind fun po => (plOf po.1).bind fun pl => (Fi po.2).bind fun pi => (peek pi.2 pi.1).bind fun k => (frz pi.2 pv.1).bind fun z => (plGet z.2 pl).bind fun cur => (setD cur k z.1).map fun new => (.nx, plSet z.2 new pl) := rfl
@[simp] theorem setD_lst {xs : List D} {j : Int} {v : D} : setD (.lst xs) (.int j) v = (L2.ixN xs.length j).map fun k => .lst (xs.set k v) := rfl
@[simp] theorem setD_dicS {kvs : List (L2.Key × D)} {x : Str} {v : D} : setD (.dic kvs) (.str x) v = if kvs.length < sizeLine then some (.dic (dput kvs (.inr x) v)) else none := rfl
@[simp] theorem setD_dicI {kvs : List (L2.Key × D)} {j : Int} {v : D} : setD (.dic kvs) (.int j) v = if kvs.length < sizeLine then some (.dic (dput kvs (.inl j) v)) else none := rfl
@[simp] theorem fput_cons {g : Str} {u : T} : fput ((g, u) :: fs) f t = if (f == g) = true then (g, t) :: fs else (g, u) :: fput fs f t := rfl
@[simp] theorem fput_nil : fput [] f t = [] := rfl
@[simp] theorem mth_ev {m : Str} {ds : List D} {fn : Fn} : mth c m Fo Fs ds fn ρ = (Fo ρ).bind fun p => if hasM c m p.2 p.1 = true then (seqs Fs p.2).bind fun q => cllR (p.1 :: q.1) q.2 ds fn else none := rfl
@[simp] theorem cllR_ev {rs : List R} {ds : List D} {fn : Fn} : cllR rs ρ ds fn = (givs rs ρ).bind fun q => (fn (q.1 ++ ds.map .fz)).bind fun z => (baks rs z.2 q.2).map fun ρ3 => (z.1, ρ3) := rfl
def hasO (c m : Str) (o : Option T) : Bool := match o with
  | some (.ob c' fs) => decide (c' = c) && (fs.lookup m).isNone
  | _ => false
@[simp] theorem hasM_sl {m : Str} : hasM c m ρ (.sl i) = hasO c m (ρ.getD i none) := rfl
@[simp] theorem hasO_ob {m c' : Str} : hasO c m (some (.ob c' fs)) = (decide (c' = c) && (fs.lookup m).isNone) := rfl
end
end FL
namespace FL
open PySem
section
variable {vs : List Nat} {g : Tg} {Ft : Option Sm} {Fe Fk : Sm} {ρ : En} {st : D → En} {c : D → Bool} {f : D → D}
/-- a comprehension whose turns change nothing -/
theorem lc_gen : ∀ {xs acc : List D}, (∀ x ∈ xs, g x ρ = some (st x)) → (∀ x ∈ xs, tst Ft (st x) = some (c x, st x)) → (∀ x ∈ xs, c x = true → ∃ r, Fe (st x) = some (r, st x) ∧ frz (st x) r = some (f x, st x)) → (∀ x ∈ xs, wipeE (st x) vs = ρ) → acc.length + xs.length ≤ sizeLine →
    lcGo vs g Ft Fe xs acc ρ = some (acc ++ (xs.filter c).map f, ρ)
  | [], acc, _, _, _, _, _ => by simp [lcGo]
  | x :: xs, acc, hg, ht, he, hw, hl => by
    have h1 := hg x List.mem_cons_self
    have h2 := ht x List.mem_cons_self
    have h3 := hw x List.mem_cons_self
    rw [List.length_cons] at hl
    unfold lcGo
    rw [h1]
    show (tst Ft (st x)).bind _ = _
    rw [h2]
    cases hc : c x with
    | false =>
      have ih := lc_gen (xs := xs) (acc := acc) (fun y hy => hg y (List.mem_cons_of_mem _ hy)) (fun y hy => ht y (List.mem_cons_of_mem _ hy)) (fun y hy => he y (List.mem_cons_of_mem _ hy)) (fun y hy => hw y (List.mem_cons_of_mem _ hy)) (by omega)
      show lcGo vs g Ft Fe xs acc (wipeE (st x) vs) = _
      rw [h3, ih, List.filter_cons_of_neg (by simp [hc])]
    | true =>
      obtain ⟨r, h4, h5⟩ := he x List.mem_cons_self hc
      have ih := lc_gen (xs := xs) (acc := acc ++ [f x]) (fun y hy => hg y (List.mem_cons_of_mem _ hy)) (fun y hy => ht y (List.mem_cons_of_mem _ hy)) (fun y hy => he y (List.mem_cons_of_mem _ hy)) (fun y hy => hw y (List.mem_cons_of_mem _ hy)) (by rw [List.length_append, List.length_singleton]; omega)
      show (Fe (st x)).bind _ = _
      rw [h4]
      show (frz (st x) r).bind _ = _
      rw [h5]
      show (if acc.length < sizeLine then lcGo vs g Ft Fe xs (acc ++ [f x]) (wipeE (st x) vs) else none) = _
      rw [if_pos (by omega), h3, ih, List.filter_cons_of_pos hc, List.map_cons, List.append_assoc, List.singleton_append]
/-- .. a dict comprehension with new keys -/
theorem dc_gen {kf : D → L2.Key} : ∀ {xs : List D} {acc : List (L2.Key × D)}, (∀ x ∈ xs, g x ρ = some (st x)) → (∀ x ∈ xs, ∃ kd, Fk (st x) = some (.fz kd, st x) ∧ keyOf kd = some (kf x)) → (∀ x ∈ xs, ∃ r, Fe (st x) = some (r, st x) ∧ frz (st x) r = some (f x, st x)) → (∀ x ∈ xs, wipeE (st x) vs = ρ) →
    acc.length + xs.length ≤ sizeLine → (acc.map (·.1) ++ xs.map kf).Nodup → dcGo vs g none Fk Fe xs acc ρ = some (acc ++ xs.map fun x => (kf x, f x), ρ)
  | [], acc, _, _, _, _, _, _ => by simp [dcGo]
  | x :: xs, acc, hg, hk, he, hw, hl, hn => by
    have h1 := hg x List.mem_cons_self
    have h3 := hw x List.mem_cons_self
    obtain ⟨kd, k1, k2⟩ := hk x List.mem_cons_self
    obtain ⟨r, h4, h5⟩ := he x List.mem_cons_self
    rw [List.length_cons] at hl
    have hnew : dput acc (kf x) (f x) = acc ++ [(kf x, f x)] := by
      unfold dput
      rw [if_neg]
      intro z
      obtain ⟨q, hq, e⟩ := List.any_eq_true.mp z
      have e' : q.1 = kf x := of_decide_eq_true e
      rw [List.map_cons] at hn
      have := (List.nodup_append.mp hn).2.2 q.1 (List.mem_map_of_mem hq) (kf x) List.mem_cons_self
      exact this e'
    have ih := dc_gen (kf := kf) (xs := xs) (acc := acc ++ [(kf x, f x)]) (fun y hy => hg y (List.mem_cons_of_mem _ hy)) (fun y hy => hk y (List.mem_cons_of_mem _ hy)) (fun y hy => he y (List.mem_cons_of_mem _ hy)) (fun y hy => hw y (List.mem_cons_of_mem _ hy)) (by rw [List.length_append, List.length_singleton]; omega)
      (by rw [List.map_append, List.append_assoc]; exact hn)
    unfold dcGo
    rw [h1]
    have ht : tst none (st x) = some (true, st x) := rfl
    rw [Option.bind_some, ht, Option.bind_some, if_pos rfl, k1, Option.bind_some]
    show ((keyOf kd).bind fun k => (Fe (st x)).bind fun q => (frz q.2 q.1).bind fun z => if acc.length < sizeLine then dcGo vs g none Fk Fe xs (dput acc k z.1) (wipeE z.2 vs) else none) = _
    rw [k2, Option.bind_some, h4, Option.bind_some]
    show ((frz (st x) r).bind fun z => if acc.length < sizeLine then dcGo vs g none Fk Fe xs (dput acc (kf x) z.1) (wipeE z.2 vs) else none) = _
    rw [h5, Option.bind_some, if_pos (by omega), h3, hnew, ih, List.append_assoc]
    rfl
end
end FL
namespace FL
open PySem
section
variable {ρ : En} {Fa Fb Fc F Fe Fk : Sm} {Ft : Option Sm} {i : Nat} {x : Str} {xs : List D} {kvs : List (L2.Key × D)} {vs : List Nat} {it : Im} {tg : Tg}
@[simp] theorem lenF_str : lenF (.str x) = if x.length ≤ sizeLine then some (.fz (.int x.length)) else none := rfl
@[simp] theorem lenF_lst : lenF (.lst xs) = some (.fz (.int xs.length)) := rfl
@[simp] theorem lenF_tup : lenF (.tup xs) = some (.fz (.int xs.length)) := rfl
@[simp] theorem lenF_dic : lenF (.dic kvs) = some (.fz (.int kvs.length)) := rfl
def chR (r : R) (y : Option (R × En)) (ρ : En) : Option (R × En) := match r with
  | .fz (.bl true) => y
  | .fz (.bl false) => some (.fz (.bl false), ρ)
  | _ => none
@[simp] theorem chR_b {b : Bool} {y : Option (R × En)} : chR (.fz (.bl b)) y ρ = if b = true then y else some (.fz (.bl false), ρ) := by cases b <;> rfl
@[simp] theorem chn_ev {g g' : D → D → Option R} : chn g g' Fa Fb Fc ρ = (two Fa Fb ρ).bind fun p => (peek p.2.2 p.1).bind fun x => (peek p.2.2 p.2.1).bind fun y => (g x y).bind fun r => chR r ((Fc p.2.2).bind fun q => (peek q.2 p.2.1).bind fun y => (peek q.2 q.1).bind fun z => (g' y z).map fun r => (r, q.2)) p.2.2 := by
  unfold chn
  congr 1
def itW (o : Option T) (i : Nat) (ρ : En) : Option (List D × En) := match o with
  | some (.fz (.dic kvs)) => itN .keys i ρ
  | some (.ow (.dic kvs)) => itN .keys i ρ
  | _ => itL (vr i) ρ
@[simp] theorem itV_ev : itV i ρ = itW (ρ.getD i none) i ρ := rfl
@[simp] theorem itW_str : itW (some (.fz (.str x))) i ρ = itL (vr i) ρ := rfl
@[simp] theorem itW_lst : itW (some (.fz (.lst xs))) i ρ = itL (vr i) ρ := rfl
@[simp] theorem itW_lstO : itW (some (.ow (.lst xs))) i ρ = itL (vr i) ρ := rfl
@[simp] theorem itW_tup : itW (some (.fz (.tup xs))) i ρ = itL (vr i) ρ := rfl
@[simp] theorem itW_dic : itW (some (.fz (.dic kvs))) i ρ = itN .keys i ρ := rfl
@[simp] theorem itW_dicO : itW (some (.ow (.dic kvs))) i ρ = itN .keys i ρ := rfl
@[simp] theorem itL_ev : itL F ρ = (F ρ).bind fun p => (frz p.2 p.1).bind fun q => (itD q.1).map fun xs => (xs, q.2) := rfl
@[simp] theorem itD_lst : itD (.lst xs) = some xs := rfl
@[simp] theorem itD_tup : itD (.tup xs) = some xs := rfl
@[simp] theorem itD_str : itD (.str x) = some (charsOf x) := rfl
@[simp] theorem itN_ev {w : DI} : itN w i ρ = (frz ρ (.sl i)).bind fun q => (dictIt w q.1).map fun xs => (xs, q.2) := rfl
@[simp] theorem dictIt_k : dictIt .keys (.dic kvs) = some (kvs.map fun p => dOf p.1) := rfl
@[simp] theorem dictIt_v : dictIt .vals (.dic kvs) = some (kvs.map fun p => p.2) := rfl
@[simp] theorem dictIt_i : dictIt .items (.dic kvs) = some (kvs.map fun p => .tup [dOf p.1, p.2]) := rfl
@[simp] theorem lcF_ev : lcF vs it tg Ft Fe ρ = (it ρ).bind fun p => if okW p.2 vs = true then (lcGo vs tg Ft Fe p.1 [] (wipeE p.2 vs)).map fun q => (.nw (.ow (.lst q.1)), restE p.2 vs q.2) else none := rfl
@[simp] theorem dcF_ev : dcF vs it tg Ft Fk Fe ρ = (it ρ).bind fun p => if okW p.2 vs = true then (dcGo vs tg Ft Fk Fe p.1 [] (wipeE p.2 vs)).map fun q => (.nw (.ow (.dic q.1)), restE p.2 vs q.2) else none := rfl
@[simp] theorem okW_nil : okW ρ [] = true := rfl
@[simp] theorem okW_cons {v : Nat} : okW ρ (v :: vs) = (okS (ρ.getD v none) && okW ρ vs) := rfl
@[simp] theorem okS_none : okS none = true := rfl
@[simp] theorem okS_fz {d : D} : okS (some (.fz d)) = true := rfl
@[simp] theorem wipeE_nil : wipeE ρ [] = ρ := rfl
@[simp] theorem wipeE_cons {v : Nat} : wipeE ρ (v :: vs) = (wipeE ρ vs).set v none := rfl
@[simp] theorem restE_nil {ρ0 : En} : restE ρ0 [] ρ = ρ := rfl
@[simp] theorem restE_cons {ρ0 : En} {v : Nat} : restE ρ0 (v :: vs) ρ = (restE ρ0 vs ρ).set v (ρ0.getD v none) := rfl
@[simp] theorem tst_none : tst none ρ = some (true, ρ) := rfl
def tstR (r : R) (ρ : En) : Option (Bool × En) := match r with
  | .fz (.bl b) => some (b, ρ)
  | _ => none
@[simp] theorem tstR_b {b : Bool} : tstR (.fz (.bl b)) ρ = some (b, ρ) := rfl
@[simp] theorem tst_some : tst (some F) ρ = (F ρ).bind fun p => tstR p.1 p.2 := by
  show ((F ρ).bind fun p => match p.1 with
    | .fz (.bl b) => some (b, p.2)
    | _ => none) = _
  congr 1
theorem allF_true {xs : List D} (h : ∀ x ∈ xs, x = .bl true) : allF (.lst xs) = some (.fz (.bl true)) := by
  have key : ∀ xs : List D, (∀ x ∈ xs, x = .bl true) → ∃ bs, boolsOf xs = some bs ∧ bs.all id = true := by
    intro xs
    induction xs with
    | nil => intro _; exact ⟨[], rfl, rfl⟩
    | cons x xs ih =>
      intro h
      obtain ⟨bs, h1, h2⟩ := ih fun y hy => h y (List.mem_cons_of_mem _ hy)
      have hx := h x List.mem_cons_self
      subst hx
      refine ⟨true :: bs, ?_, by simpa using h2⟩
      show (boolsOf xs).map (true :: ·) = _
      rw [h1]
      rfl
  obtain ⟨bs, h1, h2⟩ := key xs h
  show (boolsOf xs).map (fun bs => R.fz (.bl (bs.all id))) = _
  rw [h1]
  show some (R.fz (.bl (bs.all id))) = _
  rw [h2]
@[simp] theorem line8 {n : Nat} (h : n ≤ 1000) : n ≤ sizeLine := Nat.le_trans h (Nat.le_trans (by decide) line_ge)
end
end FL
namespace FL
open PySem
/-- all([..]) whose items are all True -/
theorem all_gen {vs : List Nat} {g : Tg} {Fe : Sm} {ρ : En} {st : D → En} {xs : List D} (hg : ∀ x ∈ xs, g x ρ = some (st x)) (he : ∀ x ∈ xs, Fe (st x) = some (.fz (.bl true), st x)) (hw : ∀ x ∈ xs, wipeE (st x) vs = ρ) (hl : xs.length ≤ sizeLine) :
    ∃ ys, lcGo vs g none Fe xs [] ρ = some (ys, ρ) ∧ allF (.lst ys) = some (.fz (.bl true)) := by
  refine ⟨_, lc_gen (c := fun _ => true) (f := fun _ => .bl true) hg (fun _ _ => rfl) (fun x hx _ => ⟨_, he x hx, rfl⟩) hw (by simpa using hl), allF_true fun y hy => ?_⟩
  rw [List.nil_append] at hy
  obtain ⟨_, _, e⟩ := List.mem_map.mp hy
  exact e.symm
end FL

set_option Elab.async false
set_option maxRecDepth 100000
set_option maxHeartbeats 2000000
namespace FL
open PySem
section
variable {ρ : En} {Fv Fo : Sm} {i : Nat} {f c : Str} {fs : List (Str × T)} {t : T} {r : R} {ats : List (Str × Str)} {ts : List T} {fn : Fn}
def atT (ats : List (Str × Str)) (f : Str) (i : Nat) (t : T) (o : Option T) (ρ : En) : Option (Fl × En) := match o with
  | some (.ob c fs) => if (c, f) ∈ ats ∧ fs.lookup f = none ∧ fs.length < 1000 ∧ isOb t = false then some (.nx, ρ.set i (some (.ob c (fs ++ [(f, t)])))) else none
  | _ => none
def atRR (ats : List (Str × Str)) (f : Str) (r rv : R) (ρ : En) : Option (Fl × En) := match r with
  | .sl i => (own ρ rv).bind fun q => atT ats f i q.1 (q.2.getD i none) q.2
  | _ => none
@[simp] theorem atRR_sl {rv : R} : atRR ats f (.sl i) rv ρ = (own ρ rv).bind fun q => atT ats f i q.1 (q.2.getD i none) q.2 := rfl
@[simp] theorem atT_ob : atT ats f i t (some (.ob c fs)) ρ = if (c, f) ∈ ats ∧ fs.lookup f = none ∧ fs.length < 1000 ∧ isOb t = false then some (.nx, ρ.set i (some (.ob c (fs ++ [(f, t)])))) else none := rfl
@[simp] theorem atF_ev : atF ats f Fv Fo ρ = (Fv ρ).bind fun pv => (Fo pv.2).bind fun po => atRR ats f po.1 pv.1 po.2 := by
  unfold atF
  congr 1
def mkR (r : R) (ts : List T) : Option (R × List T) := match r, ts with
  | .fz .non, t :: ts' => some (.nw t, ts')
  | _, _ => none
@[simp] theorem mkR_ev : mkR (.fz .non) (t :: ts) = some (.nw t, ts) := rfl
@[simp] theorem mkFn_ev : mkFn c fn ts = (fn (.ob c [] :: ts)).bind fun z => mkR z.1 z.2 := by
  unfold mkFn
  congr 1
  funext z
  obtain ⟨r, ts⟩ := z
  cases r with
  | fz d => cases d <;> cases ts <;> rfl
  | _ => cases ts <;> rfl
def zipW (ds : List D) (ρ : En) : Option (List D × En) := (zip2 ds).map fun xs => (xs, ρ)
@[simp] theorem itZ_ev {Fs : List Sm} : itZ Fs ρ = (seqs Fs ρ).bind fun p => (frzs p.1 p.2).bind fun q => (zip2 q.1).map fun xs => (xs, q.2) := rfl
@[simp] theorem zip2_ev {xs ys : List D} : zip2 [.lst xs, .lst ys] = some (zipD xs ys) := rfl
end
end FL

set_option Elab.async false
set_option maxRecDepth 100000
namespace FL
open PySem PySem.Spec L2
/-- the value of an expression, for ever unchanged from here on -/
def frF (F : Sm) : Sm := fun ρ => (F ρ).bind fun p => (frz p.2 p.1).map fun q => (.fz q.1, q.2)
theorem fr_go {K : PySem.W.Frag} {F : Sm} {σ : L2.St} {H : Hp} {Q : VK} (h : tE K (frF F) σ H Q) : tE K F σ H Q := by
  obtain ⟨Z, ρ, fp, r, ρ3, g, h, kt⟩ := h
  obtain ⟨⟨r0, ρ1⟩, h1, h⟩ := Option.bind_eq_some_iff.mp h
  obtain ⟨⟨d, ρ2⟩, h2, e⟩ := Option.map_eq_some_iff.mp h
  cases e
  refine ⟨Z, ρ, fp, r0, ρ1, g, h1, fun Z1 H1 v fp1 l g1 R1 n1 P1 => ?_⟩
  obtain ⟨Z2, fp2, g2, R2, P2⟩ := frz_ok g1 R1 n1 h2
  exact kt_out kt g2 (P1.trans P2) (fun p q => q) (.same R2)
theorem se_frz {X : Cx} {e : Expr} {F : Sm} (h : PE X e (tE X.K F)) : PE X e (tE X.K (frF F)) := pe_weak h fun σ H Q q => fr_go q
@[simp] theorem frF_ev {F : Sm} {ρ : En} : frF F ρ = (F ρ).bind fun p => (frz p.2 p.1).map fun q => (.fz q.1, q.2) := rfl
@[simp] theorem newD_ev {d : D} {ρ : En} : newD d ρ = some (.nw (.ow d), ρ) := rfl
end FL

set_option Elab.async false
set_option maxRecDepth 100000
set_option maxHeartbeats 2000000
namespace FL
open PySem PySem.Spec L2

/-! ### repr: what stands in the heap, with its dicts no module table -/
mutual
inductive RdZ (h : Heap) : Value → PyData → Prop
  | non : RdZ h .none .none
  | bl (b : Bool) : RdZ h (.bool b) (.bool b)
  | int (i : Int) (t : Nat) : RdZ h (.int i t) (.int i)
  | str (x : Str) (t : Nat) : RdZ h (.str x t) (.str x)
  | lst {a : Addr} {ob : Obj} {its : Array Value} {n : Nat} {xs : List PyData} : h.get? a = some ob → ob.cls = .type "list" → ob.data = .seq its n → RdZs h its.toList xs → RdZ h (.ref a) (.list xs)
  | tup {a : Addr} {ob : Obj} {its : Array Value} {n : Nat} {xs : List PyData} : h.get? a = some ob → ob.cls = .type "tuple" → ob.data = .seq its n → RdZs h its.toList xs → RdZ h (.ref a) (.tuple xs)
  | dic {a : Addr} {ob : Obj} {es : Array DictEntry} {n : Nat} {kvs : List (PyData × PyData)} : (a == sysModules) = false → h.get? a = some ob → ob.cls = .type "dict" → ob.data = .dict es n →
      RdZs h (es.toList.map (·.key)) (kvs.map (·.1)) → RdZs h (es.toList.map (·.val)) (kvs.map (·.2)) → RdZ h (.ref a) (.dict kvs)
inductive RdZs (h : Heap) : List Value → List PyData → Prop
  | nil : RdZs h [] []
  | cons {v : Value} {d : PyData} {vs : List Value} {ds : List PyData} : RdZ h v d → RdZs h vs ds → RdZs h (v :: vs) (d :: ds)
end
section
variable {h : Heap}
mutual
theorem RdZ.reads : ∀ {v : Value} {d : PyData}, RdZ h v d → ∃ as, Reads h v d as
  | _, _, .non => ⟨_, .none⟩
  | _, _, .bl b => ⟨_, .bool b⟩
  | _, _, .int i t => ⟨_, .int i t⟩
  | _, _, .str x t => ⟨_, .str x t⟩
  | _, _, .lst e1 e2 e3 r => let ⟨_, q⟩ := RdZs.reads r; ⟨_, .list e1 e2 e3 q⟩
  | _, _, .tup e1 e2 e3 r => let ⟨_, q⟩ := RdZs.reads r; ⟨_, .tuple e1 e2 e3 q⟩
  | _, _, .dic _ e1 e2 e3 r1 r2 => let ⟨_, q1⟩ := RdZs.reads r1; let ⟨_, q2⟩ := RdZs.reads r2; ⟨_, .dict e1 e2 e3 q1 q2⟩
theorem RdZs.reads : ∀ {vs : List Value} {ds : List PyData}, RdZs h vs ds → ∃ as, ReadsAll h vs ds as
  | _, _, .nil => ⟨_, .nil⟩
  | _, _, .cons r rs => let ⟨_, q1⟩ := RdZ.reads r; let ⟨_, q2⟩ := RdZs.reads rs; ⟨_, .cons q1 q2⟩
end
variable {P : Program} {w : World}
theorem rk_pair {n : Nat} {b1 b2 : List Addr} {vs : List Value} {ts : List Str} (k : ReprAllK P w b1 h n vs ts) {m : Nat} (hm : n ≤ m) (hb : ∀ b ∈ b1, b ∈ b2) : ReprAllK P w b2 h m vs ts := k.more_le hb hm
mutual
theorem RdZ.rep : ∀ {v : Value} {d : PyData}, RdZ h v d → d.showable = true → d.shown.length ≤ sizeLine → ∃ bs, ReadAtMost h d.depth bs ∧ ReprK P w bs h d.depth v d.shown
  | _, _, .non, _, _ => ⟨[], (fun _ z => nomatch z), by simp only [PyData.shown]; exact .of_is ReprIs.none _ _ _⟩
  | _, _, .bl b, _, _ => ⟨[], (fun _ z => nomatch z), by simp only [PyData.shown]; exact .of_is (ReprIs.bool b) _ _ _⟩
  | _, _, .int i t, sh, _ => ⟨[], (fun _ z => nomatch z), by simp only [PyData.shown]; exact .of_is (ReprIs.int t (by simpa [PyData.showable] using sh)) _ _ _⟩
  | _, _, .str x t, _, sz => ⟨[], (fun _ z => nomatch z), by simp only [PyData.shown]; exact .of_is (ReprIs.str x t (by simpa only [PyData.shown] using sz)) _ _ _⟩
  | _, _, .lst (a := a) (its := its) (xs := xs) e1 e2 e3 r, sh, sz => by
    have sz' : (listText (PyData.shownAll xs)).length ≤ sizeLine := by simpa only [PyData.shown] using sz
    obtain ⟨bs, hb, hk⟩ := RdZs.rep r (by simpa [PyData.showable] using sh) (fun t ht => Nat.le_trans (listText_mem_le ht) sz')
    obtain ⟨as, rd⟩ := RdZ.reads (.lst e1 e2 e3 r)
    have nb : a ∉ bs := not_mem_of_deeper rd (by simp only [PyData.depth]; omega) hb
    refine ⟨a :: bs, ReadAtMost.cons rd (by simp only [PyData.depth]; omega) hb, ?_⟩
    simp only [PyData.depth, PyData.shown]
    obtain ⟨l⟩ := its
    cases l with
    | nil =>
      have r' : RdZs h [] xs := r
      cases r'
      simp only [PyData.shownAll, listText_nil]
      exact ReprK.listEmpty e1 e2 e3
    | cons x l => exact ReprK.list e1 e2 e3 nb (by simpa using hk.length_eq) (fun i y e => hk.item i y (by simpa using e))
  | _, _, .tup (a := a) (xs := xs) e1 e2 e3 r, sh, sz => by
    have sz' : (tupleText (PyData.shownAll xs)).length ≤ sizeLine := by simpa only [PyData.shown] using sz
    obtain ⟨bs, hb, hk⟩ := RdZs.rep r (by simpa [PyData.showable] using sh) (fun t ht => Nat.le_trans (tupleText_mem_le ht) sz')
    obtain ⟨as, rd⟩ := RdZ.reads (.tup e1 e2 e3 r)
    have nb : a ∉ bs := not_mem_of_deeper rd (by simp only [PyData.depth]; omega) hb
    refine ⟨a :: bs, ReadAtMost.cons rd (by simp only [PyData.depth]; omega) hb, ?_⟩
    simp only [PyData.depth, PyData.shown]
    exact ReprK.tuple e1 e2 e3 nb hk
  | _, _, .dic (a := a) (es := es) (kvs := kvs) e0 e1 e2 e3 r1 r2, sh, sz => by
    have sz' : (dictText (PyData.shownKv kvs)).length ≤ sizeLine := by simpa only [PyData.shown] using sz
    obtain ⟨s1, s2⟩ := PyData.showableKv_split kvs (by simpa [PyData.showable] using sh)
    obtain ⟨b1, h1, k1⟩ := RdZs.rep r1 s1 (fun t ht => by
      obtain ⟨p, hp, hl⟩ := PyData.shownKv_key_le kvs t ht
      exact Nat.le_trans hl (Nat.le_trans (dictText_mem_le hp) sz'))
    obtain ⟨b2, h2, k2⟩ := RdZs.rep r2 s2 (fun t ht => by
      obtain ⟨p, hp, hl⟩ := PyData.shownKv_val_le kvs t ht
      exact Nat.le_trans hl (Nat.le_trans (dictText_mem_le hp) sz'))
    obtain ⟨as, rd⟩ := RdZ.reads (.dic e0 e1 e2 e3 r1 r2)
    have hb : ReadAtMost h (PyData.depthKv kvs) (b1 ++ b2) := (h1.mono (PyData.depthAll_keys_le kvs)).append (h2.mono (PyData.depthAll_vals_le kvs))
    have nb : a ∉ b1 ++ b2 := not_mem_of_deeper rd (by simp only [PyData.depth]; omega) hb
    refine ⟨a :: (b1 ++ b2), ReadAtMost.cons rd (by simp only [PyData.depth]; omega) hb, ?_⟩
    simp only [PyData.depth, PyData.shown, PyData.shownKv_eq]
    exact ReprK.dict e1 e2 e3 e0 nb (ReprEntriesK.of_two es.toList _ _ (rk_pair k1 (PyData.depthAll_keys_le kvs) fun b hb => List.mem_append_left _ hb) (rk_pair k2 (PyData.depthAll_vals_le kvs) fun b hb => List.mem_append_right _ hb))
theorem RdZs.rep : ∀ {vs : List Value} {ds : List PyData}, RdZs h vs ds → PyData.showableAll ds = true → (∀ t ∈ PyData.shownAll ds, t.length ≤ sizeLine) → ∃ bs, ReadAtMost h (PyData.depthAll ds) bs ∧ ReprAllK P w bs h (PyData.depthAll ds) vs (PyData.shownAll ds)
  | _, _, .nil, _, _ => ⟨[], (fun _ z => nomatch z), by simp only [PyData.shownAll]; exact .nil⟩
  | _, _, .cons (d := d) (ds := ds) r rs, sh, sz => by
    have sh' : d.showable = true ∧ PyData.showableAll ds = true := by simpa [PyData.showableAll] using sh
    obtain ⟨b1, h1, k1⟩ := RdZ.rep r sh'.1 (sz _ (by simp only [PyData.shownAll]; exact List.mem_cons_self))
    obtain ⟨b2, h2, k2⟩ := RdZs.rep rs sh'.2 (fun t ht => sz t (by simp only [PyData.shownAll]; exact List.mem_cons_of_mem _ ht))
    refine ⟨b1 ++ b2, fun b hm => ?_, ?_⟩
    · simp only [PyData.depthAll]
      rcases List.mem_append.mp hm with z | z
      · obtain ⟨d', as', r', l⟩ := h1 b z
        exact ⟨d', as', r', by omega⟩
      · obtain ⟨d', as', r', l⟩ := h2 b z
        exact ⟨d', as', r', by omega⟩
    · simp only [PyData.depthAll, PyData.shownAll]
      exact .cons ((k1.more fun b hb => List.mem_append_left _ hb).level_le (by omega)) (rk_pair k2 (by omega) fun b hb => List.mem_append_right _ hb)
end
/-- repr of it -/
theorem RdZ.shows {a : Addr} {d : PyData} (r : RdZ h (.ref a) d) (sh : d.showable = true) (sz : d.shown.length ≤ sizeLine) : ∃ T idr, ShowsBy P w h a d T idr := by
  obtain ⟨as, rd⟩ := r.reads
  cases r with
  | @lst _ ob its n xs e1 e2 e3 r =>
    have sz' : (listText (PyData.shownAll xs)).length ≤ sizeLine := by simpa only [PyData.shown] using sz
    obtain ⟨bs, hb, hk⟩ := RdZs.rep (P := P) (w := w) r (by simpa [PyData.showable] using sh) (fun t ht => Nat.le_trans (listText_mem_le ht) sz')
    have nb : a ∉ bs := not_mem_of_deeper rd (by simp only [PyData.depth]; omega) hb
    refine ⟨"list", "list.__repr__", F.slot_list_repr.toG, F.slot_list_str, F.slot_list_format, fun s k0 => ⟨ob, k0 _ _ e1, e2⟩, fun A E s Q hg hu k0 hQ => ?_⟩
    simp only [PyData.depth] at hu
    simp only [PyData.shown] at hQ
    obtain ⟨l⟩ := its
    cases l with
    | nil =>
      have r' : RdZs h [] xs := r
      cases r'
      simp only [PyData.shownAll, listText_nil] at hQ
      exact call_list_repr_empty ⟨ob, k0 _ _ e1, e2⟩ (k0 _ _ e1) e3 (hQ s.heap _ _ fun _ _ e => e)
    | cons x l => exact call_list_reprK e1 e2 e3 nb (by simpa using hk.length_eq) (fun i y e => hk.item i y (by simpa using e)) hg (fun b _ => Clear.nil b) hu k0 hQ sz'
  | @tup _ ob its n xs e1 e2 e3 r =>
    have sz' : (tupleText (PyData.shownAll xs)).length ≤ sizeLine := by simpa only [PyData.shown] using sz
    obtain ⟨bs, hb, hk⟩ := RdZs.rep (P := P) (w := w) r (by simpa [PyData.showable] using sh) (fun t ht => Nat.le_trans (tupleText_mem_le ht) sz')
    have nb : a ∉ bs := not_mem_of_deeper rd (by simp only [PyData.depth]; omega) hb
    refine ⟨"tuple", "tuple.__repr__", F.slot_tuple_repr, F.slot_tuple_str, F.slot_tuple_format, fun s k0 => ⟨ob, k0 _ _ e1, e2⟩, fun A E s Q hg hu k0 hQ => ?_⟩
    simp only [PyData.depth] at hu
    simp only [PyData.shown] at hQ
    exact call_tuple_reprK e1 e2 e3 nb hk hg (fun b _ => Clear.nil b) hu k0 hQ sz'
  | @dic _ ob es n kvs e0 e1 e2 e3 r1 r2 =>
    have sz' : (dictText (PyData.shownKv kvs)).length ≤ sizeLine := by simpa only [PyData.shown] using sz
    obtain ⟨s1, s2⟩ := PyData.showableKv_split kvs (by simpa [PyData.showable] using sh)
    obtain ⟨b1, h1, k1⟩ := RdZs.rep (P := P) (w := w) r1 s1 (fun t ht => by
      obtain ⟨p, hp, hl⟩ := PyData.shownKv_key_le kvs t ht
      exact Nat.le_trans hl (Nat.le_trans (dictText_mem_le hp) sz'))
    obtain ⟨b2, h2, k2⟩ := RdZs.rep (P := P) (w := w) r2 s2 (fun t ht => by
      obtain ⟨p, hp, hl⟩ := PyData.shownKv_val_le kvs t ht
      exact Nat.le_trans hl (Nat.le_trans (dictText_mem_le hp) sz'))
    have hb : ReadAtMost h (PyData.depthKv kvs) (b1 ++ b2) := (h1.mono (PyData.depthAll_keys_le kvs)).append (h2.mono (PyData.depthAll_vals_le kvs))
    have nb : a ∉ b1 ++ b2 := not_mem_of_deeper rd (by simp only [PyData.depth]; omega) hb
    refine ⟨"dict", "dict.__repr__", F.slot_dict_repr, F.slot_dict_str, F.slot_dict_format, fun s k0 => ⟨ob, k0 _ _ e1, e2⟩, fun A E s Q hg hu k0 hQ => ?_⟩
    simp only [PyData.depth] at hu
    simp only [PyData.shown, PyData.shownKv_eq] at hQ
    exact call_dict_reprK e1 e2 e3 e0 nb (ReprEntriesK.of_two es.toList _ _ (rk_pair k1 (PyData.depthAll_keys_le kvs) fun b hb => List.mem_append_left _ hb) (rk_pair k2 (PyData.depthAll_vals_le kvs) fun b hb => List.mem_append_right _ hb)) hg (fun b _ => Clear.nil b) hu k0 hQ (by rw [← PyData.shownKv_eq]; exact sz')
end
end FL

set_option Elab.async false
set_option maxRecDepth 100000
set_option maxHeartbeats 2000000
namespace FL
open PySem PySem.Spec L2
section
variable {X : Cx} {pins : List (Addr × Obj)} {σ : L2.St} {H Z : Hp} {s : Shared}
theorem pyL_map : ∀ ds : List D, pyL ds = ds.map py
  | [] => rfl
  | d :: ds => congrArg (py d :: ·) (pyL_map ds)
theorem pyK_map : ∀ ds : List (Key × D), pyK ds = ds.map fun p => (pk p.1, py p.2)
  | [] => rfl
  | (k, d) :: ds => congrArg ((pk k, py d) :: ·) (pyK_map ds)
theorem keyIs_rdz {h : Heap} {k : Key} {v : Value} (e : keyIs k v = true) : RdZ h v (pk k) := by
  rcases keyIs_shape e with ⟨i, t, rfl, rfl⟩ | ⟨x, t, rfl, rfl⟩
  · exact .int i t
  · exact .str x t
theorem RdZ.isKey {h : Heap} {ks : List Key} : ∀ {vs : List Value}, Paired (fun (k : Key) (v : Value) => keyIs k v = true) ks vs → RdZs h vs (ks.map pk)
  | _, .nil => .nil
  | _, .cons e r => .cons (keyIs_rdz e) (RdZ.isKey r)
theorem keyV_rdz {h : Heap} : ∀ {ks : List Key} {us : List Value}, Vals (ks.map kV) us → RdZs h us (ks.map pk)
  | [], _, .nil => .nil
  | .inl i :: ks, _, .cons r rs => by obtain ⟨t, rfl⟩ := r; exact .cons (.int i t) (keyV_rdz rs)
  | .inr x :: ks, _, .cons r rs => by obtain ⟨t, rfl⟩ := r; exact .cons (.str x t) (keyV_rdz rs)
/-- a dict's entries -/
theorem ents_keys {knd : KeyKind X.prog X.w Key} (hk : ∀ k v, knd.is k v = true → keyIs k v = true) {h : Heap} : ∀ {es : List DictEntry} {kvs : List (Key × Value)}, Pairs knd es kvs → RdZs h (es.map (·.key)) (kvs.map fun p => pk p.1)
  | _, _, .nil => .nil
  | _, _, .cons e1 e2 r => .cons (keyIs_rdz (hk _ _ e1)) (ents_keys hk r)
theorem ents_vals {knd : KeyKind X.prog X.w Key} : ∀ {es : List DictEntry} {kvs : List (Key × Value)}, Pairs knd es kvs → es.map (·.val) = kvs.map (·.2)
  | _, _, .nil => rfl
  | _, _, .cons e1 e2 r => by rw [List.map_cons, List.map_cons, e2, ents_vals r]
theorem kv_keys {κ : Type} : ∀ {kvs : List (κ × V)} {vs : List (κ × Value)}, KV kvs vs → vs.map (·.1) = kvs.map (·.1)
  | _, _, .nil => rfl
  | _, _, .cons e r => by rw [List.map_cons, List.map_cons, e.1, kv_keys r]
mutual
theorem Rep.rdz (I : Inv X pins σ H s) (sb : Sub Z H) : ∀ {v : V} {d : D} {u : Value}, Rep X.K Z v d → RelV v u → RdZ s.heap u (py d)
  | _, _, _, .non, r => by cases r; exact .non
  | _, _, _, .bl b, r => by cases r; exact .bl b
  | _, _, _, .int i, r => by obtain ⟨t, rfl⟩ := r; exact .int i t
  | _, _, _, .str x, r => by obtain ⟨t, rfl⟩ := r; exact .str x t
  | _, _, _, .lst h l, r => by
    cases r
    obtain ⟨its, rv, ⟨o, k, ho, hc, _, hd⟩, _⟩ := I.list (sub_sq sb h)
    exact .lst ho hc hd (RepL.rdz I sb l rv)
  | _, _, _, .tup h l, r => by
    cases r
    obtain ⟨its, rv, ⟨o, ho, hc, k, hd⟩, _⟩ := I.tuple (SqT.of ((sb _ _ h).elim id fun z => z.2.elim))
    exact .tup ho hc hd (RepL.rdz I sb l rv)
  | _, _, _, .dic h l, r => by
    cases r
    obtain ⟨_, ne, vs, kv, o, es, ep, ho, hx, hd, _, hp, _⟩ := dk_rd I.hok (sub_r sb h)
    obtain ⟨k1, k2⟩ := RepK.rdz I sb l kv
    refine .dic ne ho hx.1 hd ?_ ?_
    · rw [k1]
      exact ents_keys (fun _ _ e => e) hp
    · rw [ents_vals hp]
      exact k2
  | _, _, _, .dit h l, r => by
    cases r
    obtain ⟨_, ne, xs, kt, o, es, ep, ho, hx, hd, he, _, _⟩ := dt_rd I.hok (sub_r sb h)
    obtain ⟨k1, k2⟩ := RepJ.rdz I sb l kt
    refine .dic ne ho hx.1 hd ?_ ?_
    · rw [he, List.map_map]
      exact k1
    · rw [he, List.map_map]
      exact k2
theorem RepL.rdz (I : Inv X pins σ H s) (sb : Sub Z H) : ∀ {vs : List V} {ds : List D} {us : List Value}, RepL X.K Z vs ds → Vals vs us → RdZs s.heap us (pyL ds)
  | _, _, _, .nil, r => by cases r; exact .nil
  | _, _, _, .cons h l, r => by
    cases r with
    | cons r1 r2 => exact .cons (Rep.rdz I sb h r1) (RepL.rdz I sb l r2)
theorem RepK.rdz (I : Inv X pins σ H s) (sb : Sub Z H) : ∀ {kvs : List (Key × V)} {kds : List (Key × D)} {vs : List (Key × Value)}, RepK X.K Z kvs kds → KV kvs vs → ((pyK kds).map (·.1) = vs.map fun p => pk p.1) ∧ RdZs s.heap (vs.map (·.2)) ((pyK kds).map (·.2))
  | _, _, _, .nil, r => by cases r; exact ⟨rfl, .nil⟩
  | _, _, _, .cons h l, r => by
    cases r with
    | cons r1 r2 =>
      obtain ⟨k1, k2⟩ := RepK.rdz I sb l r2
      refine ⟨?_, .cons (Rep.rdz I sb h r1.2) k2⟩
      rw [List.map_cons, ← k1, ← r1.1]
      rfl
theorem RepJ.rdz (I : Inv X pins σ H s) (sb : Sub Z H) : ∀ {kvs : List (List Key × V)} {kds : List (List Key × D)} {vs : List (List Key × Addr × Value)}, RepJ X.K Z kvs kds → KT H kvs vs →
    RdZs s.heap (vs.map ((·.key) ∘ entryOfKey (tupleKind (mixKind X.prog X.w)))) ((pyJ kds).map (·.1)) ∧ RdZs s.heap (vs.map ((·.val) ∘ entryOfKey (tupleKind (mixKind X.prog X.w)))) ((pyJ kds).map (·.2))
  | _, _, _, .nil, r => by cases r; exact ⟨.nil, .nil⟩
  | _, _, _, .cons (k := k) h l, r => by
    cases r with
    | @cons p q _ _ r1 r2 =>
      obtain ⟨k1, k2⟩ := RepJ.rdz I sb l r2
      obtain ⟨a, y, u⟩ := q
      obtain ⟨e1, e2, e3⟩ := r1
      refine ⟨.cons ?_ k1, .cons (Rep.rdz I sb h e3) k2⟩
      obtain ⟨_, its, rv, o, ho, hc, n, hd⟩ := (show ObjOk X.prog X.w H s.heap y (.tup (k.map kV)) from I.hok y _ e2)
      exact .tup ho hc hd (keyV_rdz (by simpa using rv))
end
theorem RdD.rdz (I : Inv X pins σ H s) (sb : Sub Z H) {v : V} {d : D} {u : Value} (h : RdD X.K Z H v d) (r : RelV v u) : RdZ s.heap u (py d) := by
  cases d with
  | non => exact Rep.rdz I sb (by rw [(show v = .non from h)]; exact .non) r
  | bl b => exact Rep.rdz I sb (by rw [(show v = .bl b from h)]; exact .bl b) r
  | int i => exact Rep.rdz I sb (by rw [(show v = .int i from h)]; exact .int i) r
  | str x => exact Rep.rdz I sb (by rw [(show v = .str x from h)]; exact .str x) r
  | lst ds =>
    obtain ⟨a, vs, rfl, h1, l⟩ := h
    cases r
    obtain ⟨its, rv, ⟨o, k, ho, hc, _, hd⟩, _⟩ := I.list h1
    exact .lst ho hc hd (RepL.rdz I sb l rv)
  | tup ds =>
    obtain ⟨a, vs, rfl, h1, l⟩ := h
    cases r
    obtain ⟨its, rv, ⟨o, ho, hc, k, hd⟩, _⟩ := I.tuple (SqT.of h1)
    exact .tup ho hc hd (RepL.rdz I sb l rv)
  | dic ds =>
    obtain ⟨a, kvs, rfl, h1, l⟩ := h
    cases r
    obtain ⟨_, ne, vs, kv, o, es, ep, ho, hx, hd, _, hp, _⟩ := dk_rd I.hok h1
    obtain ⟨k1, k2⟩ := RepK.rdz I sb l kv
    refine .dic ne ho hx.1 hd ?_ ?_
    · rw [k1]
      exact ents_keys (fun _ _ e => e) hp
    · rw [ents_vals hp]
      exact k2
  | dit ds =>
    obtain ⟨a, kvs, rfl, h1, l⟩ := h
    cases r
    obtain ⟨_, ne, xs, kt, o, es, ep, ho, hx, hd, he, _, _⟩ := dt_rd I.hok h1
    obtain ⟨k1, k2⟩ := RepJ.rdz I sb l kt
    refine .dic ne ho hx.1 hd ?_ ?_
    · rw [he, List.map_map]
      exact k1
    · rw [he, List.map_map]
      exact k2
/-- the text of a thing, if it is not too long and nests little -/
@[irreducible] def shD (d : D) : Str := (py d).shown
def shOk (d : D) : Bool := (py d).showable && decide ((py d).shown.length ≤ sizeLine) && decide ((py d).depth ≤ 100)
def reprF (d : D) : Option R := if shOk d = true then some (.fz (.str (shD d))) else none
theorem cd_repr (hg : X.A.guards = some []) (hu : X.A.units + 200 < cLine) : CallD X (.builtin "repr") (d1 reprF) := by
  intro pins s σ H vs us Q Z ds r I rv sb hd e q
  obtain ⟨d, rfl, e⟩ := d1_some e
  obtain ⟨ok, e'⟩ := ite_some (show (if shOk d = true then some (R.fz (.str (shD d))) else none) = some r from e)
  cases e'
  unfold shOk at ok
  obtain ⟨ok, h3⟩ := Bool.and_eq_true_iff.mp ok
  obtain ⟨h1, h2⟩ := Bool.and_eq_true_iff.mp ok
  have h2 := of_decide_eq_true h2
  have h3 := of_decide_eq_true h3
  have es : shD d = (py d).shown := by unfold shD; rfl
  cases hd with
  | cons h t =>
    cases t
    cases rv with
    | cons rv tv =>
      cases tv
      have z := RdD.rdz I sb h rv
      have go : ∀ {h' : Heap} {u tk : Nat}, (∀ b o, s.heap.get? b = some o → h'.get? b = some o) → EP X pins σ Q (.str (py d).shown u) { s with heap := h', toks := tk } := fun {h' u tk} k => by
        refine ⟨.str (py d).shown, H, I.un (t' := tk) (Un.kept k) (I.hok.kept k), ⟨u, rfl⟩, ?_⟩
        rw [← es]
        exact q _ _ (.same (.str _))
      cases d with
      | non =>
        cases z
        refine PySem.P.repr_of_none ?_
        have k := go (h' := s.heap) (u := s.toks) (tk := s.toks + 1) fun _ _ e => e
        simpa only [py, PyData.shown] using k
      | bl b =>
        cases z
        refine PySem.P.repr_of_bool ?_
        have k := go (h' := s.heap) (u := s.toks) (tk := s.toks + 1) fun _ _ e => e
        simpa only [py, PyData.shown] using k
      | int i =>
        cases z
        refine PySem.P.repr_of_int (by simpa [py, PyData.showable] using h1) ?_
        have k := go (h' := s.heap) (u := s.toks) (tk := s.toks + 1) fun _ _ e => e
        simpa only [py, PyData.shown] using k
      | str x =>
        cases z
        refine PySem.P.repr_of_str ?_ (by simpa only [py, PyData.shown] using h2)
        have k := go (h' := s.heap) (u := s.toks) (tk := s.toks + 1) fun _ _ e => e
        simpa only [py, PyData.shown] using k
      | lst ds =>
        obtain ⟨a, _, rfl, _⟩ := h
        cases rv
        obtain ⟨T, idr, S⟩ := RdZ.shows (P := X.prog) (w := X.w) z h1 h2
        exact call_repr_slot (by omega) (S.typeIs s fun _ _ e => e) S.slotRepr (S.call X.A.in1 _ s _ hg (by show X.A.units + 1 + _ < cLine; omega) (fun _ _ e => e) fun h' u tk k => ⟨_, _, rfl, go k⟩)
      | tup ds =>
        obtain ⟨a, _, rfl, _⟩ := h
        cases rv
        obtain ⟨T, idr, S⟩ := RdZ.shows (P := X.prog) (w := X.w) z h1 h2
        exact call_repr_slot (by omega) (S.typeIs s fun _ _ e => e) S.slotRepr (S.call X.A.in1 _ s _ hg (by show X.A.units + 1 + _ < cLine; omega) (fun _ _ e => e) fun h' u tk k => ⟨_, _, rfl, go k⟩)
      | dic ds =>
        obtain ⟨a, _, rfl, _⟩ := h
        cases rv
        obtain ⟨T, idr, S⟩ := RdZ.shows (P := X.prog) (w := X.w) z h1 h2
        exact call_repr_slot (by omega) (S.typeIs s fun _ _ e => e) S.slotRepr (S.call X.A.in1 _ s _ hg (by show X.A.units + 1 + _ < cLine; omega) (fun _ _ e => e) fun h' u tk k => ⟨_, _, rfl, go k⟩)
      | dit ds =>
        obtain ⟨a, _, rfl, _⟩ := h
        cases rv
        obtain ⟨T, idr, S⟩ := RdZ.shows (P := X.prog) (w := X.w) z h1 h2
        exact call_repr_slot (by omega) (S.typeIs s fun _ _ e => e) S.slotRepr (S.call X.A.in1 _ s _ hg (by show X.A.units + 1 + _ < cLine; omega) (fun _ _ e => e) fun h' u tk k => ⟨_, _, rfl, go k⟩)
end
end FL

set_option Elab.async false
set_option maxRecDepth 100000
set_option maxHeartbeats 2000000
namespace FL
open PySem PySem.Spec L2

/-! ### calls with keywords -/
theorem seqs_app : ∀ {Fs Gs : List Sm} {ρ : En}, seqs (Fs ++ Gs) ρ = (seqs Fs ρ).bind fun p => (seqs Gs p.2).bind fun q => some (p.1 ++ q.1, q.2)
  | [], Gs, ρ => by
    show seqs Gs ρ = (seqs Gs ρ).bind fun q => some (q.1, q.2)
    cases seqs Gs ρ <;> rfl
  | F :: Fs, Gs, ρ => by
    show ((F ρ).bind fun p => (seqs (Fs ++ Gs) p.2).bind fun q => some (p.1 :: q.1, q.2)) = ((F ρ).bind fun p => (seqs Fs p.2).bind fun q => some (p.1 :: q.1, q.2)).bind _
    cases F ρ with
    | none => rfl
    | some p =>
      show ((seqs (Fs ++ Gs) p.2).bind fun q => some (p.1 :: q.1, q.2)) = ((seqs Fs p.2).bind fun q => some (p.1 :: q.1, q.2)).bind _
      rw [seqs_app]
      cases seqs Fs p.2 with
      | none => rfl
      | some q =>
        show ((seqs Gs q.2).bind fun z => some (q.1 ++ z.1, z.2)).bind (fun q => some (p.1 :: q.1, q.2)) = (seqs Gs q.2).bind fun z => some (p.1 :: q.1 ++ z.1, z.2)
        cases seqs Gs q.2 <;> rfl
theorem seqs_len : ∀ {Fs : List Sm} {ρ ρ' : En} {rs : List R}, seqs Fs ρ = some (rs, ρ') → rs.length = Fs.length
  | [], _, _, _, e => by cases e; rfl
  | F :: Fs, ρ, ρ', rs, e => by
    obtain ⟨p, h1, e⟩ := Option.bind_eq_some_iff.mp e
    obtain ⟨q, h2, e⟩ := Option.bind_eq_some_iff.mp e
    cases e
    exact congrArg (· + 1) (seqs_len (rs := q.1) (ρ' := q.2) h2)
section
variable {K : PySem.W.Frag} {Z H Z' H' : Hp} {σ : L2.St}
theorem RRs.len : ∀ {vs : List V} {rs : List R} {l : List Addr}, RRs K Z H σ vs rs l → vs.length = rs.length
  | _, _, _, .nil => rfl
  | _, _, _, .cons _ r _ => congrArg (· + 1) (RRs.len r)
theorem RRs.app : ∀ {vs ws : List V} {rs ss : List R} {l m : List Addr}, RRs K Z H σ vs rs l → RRs K Z H σ ws ss m → (∀ p ∈ l, p ∉ m) → RRs K Z H σ (vs ++ ws) (rs ++ ss) (l ++ m)
  | _, _, _, _, _, _, .nil, s, _ => s
  | _, _, _, _, _, m, .cons (l := l) (ls := ls) h r n, s, d => by
    have t := RRs.app r s fun p hp => d p (List.mem_append_right _ hp)
    have := RRs.cons h t fun p hp z => (List.mem_append.mp z).elim (n p hp) (d p (List.mem_append_left _ hp))
    rw [← List.append_assoc] at this
    exact this
theorem ta_split {Fs Gs : List Sm} {H : Hp} {k : List V → Hp → Prop} (h : tA K (Fs ++ Gs) σ H k) : tA K Fs σ H fun vs H1 => tA K Gs σ H1 fun zs H2 => vs.length = Fs.length ∧ zs.length = Gs.length ∧ k (vs ++ zs) H2 := by
  obtain ⟨Z, ρ, fp, rs, ρ', g, e, k⟩ := h
  rw [seqs_app] at e
  obtain ⟨⟨r1, ρ1⟩, h1, e⟩ := Option.bind_eq_some_iff.mp e
  obtain ⟨⟨r2, ρ2⟩, h2, e⟩ := Option.bind_eq_some_iff.mp e
  cases e
  refine ⟨Z, ρ, fp, r1, ρ1, g, h1, fun Z1 H1 v1 fp1 l1 g1 R1 n1 P1 => ⟨Z1, ρ1, fp1, r2, _, g1, h2, fun Z2 H2 vs fp2 l2 g2 R2 n2 P2 => ?_⟩⟩
  obtain ⟨R1', n1'⟩ := R1.stay n1 P2
  refine ⟨by rw [R1.len, seqs_len h1], by rw [R2.len, seqs_len h2], ?_⟩
  refine k Z2 H2 _ fp2 (l1 ++ l2) g2 (RRs.app R1' R2 fun p hp z => n1' p hp (.inr z)) (fun p hp => (List.mem_append.mp hp).elim (fun z w => n1' p z (.inl w)) (n2 p)) (P1.trans (P2.wide (fun p q => .inl q) fun p q => ?_))
  rcases q with q | q
  · exact .inl (.inl q)
  · exact (List.mem_append.mp q).elim (fun z => .inr (.inr z)) fun z => .inl (.inr z)
end
theorem pk_weak {X : Cx} {kws : List Keyword} {t t' : TA} (h : PK X kws t) (w : ∀ σ H Q, t' σ H Q → t σ H Q) : PK X kws t' := ⟨fun pos pins s σ H Q I q => h.run pos pins s σ H Q I (w σ H Q q)⟩
theorem sk_nil {X : Cx} : PK X [] (tA X.K []) := pk_weak pk_nil fun σ H Q ⟨Z, ρ, fp, rs, ρ', g, e, k⟩ => by
  cases e
  exact k Z H [] fp [] g .nil (fun p hp => by cases hp) (Post.refl.weak fun p q => q.elim id fun z => by cases z)
theorem sk_cons {X : Cx} {nm : Option Str} {e : Expr} {kpos : Pos} {kws : List Keyword} {F : Sm} {Fs : List Sm} (he : PE X e (tE X.K F)) (hr : PK X kws (tA X.K Fs)) : PK X (⟨nm, e, kpos⟩ :: kws) (tA X.K (F :: Fs)) := pk_weak (pk_cons he hr) fun σ H Q q => by
  obtain ⟨Z, ρ, fp, rs, ρ', g, h, k⟩ := q
  obtain ⟨⟨r1, ρ1⟩, h1, h⟩ := Option.bind_eq_some_iff.mp h
  obtain ⟨⟨rs', ρ2⟩, h2, h⟩ := Option.bind_eq_some_iff.mp h
  cases h
  refine ⟨Z, ρ, fp, r1, ρ1, g, h1, fun Z1 H1 v1 fp1 l1 g1 R1 n1 P1 => ⟨Z1, ρ1, fp1, rs', _, g1, h2, fun Z2 H2 vs fp2 l2 g2 R2 n2 P2 => ?_⟩⟩
  obtain ⟨R1', n1'⟩ := R1.stay n1 P2
  refine k Z2 H2 _ fp2 (l1 ++ l2) g2 (.cons R1' R2 fun p hp z => n1' p hp (.inr z)) (fun p hp => (List.mem_append.mp hp).elim (fun z w => n1' p z (.inl w)) (n2 p)) (P1.trans (P2.wide (fun p q => .inl q) fun p q => ?_))
  rcases q with q | q
  · exact .inl (.inl q)
  · exact (List.mem_append.mp q).elim (fun z => .inr (.inr z)) fun z => .inl (.inr z)
/-- a def with a keyword-only parameter (ks), called with it -/
structure CalK (P : Program) (w : World) (K : PySem.W.Frag) (mg : Str → Option Value) (base : Heap) (k : Nat) (x : Str) (n : Nat) (ks : List Str) (fn : Fn) : Prop where
  ex : ∃ (f : Addr) (fd : FuncData) (ps : List Str), FnG P w K mg base k f fd ps (spOf K fn) ∧ mg x = some (.ref f) ∧ PySem.W.keepIn K (.ref f) = true ∧ KBn K fd ps n ks (fun us ws => us ++ ws) (fun vs zs => vs ++ zs)
theorem kb_all {K : PySem.W.Frag} {x qual : Str} {params : Arguments} {body : List Stmt} {scope : Scope} {kws : List (Str × V)} {f : Addr} {fd : FuncData} {ps ks : List Str} {n : Nat} (F : FunD K x qual params body scope [] kws f fd) (hk : kws ≠ [])
    (h : ∀ (D : Addr) (doc pm : Value) (an : Option Addr) (cdv ct : Value) (us ws : List Value), us.length = n → ws.length = ks.length → bindArgs (PySem.W.fnOf x qual params body scope .none (.ref D) doc pm an cdv ct) ⟨us, ks.zip ws⟩ = pure (ps.zip (us ++ ws))) :
    KBn K fd ps n ks (fun us ws => us ++ ws) (fun vs zs => vs ++ zs) := by
  obtain ⟨oc, od, dV, kV, doc, pm, an, cdv, ct, osl, rfl, lk, hcd, hD, hK⟩ := F.ex
  rcases hD with ⟨_, rfl⟩ | ⟨e, _⟩
  · rcases hK with e | ⟨D, rfl, hq⟩
    · exact absurd e hk
    · exact ⟨fun s us ws X l1 l2 => .of_eq (h D doc pm an cdv ct us ws l1 l2), fun r1 r2 => r1.append r2⟩
  · exact absurd rfl e
section
variable {X : Cx} {j k n : Nat} {x : Str} {fn : Fn} {ks : List Str} {e : Expr} {es : List Expr} {kws : List Keyword} {p pos : Pos} {Fs Gs : List Sm}
theorem se_callK (c : CalK X.prog X.w X.K X.mg X.base k x n ks fn) (hr : Room j X.A) (hg : X.A.guards = some []) (hk : Nat.ble k j = true) (hx : Gl X x) (ha : PA X (e :: es) (tA X.K Fs)) (hkw : PK X kws (tA X.K Gs)) (hdb : (x == ("__debug__" : Str)) = false) (hs : (e :: es).all notStar = true)
    (hn : Fs.length = n) (hm : Gs.length = ks.length) (hall : (backToKw pos (keywordEach kws X.env)).all (·.1.isSome) = true) (hks : (backToKw pos (keywordEach kws X.env)).filterMap (·.1) = ks) (hno : (backToKw pos (keywordEach kws X.env)).any (·.1.isNone) = false) :
    PE X (.Call (.Name x p) (e :: es) kws pos) (tE X.K (cll (Fs ++ Gs) [] fn)) := by
  obtain ⟨f, fd, ps, F, hm', kp, hb⟩ := c.ex
  constructor
  intro pins s σ H G I h
  have hs' := hs
  rw [List.all_cons, Bool.and_eq_true] at hs'
  have hpl : ((backTo pos (starEach (e :: es) X.env)).any (·.1) || (backToKw pos (keywordEach kws X.env)).any (·.1.isNone)) = false := by
    rw [plain_back (X := X) (pos := pos) (es := e :: es) hs, hno]
    rfl
  refine wpAny_Call_Name_kw (ld_glob I hx hm' ?_ hdb)
  have q0 := ta_split (cll_go (E0 := E0) (ws := []) (fun _ => .nil) h)
  refine PySem.W.callWith_KW (h₀ := X.base) I.ok.mod.kin kp hall (thn (ha.run pos pins s σ H _ I q0) fun us s1 ⟨vs, H1, I1, r, q⟩ => ?_) hpl (star_ok hs'.1)
  refine thn (hkw.run pos pins s1 σ H1 _ I1 q) fun ws s2 ⟨zs, H2, I2, rz, l1, l2, q2⟩ => ⟨I2.kIn, ?_⟩
  rw [hks]
  rw [List.append_nil] at q2
  have hv := hb.rel r rz
  refine wpAny_call (codeAny_mono (F.does X.A X.stack s2 H2 ⟨us, ks.zip ws⟩ (us ++ ws) (vs ++ zs) G (hr.mono (Nat.le_of_ble_eq_true hk)) hg I2.env0 (hb.to s2 us ws I2.kIn (r.length.symm.trans (l1.trans hn)) (rz.length.symm.trans (l2.trans hm))) hv q2) fun r s' hq => ?_)
  cases r with
  | error e => exact (show False from hq).elim
  | ok fl =>
    cases fl with
    | ret u => exact I2.after hq
    | next => exact (show False from hq).elim
    | brk => exact (show False from hq).elim
    | cont => exact (show False from hq).elim
end
end FL

set_option Elab.async false
set_option maxRecDepth 100000
set_option maxHeartbeats 2000000
namespace FL
open PySem PySem.Spec L2
section
variable {X : Cx} {kp : Nat → Bool} {a b c : Expr} {F1 F2 F3 : Sm} {pos : Pos}
/-- a, b, c = x, y, z where a name is a cell -/
theorem ss_par3C {i j h : Nat} {x y z : Str} {px py pz pt : Pos} {kt k2 : Nat} {pt2 : Pos} (hc : X.calm = true) (hN : X.N.Nodup) (hi : X.N[i]? = some x) (hj : X.N[j]? = some y) (hh : X.N[h]? = some z) (ki : kp i = false) (kj : kp j = false) (kh : kp h = false)
    (hx : Loc X.env.scope x) (hy : Loc X.env.scope y) (hz : Loc X.env.scope z) (fx : X.fn x = true ∨ X.env.scope.names.lookup x = some .local) (fy : X.fn y = true ∨ X.env.scope.names.lookup y = some .local) (fz : X.fn z = true ∨ X.env.scope.names.lookup z = some .local) (ha : PA X [a, b, c] (tA X.K [F1, F2, F3]))
    (hw : swappedStores [.Tuple [.Name x px, .Name y py, .Name z pz] kt pt] (.Tuple [a, b, c] k2 pt2) X.env = pure none) (hs : swapsWithSole [.Tuple [.Name x px, .Name y py, .Name z pz] kt pt] (.Tuple [a, b, c] k2 pt2) pos.line X.env = pure false)
    (h1 : (assignEach [.Tuple [.Name x px, .Name y py, .Name z pz] kt pt] X.env).map (·.2) = [assign (.Tuple [.Name x px, .Name y py, .Name z pz] kt pt) X.env]) :
    PS X (.Assign [.Tuple [.Name x px, .Name y py, .Name z pz] kt pt] (.Tuple [a, b, c] k2 pt2) pos) (tS X.K kp (parF3 i j h F1 F2 F3)) := by
  have hg : PG X (.Tuple [.Name x px, .Name y py, .Name z pz] kt pt) (gTup X.K 3 (gCons (gName i) (gCons (gName j) (gCons (gName h) gNil)))) :=
    pg_tup hc (pgs_cons (pg_name hN hi hx fx) (pgs_cons (pg_name hN hj hy fy) (pgs_cons (pg_name hN hh hz fz) pgs_nil rfl) rfl) rfl) rfl rfl
  refine ps_weak (ps_asg (pe_tup ha) hg hs hw h1) ?_
  rintro D σ H ⟨Z, ρ, fp, fl, ρ', gd, e, k⟩
  obtain ⟨⟨rs, ρ1⟩, e1, e⟩ := Option.bind_eq_some_iff.mp e
  obtain ⟨⟨ts, ρ2⟩, e2, e⟩ := Option.bind_eq_some_iff.mp e
  refine ⟨Z, ρ, fp, rs, ρ1, gd, e1, fun Z' H' vs fp' l g' R' n P => ?_⟩
  obtain ⟨Z2, fp2, m, g2, o2, a2, b2, P2⟩ := owns_ok g' R' n e2
  have e3 : put3 i j h ρ2 ts = some (fl, ρ') := e
  cases o2 with
  | nil => cases e3
  | cons o1 o2 d1 =>
    cases o2 with
    | nil => cases e3
    | cons o2 o3 d2 =>
      cases o3 with
      | nil => cases e3
      | cons o3 o4 d3 =>
        cases o4 with
        | cons _ _ _ => cases e3
        | nil =>
          rename_i v t l1 w u l2 s r l3
          have e4 : (if i < ρ2.length ∧ j < ρ2.length ∧ h < ρ2.length then some (Fl.nx, ((ρ2.set i (some t)).set j (some u)).set h (some r)) else none) = some (fl, ρ') := e3
          by_cases hl : i < ρ2.length ∧ j < ρ2.length ∧ h < ρ2.length
          · rw [if_pos hl] at e4
            cases e4
            refine ⟨by show 3 ≤ sizeLine; decide, fun p hp => ⟨p, [v, w, s], rfl, SqT.of upd_same, rfl, v, [w, s], rfl, w, [s], rfl, s, [], rfl, rfl, ?_⟩⟩
            have g2' : Good X.K Z2 (upd H' p (.tup [v, w, s])) σ ρ2 fp2 := g2.new hp
            have up : ∀ q u, H' q = some u → upd H' p (.tup [v, w, s]) q = some u := upd_keep hp
            have o1' : OwnT X.K Z2 (upd H' p (.tup [v, w, s])) v t l1 := OwnT.mono (Same.refl _) (fun q _ u e => up q u e) (fun q hq => (OwnT.there o1 q hq).2) o1
            have o2' : OwnT X.K Z2 (upd H' p (.tup [v, w, s])) w u l2 := OwnT.mono (Same.refl _) (fun q _ u e => up q u e) (fun q hq => (OwnT.there o2 q hq).2) o2
            have o3' : OwnT X.K Z2 (upd H' p (.tup [v, w, s])) s r l3 := OwnT.mono (Same.refl _) (fun q _ u e => up q u e) (fun q hq => (OwnT.there o3 q hq).2) o3
            have g3 := g2'.put hl.1 o1' fun p hp => .inr (a2 p (by simp [hp]))
            have n2 : ∀ p ∈ l2, ¬ E (fun z => if z = i then l1 else fp2 z) p := fun p hp z => by
              rcases E_put z with y | y
              · exact d1 p y (by simp [hp])
              · exact a2 p (by simp [hp]) y
            have g4 := g3.put (i := j) (by rw [List.length_set]; exact hl.2.1) o2' fun p hp => .inr (n2 p hp)
            have n3 : ∀ p ∈ l3, ¬ E (fun z => if z = j then l2 else if z = i then l1 else fp2 z) p := fun p hp z => by
              rcases E_put z with y | y
              · exact d2 p y (by simp [hp])
              · rcases E_put y with y | y
                · exact d1 p y (by simp [hp])
                · exact a2 p (by simp [hp]) y
            have g5 := g4.put (i := h) (by rw [List.length_set, List.length_set]; exact hl.2.2) o3' fun p hp => .inr (n3 p hp)
            have P3 : Post Z2 H' (fun q => E fp2 q ∨ q ∈ l1 ++ (l2 ++ (l3 ++ []))) Z2 (upd H' p (.tup [v, w, s])) (fun q => E fp2 q ∨ q ∈ l1 ++ (l2 ++ (l3 ++ []))) := (Post.new hp).weak fun q z => .inl z
            refine (show Ke X.K Z H fp σ kp _ D.nx from k) Z2 _ _ _ g5 (((keepS.set ki).trans (keepS.set kj)).trans (keepS.set kh)) (((P.trans P2).trans P3).weak fun p q => ?_)
            rcases E_put q with y | y
            · exact .inr (by simp [y])
            · rcases E_put y with y | y
              · exact .inr (by simp [y])
              · rcases E_put y with y | y
                · exact .inr (by simp [y])
                · exact .inl y
          · rw [if_neg hl] at e4; cases e4
end
end FL

set_option Elab.async false
set_option maxRecDepth 100000
set_option maxHeartbeats 2000000
set_option exponentiation.threshold 100000
namespace FL
open PySem PySem.Spec L2
/-! ### when repr has room -/
def nodKey : Key → Nat
  | .inl _ => 340
  | .inr x => x.length + 1
mutual
def nod : D → Nat
  | .non => 1
  | .bl _ => 1
  | .int _ => 340
  | .str x => x.length + 1
  | .lst xs => nodL xs + 1
  | .tup xs => nodL xs + 1
  | .dic kvs => nodK kvs + 1
  | .dit _ => 1
def nodL : List D → Nat
  | [] => 0
  | d :: ds => nod d + 1 + nodL ds
def nodK : List (Key × D) → Nat
  | [] => 0
  | (k, d) :: ds => nodKey k + nod d + 2 + nodK ds
end
def okI (i : Int) : Bool := decide (i.natAbs < 10 ^ 100)
def okT (x : Str) : Bool := x.cps.toList.all fun c => decide (c < 16 ^ 8)
def okKey : Key → Bool
  | .inl i => okI i
  | .inr x => okT x
mutual
/-- small leaves, nested at most n deep -/
def okL : Nat → D → Bool
  | _, .non => true
  | _, .bl _ => true
  | _, .int i => okI i
  | _, .str x => okT x
  | n + 1, .lst xs => okLs n xs
  | n + 1, .tup xs => okLs n xs
  | n + 1, .dic kvs => okLk n kvs
  | _, _ => false
def okLs : Nat → List D → Bool
  | _, [] => true
  | n, d :: ds => okL n d && okLs n ds
def okLk : Nat → List (Key × D) → Bool
  | _, [] => true
  | n, (k, d) :: ds => okKey k && okL n d && okLk n ds
end
theorem okI_ok {i : Int} (h : okI i = true) : (PyData.int i).showable = true ∧ (PyData.int i).leavesShort 110 = true ∧ (PyData.int i).weight ≤ 340 := by
  unfold okI at h
  have h := of_decide_eq_true h
  have l : i.natAbs.log2 < 339 := by
    by_cases z : i.natAbs = 0
    · rw [z]; decide
    · exact (Nat.log2_lt z).mpr (Nat.lt_of_lt_of_le h (by decide))
  refine ⟨by simp only [PyData.showable]; exact decide_eq_true (by omega), ?_, ?_⟩
  · simp only [PyData.leavesShort]
    have e := int_text_length_le10 (k := 100) (by decide) h
    refine decide_eq_true ?_
    show (Str.ofString (toString i)).length ≤ 110
    rw [ofString_length]; omega
  · simp only [PyData.weight]
    split <;> omega
theorem okT_ok {x : Str} (h : okT x = true) : (PyData.str x).showable = true ∧ (PyData.str x).leavesShort 110 = true ∧ (PyData.str x).weight ≤ x.length + 1 := by
  refine ⟨by simp only [PyData.showable], by simp only [PyData.leavesShort]; exact h, ?_⟩
  simp only [PyData.weight]
  exact Nat.le_succ _
mutual
theorem okL_ok : ∀ {n : Nat} {d : D}, okL n d = true → (py d).showable = true ∧ (py d).leavesShort 110 = true ∧ (py d).weight ≤ nod d ∧ (py d).depth ≤ n
  | n, .non, _ => by simp [py, PyData.showable, PyData.leavesShort, PyData.weight, PyData.depth, nod]
  | n, .bl b, _ => by simp [py, PyData.showable, PyData.leavesShort, PyData.weight, PyData.depth, nod]
  | n, .int i, h => by
    obtain ⟨a, b, c⟩ := okI_ok (i := i) (by cases n <;> simpa [okL] using h)
    exact ⟨a, b, by simp only [nod]; exact c, by simp [py, PyData.depth]⟩
  | n, .str x, h => by
    obtain ⟨a, b, c⟩ := okT_ok (x := x) (by cases n <;> simpa [okL] using h)
    exact ⟨a, b, by simp only [nod]; exact c, by simp [py, PyData.depth]⟩
  | n + 1, .lst xs, h => by
    obtain ⟨a, b, c, d⟩ := okLs_ok (n := n) (xs := xs) (by simpa [okL] using h)
    simp only [py, PyData.showable, PyData.leavesShort, PyData.weight, PyData.depth, nod]
    exact ⟨a, b, by omega, by omega⟩
  | n + 1, .tup xs, h => by
    obtain ⟨a, b, c, d⟩ := okLs_ok (n := n) (xs := xs) (by simpa [okL] using h)
    simp only [py, PyData.showable, PyData.leavesShort, PyData.weight, PyData.depth, nod]
    exact ⟨a, b, by omega, by omega⟩
  | n + 1, .dic kvs, h => by
    obtain ⟨a, b, c, d⟩ := okLk_ok (n := n) (xs := kvs) (by simpa [okL] using h)
    simp only [py, PyData.showable, PyData.leavesShort, PyData.weight, PyData.depth, nod]
    exact ⟨a, b, by omega, by omega⟩
  | 0, .lst xs, h => by simp [okL] at h
  | 0, .tup xs, h => by simp [okL] at h
  | 0, .dic xs, h => by simp [okL] at h
  | 0, .dit xs, h => by simp [okL] at h
  | n + 1, .dit xs, h => by simp [okL] at h
theorem okLs_ok : ∀ {n : Nat} {xs : List D}, okLs n xs = true → PyData.showableAll (pyL xs) = true ∧ PyData.leavesShortAll 110 (pyL xs) = true ∧ PyData.weightAll (pyL xs) ≤ nodL xs ∧ PyData.depthAll (pyL xs) ≤ n
  | n, [], _ => by simp [pyL, PyData.showableAll, PyData.leavesShortAll, PyData.weightAll, PyData.depthAll, nodL]
  | n, d :: ds, h => by
    obtain ⟨h1, h2⟩ := Bool.and_eq_true_iff.mp (show (okL n d && okLs n ds) = true by simpa [okLs] using h)
    obtain ⟨a, b, c, e⟩ := okL_ok h1
    obtain ⟨a', b', c', e'⟩ := okLs_ok h2
    simp only [pyL, PyData.showableAll, PyData.leavesShortAll, PyData.weightAll, PyData.depthAll, nodL, a, b, a', b', Bool.and_self]
    exact ⟨trivial, trivial, by omega, by omega⟩
theorem okLk_ok : ∀ {n : Nat} {xs : List (Key × D)}, okLk n xs = true → PyData.showableKv (pyK xs) = true ∧ PyData.leavesShortKv 110 (pyK xs) = true ∧ PyData.weightKv (pyK xs) ≤ nodK xs ∧ PyData.depthKv (pyK xs) ≤ n
  | n, [], _ => by simp [pyK, PyData.showableKv, PyData.leavesShortKv, PyData.weightKv, PyData.depthKv, nodK]
  | n, (k, d) :: ds, h => by
    obtain ⟨h12, h3⟩ := Bool.and_eq_true_iff.mp (show (okKey k && okL n d && okLk n ds) = true by simpa [okLk] using h)
    obtain ⟨h1, h2⟩ := Bool.and_eq_true_iff.mp h12
    obtain ⟨a, b, c, e⟩ := okL_ok h2
    obtain ⟨a', b', c', e'⟩ := okLk_ok h3
    cases k with
    | inl i =>
      obtain ⟨a'', b'', c''⟩ := okI_ok (i := i) h1
      simp only [pyK, pk, PyData.showableKv, PyData.leavesShortKv, PyData.weightKv, PyData.depthKv, nodK, nodKey, a, b, a', b', a'', b'', Bool.and_self]
      refine ⟨trivial, trivial, by omega, ?_⟩
      simp only [PyData.depth]
      omega
    | inr x =>
      obtain ⟨a'', b'', c''⟩ := okT_ok (x := x) h1
      simp only [pyK, pk, PyData.showableKv, PyData.leavesShortKv, PyData.weightKv, PyData.depthKv, nodK, nodKey, a, b, a', b', a'', b'', Bool.and_self]
      refine ⟨trivial, trivial, by omega, ?_⟩
      simp only [PyData.depth]
      omega
end
theorem shOk_of {n : Nat} {d : D} (h : okL n d = true) (hn : n ≤ 100) (hd : nod d ≤ 149000) : shOk d = true := by
  obtain ⟨a, b, c, e⟩ := okL_ok h
  have k := PyData.shown_le 110 (by decide) (py d) b
  have z : (py d).shown.length ≤ sizeLine := by
    rw [sizeLine_eq]
    omega
  unfold shOk
  rw [a, decide_eq_true z, decide_eq_true (show (py d).depth ≤ 100 by omega)]
  rfl
theorem reprF_ok {n : Nat} {d : D} (h : okL n d = true) (hn : n ≤ 100) (hd : nod d ≤ 149000) : reprF d = some (.fz (.str (shD d))) := by
  unfold reprF
  rw [if_pos (shOk_of h hn hd)]
theorem okLs_all {n : Nat} : ∀ {xs : List D}, (∀ x ∈ xs, okL n x = true) → okLs n xs = true
  | [], _ => by simp [okLs]
  | x :: xs, h => by
    simp only [okLs, h x List.mem_cons_self, okLs_all fun y hy => h y (List.mem_cons_of_mem _ hy), Bool.and_self]
theorem nodL_le {c : Nat} : ∀ {xs : List D}, (∀ x ∈ xs, nod x ≤ c) → nodL xs ≤ xs.length * (c + 1)
  | [], _ => by simp [nodL]
  | x :: xs, h => by
    have h1 := h x List.mem_cons_self
    have h2 := nodL_le (c := c) fun y hy => h y (List.mem_cons_of_mem _ hy)
    simp only [nodL, List.length_cons, Nat.add_mul, Nat.one_mul]
    omega
theorem okLk_all {n : Nat} : ∀ {xs : List (Key × D)}, (∀ x ∈ xs, okKey x.1 = true ∧ okL n x.2 = true) → okLk n xs = true
  | [], _ => by simp [okLk]
  | (k, d) :: xs, h => by
    obtain ⟨h1, h2⟩ := h _ List.mem_cons_self
    simp only [okLk, show okKey k = true from h1, show okL n d = true from h2, okLk_all fun y hy => h y (List.mem_cons_of_mem _ hy), Bool.and_self]
theorem nodK_le {c : Nat} : ∀ {xs : List (Key × D)}, (∀ x ∈ xs, nod (dOf x.1) + nod x.2 ≤ c) → nodK xs ≤ xs.length * (c + 2)
  | [], _ => by simp [nodK]
  | (k, d) :: xs, h => by
    have h1 := h _ List.mem_cons_self
    have h2 := nodK_le (c := c) fun y hy => h y (List.mem_cons_of_mem _ hy)
    have h3 : nodKey k = nod (dOf k) := by cases k <;> simp [dOf, nod, nodKey]
    simp only [nodK, List.length_cons, Nat.add_mul, Nat.one_mul, h3]
    simp only at h1
    omega
end FL

set_option Elab.async false
set_option maxRecDepth 100000
set_option exponentiation.threshold 100000
namespace FL
open PySem
@[simp] theorem isF_str (x : Str) : isF "str" (.str x) = some (.fz (.bl true)) := rfl
@[simp] theorem isF_int (i : Int) : isF "int" (.int i) = some (.fz (.bl true)) := rfl
@[simp] theorem isF_boolI (i : Int) : isF "bool" (.int i) = some (.fz (.bl false)) := rfl
@[simp] theorem isF_dict (k) : isF "dict" (.dic k) = some (.fz (.bl true)) := rfl
@[simp] theorem isF_list (k) : isF "list" (.lst k) = some (.fz (.bl true)) := rfl
@[simp] theorem isF_tup (k) : isF "tuple" (.tup k) = some (.fz (.bl true)) := rfl
theorem lookup_mem {α : Type} {x : Str} {a : α} : ∀ {L : List (Str × α)}, L.lookup x = some a → (x, a) ∈ L
  | [], h => by cases h
  | (y, b) :: L, h => by
    rw [List.lookup_cons] at h
    cases q : (x == y) with
    | true =>
      rw [q] at h
      cases h
      rw [beq_iff_eq.mp q]
      exact List.mem_cons_self
    | false => rw [q] at h; exact List.mem_cons_of_mem _ (lookup_mem h)
theorem keyStrs_map {α : Type} (g : α → D) : ∀ S : List (Str × α), keyStrs (S.map fun p => ((.inr p.1 : L2.Key), g p.2)) = some (S.map (·.1))
  | [] => rfl
  | (x, a) :: S => by
    have ih := keyStrs_map g S
    show (keyStrs (S.map fun p => ((.inr p.1 : L2.Key), g p.2))).map (x :: ·) = _
    rw [ih]
    rfl
theorem sorted_map {α : Type} (g : α → D) (S : List (Str × α)) (h : S.length < 64) : sortedF (.dic (S.map fun p => ((.inr p.1 : L2.Key), g p.2))) = some (.nw (.ow (.lst ((sortS (S.map (·.1))).map .str)))) := by
  have k := keyStrs_map g S
  show (match keyStrs (S.map fun p => ((.inr p.1 : L2.Key), g p.2)) with
    | some ss => if ss.length < 64 then some (R.nw (.ow (.lst ((sortS ss).map .str)))) else none
    | none => none) = _
  rw [k]
  show (if (S.map (·.1)).length < 64 then some (R.nw (.ow (.lst ((sortS (S.map (·.1))).map .str)))) else none) = _
  rw [List.length_map, if_pos h]
theorem sortS_len (xs : List Str) : (sortS xs).length = xs.length := (sortS_perm xs).length_eq
theorem sortS_nodup {xs : List Str} (h : xs.Nodup) : (sortS xs).Nodup := (sortS_perm xs).nodup_iff.mpr h
theorem big_ge : 2 ^ 60000 ≤ big := by
  unfold big bigE
  exact Nat.pow_le_pow_right (by decide) (by decide)
theorem small_big {m k : Nat} (hk : k ≤ 60000) (hm : m < 2 ^ k) : m < big := Nat.lt_of_lt_of_le hm (Nat.le_trans (Nat.pow_le_pow_right (by decide) hk) big_ge)
theorem forGo_cons {g : Tg} {b : Ss} {x : FL.D} {xs : List FL.D} {ρ ρ1 ρ2 : En} (h1 : g x ρ = some ρ1) (h2 : b ρ1 = some (.nx, ρ2)) : forGo g b (x :: xs) ρ = forGo g b xs ρ2 := by
  show ((g x ρ).bind fun ρ1 => (b ρ1).bind fun q => match q.1 with
    | .nx => forGo g b xs q.2
    | .ct => forGo g b xs q.2
    | .bk => some (.nx, q.2)
    | .rt r => some (.rt r, q.2)) = _
  rw [h1, Option.bind_some, h2, Option.bind_some]
def absI (i : Int) : Int := if i < 0 then -i else i
theorem absF_ev (i : Int) : absF (.int i) = some (.fz (.int (absI i))) := rfl
theorem slc_ev {Fa : Sm} {Fl Fh : Option Sm} {ρ : En} : slc Fa Fl Fh ρ = (Fa ρ).bind fun p => (part Fl p.2).bind fun ql => (part Fh ql.2).bind fun qh => (peek qh.2 p.1).bind fun d => (sliD ql.1 qh.1 d).map fun r => (r, qh.2) := rfl
@[simp] theorem part_none {ρ : En} : part none ρ = some (none, ρ) := rfl
@[simp] theorem part_cst {ρ : En} {i : Int} : part (some (cst (.int i))) ρ = some (some i, ρ) := rfl
@[simp] theorem sliD_ev {lo hi : Option Int} {xs : List FL.D} : sliD lo hi (.lst xs) = some (.nw (.ow (.lst (cutD xs lo hi)))) := rfl
theorem cut_map (ns : List Int) (lo hi : Option Int) : ∃ l : List Int, cutD (ns.map .int) lo hi = l.map .int ∧ l.length ≤ ns.length := by
  unfold cutD
  rw [List.length_map]
  refine ⟨(ns.drop (HT.sIx ns.length 0 lo)).take (HT.sIx ns.length ns.length hi - HT.sIx ns.length 0 lo), ?_, ?_⟩
  · rw [List.map_take, List.map_drop]
  · rw [List.length_take, List.length_drop]
    omega
theorem mtF_ev {f : FL.D → List FL.D → Option (FL.D × FL.D)} {Fo : Sm} {Fs : List Sm} {ρ : En} : mtF f Fo Fs ρ = (Fo ρ).bind fun p => (plOf p.1).bind fun pl => (plGet p.2 pl).bind fun c0 => if isLst c0 = true then (seqs Fs p.2).bind fun q => (frzs q.1 q.2).bind fun z => (plGet z.2 pl).bind fun cur => (f cur z.1).map fun w => (.fz w.2, plSet z.2 w.1 pl) else none := rfl
@[simp] theorem isLst_ev {xs : List FL.D} : isLst (.lst xs) = true := rfl
theorem seqIx {k : Int} {n : Nat} (h0 : 0 ≤ k) (h1 : k < n) : seqIndex? k n = some k.toNat := by
  unfold seqIndex?
  simp
  omega
theorem paD_ev {xs : List FL.D} {k : Int} {y : FL.D} (h0 : 0 ≤ k) (h1 : k < xs.length) (hl : xs.length ≤ 1000) (e : xs[k.toNat]? = some y) : paD (.lst xs) [.int k] = some (.lst (xs.eraseIdx k.toNat), y) := by
  show (if -(2 ^ 63) ≤ k ∧ k < 2 ^ 63 then (seqIndex? k xs.length).bind fun j => xs[j]?.map fun y => (FL.D.lst (xs.eraseIdx j), y) else none) = _
  rw [if_pos ⟨by omega, by omega⟩, seqIx h0 h1, Option.bind_some, e]
  rfl
theorem erase_map {α β : Type} (f : α → β) : ∀ (l : List α) (k : Nat), (l.map f).eraseIdx k = (l.eraseIdx k).map f
  | [], _ => rfl
  | _ :: _, 0 => rfl
  | x :: l, k + 1 => by
    show f x :: (l.map f).eraseIdx k = f x :: (l.eraseIdx k).map f
    rw [erase_map f l k]
theorem erase_perm {α : Type} : ∀ {l : List α} {k : Nat} (h : k < l.length), (l[k] :: l.eraseIdx k).Perm l
  | x :: l, 0, _ => List.Perm.refl _
  | x :: l, k + 1, h => (List.Perm.swap _ _ _).trans (List.Perm.cons x (erase_perm (l := l) (k := k) (by simpa using h)))
theorem itR1_int {F : Sm} {ρ ρ' : En} {j : Int} (h : F ρ = some (.fz (.int j), ρ')) (h0 : 0 ≤ j) (h1 : j < 2 ^ 62) : itR1 F ρ = some (rangeD 0 j, ρ') := by
  unfold itR1
  rw [h, Option.bind_some]
  show (if big62 j = true then some (rangeD 0 j, ρ') else none) = _
  rw [if_pos]
  unfold big62
  simp
  omega
theorem apD_ev {xs : List FL.D} {d : FL.D} (h : xs.length < 1000) : apD (.lst xs) [d] = some (.lst (xs ++ [d]), .non) := by
  show (if xs.length < sizeLine then some (FL.D.lst (xs ++ [d]), FL.D.non) else none) = _
  rw [if_pos (Nat.lt_of_lt_of_le h (line8 (Nat.le_refl _)))]
theorem wh_step {c : Sm} {b : Ss} {n : Nat} {ρ ρ1 ρ2 : En} (h1 : c ρ = some (.fz (.bl true), ρ1)) (h2 : b ρ1 = some (.nx, ρ2)) : whGo c b (n + 1) ρ = whGo c b n ρ2 := by
  show ((c ρ).bind fun p => match p.1 with
    | .fz (.bl true) => (b p.2).bind fun q => match q.1 with
      | .nx => whGo c b n q.2
      | .ct => whGo c b n q.2
      | .bk => some (.nx, q.2)
      | .rt r => some (.rt r, q.2)
    | .fz (.bl false) => some (.nx, p.2)
    | _ => none) = _
  rw [h1, Option.bind_some]
  show ((b ρ1).bind fun q => match q.1 with
      | .nx => whGo c b n q.2
      | .ct => whGo c b n q.2
      | .bk => some (.nx, q.2)
      | .rt r => some (.rt r, q.2)) = _
  rw [h2, Option.bind_some]
theorem wh_end {c : Sm} {b : Ss} {n : Nat} {ρ ρ1 : En} (h1 : c ρ = some (.fz (.bl false), ρ1)) : whGo c b (n + 1) ρ = some (.nx, ρ1) := by
  show ((c ρ).bind fun p => match p.1 with
    | .fz (.bl true) => (b p.2).bind fun q => match q.1 with
      | .nx => whGo c b n q.2
      | .ct => whGo c b n q.2
      | .bk => some (.nx, q.2)
      | .rt r => some (.rt r, q.2)
    | .fz (.bl false) => some (.nx, p.2)
    | _ => none) = _
  rw [h1, Option.bind_some]
theorem ne_nil {xs : List FL.D} (h : xs.all (flat 39) = true) : op2 .ne (.lst xs) (.lst []) = some (.fz (.bl (!xs.isEmpty))) := by
  have e : eqT (.lst xs) (.lst []) = some xs.isEmpty := by
    show (if flat 40 (.lst xs) = true ∧ flat 40 (.lst []) = true then some (eqF 40 (.lst xs) (.lst [])) else none) = _
    rw [if_pos ⟨h, rfl⟩]
    cases xs <;> rfl
  show (eqT (.lst xs) (.lst [])).bind (fun b => bR (!b)) = _
  rw [e]
  rfl
theorem dput_new {κ : Type} [DecidableEq κ] {kvs : List (κ × FL.D)} {k : κ} {d : FL.D} (h : k ∉ kvs.map (·.1)) : dput kvs k d = kvs ++ [(k, d)] := by
  unfold dput
  rw [if_neg]
  intro z
  obtain ⟨q, hq, e⟩ := List.any_eq_true.mp z
  exact h (by rw [← of_decide_eq_true e]; exact List.mem_map_of_mem hq)
theorem dmerge_new : ∀ (more kvs : List (L2.Key × FL.D)), (kvs.map (·.1) ++ more.map (·.1)).Nodup → dmerge kvs more = kvs ++ more
  | [], kvs, _ => by simp [dmerge]
  | p :: more, kvs, h => by
    have h1 : p.1 ∉ kvs.map (·.1) := fun z => (List.nodup_append.mp h).2.2 p.1 z p.1 List.mem_cons_self rfl
    show dmerge (dput kvs p.1 p.2) more = _
    rw [dput_new h1, dmerge_new more _ (by rw [List.map_append, List.append_assoc]; exact h), List.append_assoc]
    rfl
theorem at_int {α : Type} {l : List α} {k : Int} (h0 : 0 ≤ k) (h1 : k < l.length) : L2.atI l k = l[k.toNat]? := by
  have e : k = ((k.toNat : Nat) : Int) := by omega
  have := at_nat (l := l) (k := k.toNat) (by omega)
  rw [← e] at this
  exact this
@[simp] theorem intF_bl (b : Bool) : intF (.bl b) = some (.fz (.int (if b = true then 1 else 0))) := by cases b <;> rfl
theorem eq_nil {xs : List FL.D} (h : xs.all (flat 39) = true) : op2 .eq (.lst xs) (.lst []) = some (.fz (.bl xs.isEmpty)) := by
  have e : eqT (.lst xs) (.lst []) = some xs.isEmpty := by
    show (if flat 40 (.lst xs) = true ∧ flat 40 (.lst []) = true then some (eqF 40 (.lst xs) (.lst [])) else none) = _
    rw [if_pos ⟨h, rfl⟩]
    cases xs <;> rfl
  show (eqT (.lst xs) (.lst [])).bind bR = _
  rw [e]
  rfl
theorem flat_ints (n : Nat) (kn : List Int) : (kn.map FL.D.int).all (flat n) = true := by
  rw [List.all_eq_true]
  intro x hx
  obtain ⟨p, _, rfl⟩ := List.mem_map.mp hx
  cases n <;> rfl
theorem in_ints (a : Int) (kn : List Int) : op2 .isin (.int a) (.lst (kn.map .int)) = some (.fz (.bl (decide (a ∈ kn)))) := by
  have e : inD (.int a) (.lst (kn.map .int)) = some (decide (a ∈ kn)) := by
    show (if flat 40 (.int a) = true ∧ (kn.map FL.D.int).all (flat 40) = true then some ((kn.map FL.D.int).any fun x => eqF 40 x (.int a)) else none) = _
    rw [if_pos ⟨rfl, flat_ints 40 kn⟩]
    congr 1
    rw [List.any_map]
    induction kn with
    | nil => rfl
    | cons k kn ih =>
      rw [List.any_cons, ih]
      show ((k == a) || _) = _
      by_cases e : k = a
      · simp [e]
      · have e2 : ¬ a = k := fun z => e z.symm
        simp [e, e2]
  show (inD (.int a) (.lst (kn.map .int))).bind bR = _
  rw [e]
  rfl
theorem notin_ints (a : Int) (kn : List Int) : op2 .notin (.int a) (.lst (kn.map .int)) = some (.fz (.bl (!decide (a ∈ kn)))) := by
  have e := in_ints a kn
  have e2 : (inD (.int a) (.lst (kn.map .int))).bind bR = some (.fz (.bl (decide (a ∈ kn)))) := e
  cases q : inD (.int a) (.lst (kn.map .int)) with
  | none => rw [q] at e2; cases e2
  | some b =>
    rw [q] at e2
    cases e2
    show (inD (.int a) (.lst (kn.map .int))).bind (fun b => bR (!b)) = _
    rw [q]
    rfl
theorem poD_ev {xs : List FL.D} {y : FL.D} : poD (.lst (xs ++ [y])) [] = some (.lst xs, y) := by
  show (xs ++ [y])[(xs ++ [y]).length - 1]?.map (fun z => (FL.D.lst (xs ++ [y]).dropLast, z)) = _
  simp
theorem all2_refl {f : FL.D → FL.D → Bool} : ∀ {xs : List FL.D}, (∀ x ∈ xs, f x x = true) → all2 f xs xs = true
  | [], _ => rfl
  | x :: xs, h => by
    show (f x x && all2 f xs xs) = true
    rw [h x List.mem_cons_self, all2_refl fun y hy => h y (List.mem_cons_of_mem _ hy)]
    rfl
theorem ne_same {xs : List FL.D} (h1 : xs.all (flat 39) = true) (h2 : ∀ x ∈ xs, eqF 39 x x = true) : op2 .ne (.lst xs) (.lst xs) = some (.fz (.bl false)) := by
  have e : eqT (.lst xs) (.lst xs) = some true := by
    show (if flat 40 (.lst xs) = true ∧ flat 40 (.lst xs) = true then some (eqF 40 (.lst xs) (.lst xs)) else none) = _
    rw [if_pos ⟨h1, h1⟩]
    congr 1
    exact all2_refl h2
  show (eqT (.lst xs) (.lst xs)).bind (fun b => bR (!b)) = _
  rw [e]
  rfl
theorem ne_strs (ss : List Str) : op2 .ne (.lst (ss.map .str)) (.lst (ss.map .str)) = some (.fz (.bl false)) := by
  refine ne_same (List.all_eq_true.mpr fun x hx => ?_) fun x hx => ?_
  · obtain ⟨p, _, rfl⟩ := List.mem_map.mp hx; rfl
  · obtain ⟨p, _, rfl⟩ := List.mem_map.mp hx
    show (p == p) = true
    simp
theorem ne_ints (ss : List Int) : op2 .ne (.lst (ss.map .int)) (.lst (ss.map .int)) = some (.fz (.bl false)) := by
  refine ne_same (List.all_eq_true.mpr fun x hx => ?_) fun x hx => ?_
  · obtain ⟨p, _, rfl⟩ := List.mem_map.mp hx; rfl
  · obtain ⟨p, _, rfl⟩ := List.mem_map.mp hx
    show (p == p) = true
    simp
def Wl (lo hi : Int) : List Int := (List.range (hi - lo).toNat).map fun i => lo + (i : Nat)
theorem range_W (lo hi : Int) : rangeD lo hi = (Wl lo hi).map .int := by
  unfold rangeD Wl
  rw [List.map_map]
  rfl
theorem mem_W {lo hi q : Int} : q ∈ Wl lo hi ↔ lo ≤ q ∧ q < hi := by
  unfold Wl
  rw [List.mem_map]
  constructor
  · rintro ⟨i, hi', rfl⟩
    have := List.mem_range.mp hi'
    omega
  · rintro ⟨h1, h2⟩
    exact ⟨(q - lo).toNat, List.mem_range.mpr (by omega), by omega⟩
theorem nd_W (lo hi : Int) : (Wl lo hi).Nodup := by
  unfold Wl
  refine List.pairwise_map.mpr (List.nodup_range.imp fun h e => h ?_)
  omega
theorem len_W (lo hi : Int) : (Wl lo hi).length = (hi - lo).toNat := by unfold Wl; simp
theorem pairsOf_gen : ∀ kvs : List (L2.Key × FL.D), pairsOf (kvs.map fun p => .tup [dOf p.1, p.2]) = some kvs
  | [] => rfl
  | (k, d) :: kvs => by
    have ih := pairsOf_gen kvs
    rw [List.map_cons]
    show ((keyOf (dOf k)).bind fun k => (pairsOf (kvs.map fun p => .tup [dOf p.1, p.2])).map ((k, d) :: ·)) = _
    rw [ih]
    cases k <;> rfl
theorem dict_gen {kvs : List (L2.Key × FL.D)} (h : (kvs.map (·.1)).Nodup) : dictF (.lst (kvs.map fun p => .tup [dOf p.1, p.2])) = some (.nw (.ow (.dic kvs))) := by
  show (pairsOf (kvs.map fun p => FL.D.tup [dOf p.1, p.2])).map (fun kvs => R.nw (.ow (.dic (dmerge [] kvs)))) = _
  rw [pairsOf_gen, Option.map_some, dmerge_new]
  · rfl
  · rw [List.map_nil, List.nil_append]; exact h
theorem at_last {α : Type} {l : List α} {y : α} : L2.atI (l ++ [y]) (-1) = some y := by
  unfold L2.atI L2.ixN
  rw [List.length_append, List.length_singleton, if_neg (by omega), if_pos (by omega), Option.bind_some]
  have e : (-1 + ((l.length + 1 : Nat) : Int)).toNat = l.length := by omega
  rw [e]
  simp
theorem lookup_map_some {α β : Type} (g : Str × α → β) {x : Str} : ∀ {L : List (Str × α)} {a : α}, L.lookup x = some a → ∃ p ∈ L, p.1 = x ∧ (L.map fun p => (p.1, g p)).lookup x = some (g p)
  | [], _, h => by cases h
  | (y, b) :: L, a, h => by
    rw [List.lookup_cons] at h
    rw [List.map_cons, List.lookup_cons]
    cases q : (x == y) with
    | true => exact ⟨(y, b), List.mem_cons_self, (beq_iff_eq.mp q).symm, rfl⟩
    | false =>
      rw [q] at h
      obtain ⟨p, h1, h2, h3⟩ := lookup_map_some g h
      exact ⟨p, List.mem_cons_of_mem _ h1, h2, h3⟩
theorem lookup_ex {α : Type} {x : Str} : ∀ {L : List (Str × α)}, x ∈ L.map (·.1) → ∃ i, L.lookup x = some i
  | [], h => by cases h
  | (y, v) :: L, h => by
    rw [List.lookup_cons]
    cases q : (x == y) with
    | true => exact ⟨v, rfl⟩
    | false =>
      rw [List.map_cons] at h
      rcases List.mem_cons.mp h with e | e
      · have : x = y := e
        rw [this] at q; simp at q
      · exact lookup_ex e
theorem at_some {l : List Int} {k : Int} (h0 : 0 ≤ k) (h1 : k < l.length) : ∃ e ∈ l, L2.atI (l.map FL.D.int) k = some (.int e) := by
  have i : k.toNat < l.length := by omega
  refine ⟨l[k.toNat], List.getElem_mem _, ?_⟩
  rw [at_int h0 (by rw [List.length_map]; exact h1), List.getElem?_map, List.getElem?_eq_getElem i]
  rfl
theorem part_some {F : Sm} {ρ ρ' : En} {i : Int} (h : F ρ = some (.fz (.int i), ρ')) : part (some F) ρ = some (some i, ρ') := by
  show (F ρ).bind _ = _
  rw [h]
  rfl
theorem ne_str (x : Str) : op2 .ne (.str x) (.str x) = some (.fz (.bl false)) := by simp
theorem two_of {α : Type} {a b : α} {k : Int} (h0 : 0 ≤ k) (h1 : k < 2) : L2.atI [a, b] k = some (if k = 0 then a else b) := by
  have : k = 0 ∨ k = 1 := by omega
  rcases this with rfl | rfl
  · rfl
  · rfl
end FL

set_option Elab.async false
set_option maxRecDepth 100000
set_option maxHeartbeats 2000000
namespace FL
open PySem PySem.Spec L2

/-! ### list(d.items()), d perhaps walked -/
def liD : D → Option R
  | .dic kvs => some (.nw (.ow (.lst (kvs.map fun p => .tup [dOf p.1, p.2]))))
  | _ => none
def tItm (te : TE) : TE := fun σ H Q => te σ H fun x H1 => ∃ (d : Addr) (kvs : List (Key × V)), x = .ref d ∧ Rd H1 d (.dK kvs) ∧
  ∀ (J : Hp) (p : Addr) (ts : List Addr), (∀ b o, H1 b = some o → J b = some o) → H1 p = none → (∀ t ∈ ts, H1 t = none) → p ∉ ts → J p = some (.lst (ts.map V.ref)) → Paired (fun (t : Addr) (q : Key × V) => J t = some (.tup [kV q.1, q.2])) ts kvs → Q (.ref p) J
section
variable {X : Cx} {e : Expr} {te : TE} {p apos cpos pos : Pos} {F : Sm}
theorem pe_itm (hc : X.calm = true) (he : PE X e te) (hg : Gl X "list") (hm : X.mg "list" = none) (hv : bootBuiltins "list" = some (.type "list")) (hb : attributeBase e "items" X.env (eval e X.env) = eval e X.env) (hl : (apos.endLine == cpos.line) = true)
    (hs : starEach [.Call (.Attribute e "items" apos) [] [] cpos] X.env = (false, eval (.Call (.Attribute e "items" apos) [] [] cpos) X.env) :: starEach [] X.env) :
    PE X (.Call (.Name "list" p) [.Call (.Attribute e "items" apos) [] [] cpos] [] pos) (tItm te) := by
  constructor
  intro pins s σ H Q I hq
  apply wpAny_Call_Name_kw
  refine ld_blt I hg hm hv ?_
  refine PyProof.Rows.callWith_type1 ?_ hs rfl
  rw [hs]
  show wpAny (model X.prog X.w) X.A (spliced ((false, eval (.Call (.Attribute e "items" apos) [] [] cpos) X.env) :: backTo pos (starEach [] X.env))) _ _ s
  refine Calls.spliced_cons ?_
  have step := he.run pins s σ H _ I hq
  refine wpAny_Call_method (T := "dict") (id := "dict.items") hb rfl hl F.plainAttrs_dict F.slot_dict_items F.type_dict_items (thn step ?_)
  rintro u s1 ⟨x, H1, I1, rx, d, kvs, rfl, hd, q⟩
  cases (show u = Value.ref d from rx)
  obtain ⟨sz, ns, vs, kv, hdo⟩ := dk_rd I1.hok hd
  obtain ⟨ep, hat⟩ := hdo.dictAt
  have len : kvs.length = vs.length := Paired.length kv
  have J2 : Inv X pins σ H1 { s1 with heap := s1.heap.push { cls := .type "dict_items", data := .fields #[.ref d] } } := I1.kept (t' := s1.toks) fun b ob z => Heap.get?_push_of_some _ z
  refine ⟨hdo.typeIs, hdo.mapOf.noDict, ?_⟩
  show wpAny (model X.prog X.w) X.A (callWith cpos (.builtin "dict.items") [.ref d] [] []) _ X.xe s1
  refine method_meetsIn F.slot_dict_items F.entry_dict_items rfl (PySem.evalArgs_none ⟨rfl, hdo.typeIs, F.args_dict_items_1 _, _, meets_dict_items (mixKind X.prog X.w) d ns, ⟨vs, hdo⟩, ?_⟩)
  refine Calls.spliced_nil ?_
  refine PySem.W.kdx_call (knd := mixKind X.prog X.w) (kvs := vs) (ep := ep) (I1.ok.hd hc) ⟨_, Heap.get?_push_size _ rfl, rfl, rfl⟩ (hat.push _) (by omega) ?_
  intro h' tk acc c as hk hS hln hG hacc
  obtain ⟨J, k1, k2, k3, k4, k5, k6, K2⟩ := LiI.items_laid (tk := tk) J2 sz kv hk hS hln hG hacc
  exact ⟨.ref _, J, K2, rfl, q J _ as k1 k2 k3 k4 k5 k6⟩
theorem keyRep {K : PySem.W.Frag} {Z : Hp} : ∀ k : Key, Rep K Z (kV k) (dOf k)
  | .inl i => .int i
  | .inr x => .str x
theorem pairs_rep {K : PySem.W.Frag} {Z Z1 J : Hp} {all : List Addr} (s : Same Z1 Z) (hz : ∀ t ∈ all, Z t = J t) : ∀ {ts : List Addr} {kvs : List (Key × V)} {kds : List (Key × D)}, (∀ t ∈ ts, t ∈ all) → Paired (fun (t : Addr) (q : Key × V) => J t = some (.tup [kV q.1, q.2])) ts kvs → RepK K Z1 kvs kds → RepL K Z (ts.map V.ref) (kds.map fun p => .tup [dOf p.1, p.2])
  | [], _, _, _, .nil, .nil => .nil
  | t :: ts, _, _, ha, .cons h1 r1, .cons h2 r2 => by
    have ht := ha t List.mem_cons_self
    refine .cons (.tup (vs := _) ((hz t ht).trans h1) (.cons (keyRep _) (.cons (h2.mono s) .nil))) (pairs_rep s hz (fun y hy => ha y (List.mem_cons_of_mem _ hy)) r1 r2)
theorem paired_left {α β : Type} {F : α → β → Prop} : ∀ {xs : List α} {ys : List β}, Paired F xs ys → ∀ x ∈ xs, ∃ y, F x y
  | _, _, .nil, x, h => by cases h
  | _, _, .cons r t, x, h => by
    rcases List.mem_cons.mp h with e | e
    · rw [e]; exact ⟨_, r⟩
    · exact paired_left t x e
theorem se_listItems (hc : X.calm = true) (hg : Gl X "list") (hm : X.mg "list" = none) (hv : bootBuiltins "list" = some (.type "list")) (he : PE X e (tE X.K F)) (hb : attributeBase e "items" X.env (eval e X.env) = eval e X.env) (hl : (apos.endLine == cpos.line) = true)
    (hs : starEach [.Call (.Attribute e "items" apos) [] [] cpos] X.env = (false, eval (.Call (.Attribute e "items" apos) [] [] cpos) X.env) :: starEach [] X.env) :
    PE X (.Call (.Name "list" p) [.Call (.Attribute e "items" apos) [] [] cpos] [] pos) (tE X.K (uno liD F)) := by
  refine pe_weak (pe_itm hc he hg hm hv hb hl hs) ?_
  rintro σ H Q ⟨Z, ρ, fp, r, ρ3, g, e, kt⟩
  obtain ⟨⟨r0, ρ1⟩, e1, e⟩ := Option.bind_eq_some_iff.mp e
  obtain ⟨d, e2, e⟩ := Option.bind_eq_some_iff.mp e
  obtain ⟨r', e3, e⟩ := Option.map_eq_some_iff.mp e
  cases e
  refine ⟨Z, ρ, fp, r0, ρ1, g, e1, fun Z1 H1 v fp1 l g1 R1 n1 P1 => ?_⟩
  have hd := peek_ok g1 R1 e2
  cases d with
  | dic kds =>
    cases e3
    obtain ⟨a, kvs, rfl, h1, h2⟩ := hd
    refine ⟨a, kvs, rfl, h1, fun J p ts k1 k2 k3 k4 k5 k6 => ?_⟩
    have zt : ∀ t ∈ ts, Z1 t = none := fun t ht => g1.sub.none (k3 t ht)
    have out : ∀ q, E fp1 q → q ∉ ts := fun q hq z => by
      obtain ⟨⟨o, eo, _⟩, _⟩ := g1.there hq
      rw [k3 q z] at eo; cases eo
    have sm : Same Z1 (fun b => if b ∈ ts then J b else Z1 b) := fun b u hu => by
      show (if b ∈ ts then J b else Z1 b) = some u
      by_cases c : b ∈ ts
      · rw [zt b c] at hu; cases hu
      · rw [if_neg c]; exact hu
    have sb : Sub (fun b => if b ∈ ts then J b else Z1 b) J := fun b u hu => by
      have hu' : (if b ∈ ts then J b else Z1 b) = some u := hu
      by_cases c : b ∈ ts
      · rw [if_pos c] at hu'; exact .inl hu'
      · rw [if_neg c] at hu'
        rcases g1.sub b u hu' with z | ⟨⟨o, z⟩, m⟩
        · exact .inl (k1 _ _ z)
        · exact .inr ⟨⟨o, k1 _ _ z⟩, m⟩
    have nz : NoT (fun b => if b ∈ ts then J b else Z1 b) := fun b us hu => by
      have hu' : (if b ∈ ts then J b else Z1 b) = some (.tbl us) := hu
      by_cases c : b ∈ ts
      · rw [if_pos c] at hu'
        obtain ⟨q, hq⟩ := paired_left k6 b c
        rw [hq] at hu'; cases hu'
      · rw [if_neg c] at hu'; exact g1.tz.no b us hu'
    have g2 : Good X.K (fun b => if b ∈ ts then J b else Z1 b) J σ ρ1 fp1 := g1.mono sm sb (.ext k1) nz (fun q u _ eq => k1 q u eq) fun q hq => by
      show (if q ∈ ts then J q else Z1 q) = none
      rw [if_neg (out q hq)]
      exact (g1.there hq).2
    have zp : (if p ∈ ts then J p else Z1 p) = none := by
      rw [if_neg k4]
      exact g1.sub.none k2
    refine kt _ J (.ref p) fp1 [p] g2 ⟨p, rfl, rfl, zp, ts.map V.ref, k5, pairs_rep (all := ts) sm (fun t ht => if_pos ht) (fun t ht => ht) k6 h2⟩ (fun q hq z => ?_) ?_
    · have : q = p := by simpa using hq
      subst this
      obtain ⟨⟨o, eo, _⟩, _⟩ := g1.there z
      rw [k2] at eo; cases eo
    · refine P1.trans ⟨sm, fun q o eq _ _ => k1 q o eq, fun q hq => ?_, fun q u hu => ?_, Grow.same k1, .ext k1⟩
      · rcases hq with z | z
        · exact .inl (.inl z)
        · have : q = p := by simpa using z
          subst this
          exact .inr k2
      · have hu' : (if q ∈ ts then J q else Z1 q) = some u := hu
        by_cases c : q ∈ ts
        · exact .inr (.inr (k3 q c))
        · rw [if_neg c] at hu'; exact .inl hu'
  | _ => cases e3

/-! ### is True, is False; xs[::-1] -/
def isB : D → D → Option R
  | .bl a, .bl b => bR (decide (a = b))
  | _, _ => none
def ntB : D → D → Option R
  | .bl a, .bl b => bR (!decide (a = b))
  | _, _ => none
theorem opd_isB : OpD X (compareOp .Is) isB := by
  intro pins s σ H x y v u Q Z dx dy r I rx ry sb hx hy e q
  cases dx <;> cases dy <;> try (cases e; done)
  rename_i i j
  have hx' : x = .bl i := hx
  have hy' : y = .bl j := hy
  exact op_is_bl pins s σ H x y v u Q I rx ry ⟨i, j, hx', hy', out_b e q⟩
theorem opd_ntB : OpD X (compareOp .IsNot) ntB := by
  intro pins s σ H x y v u Q Z dx dy r I rx ry sb hx hy e q
  cases dx <;> cases dy <;> try (cases e; done)
  rename_i i j
  have hx' : x = .bl i := hx
  have hy' : y = .bl j := hy
  exact op_isnot_bl pins s σ H x y v u Q I rx ry ⟨i, j, hx', hy', out_b e q⟩
@[simp] theorem isB_ev (a b : Bool) : isB (.bl a) (.bl b) = some (.fz (.bl (decide (a = b)))) := rfl
@[simp] theorem ntB_ev (a b : Bool) : ntB (.bl a) (.bl b) = some (.fz (.bl (!decide (a = b)))) := rfl
def revD : D → Option R
  | .lst xs => some (.nw (.ow (.lst xs.reverse)))
  | _ => none
theorem RepL.rev {K : PySem.W.Frag} {Z : Hp} : ∀ {vs : List V} {ds : List D}, RepL K Z vs ds → RepL K Z vs.reverse ds.reverse
  | _, _, .nil => .nil
  | _, _, .cons h r => by
    rw [List.reverse_cons, List.reverse_cons]
    exact (RepL.rev r).append (.cons h .nil)
theorem se_rev {k : Nat} {p1 p2 p3 : Pos} (he : PE X e (tE X.K F)) : PE X (.Subscript e (.Slice none none (some (.UnaryOp .USub (.Constant (.int 1) k p1) p2)) p3) pos) (tE X.K (uno revD F)) := pe_weak (pe_revL he) fun σ H Q h => uno_go h fun Z J v d r sb hd er kk => by
  cases d with
  | lst xs =>
    cases er
    obtain ⟨a, vs, rfl, h1, h2⟩ := hd
    exact ⟨a, vs, rfl, h1, fun q hq => kk _ _ (.new (o := .lst _) (d := .lst _) hq ⟨_, upd_same, RepL.rev h2⟩)⟩
  | _ => cases er
end
end FL

set_option Elab.async false
set_option maxRecDepth 100000
set_option maxHeartbeats 2000000
namespace FL
open PySem PySem.Spec L2

/-! ### a list display times an int -/
def repR (xs : List D) (k : Int) (ρ : En) : Option (R × En) := if -(2 ^ 63) ≤ k ∧ k < 2 ^ 63 ∧ xs.length * k.toNat ≤ sizeLine then some (.nw (.ow (.lst (List.replicate k.toNat xs).flatten)), ρ) else none
def repF (Fa Fb : Sm) : Sm := fun ρ => (two Fa Fb ρ).bind fun p => match p.1, p.2.1 with
  | .nw (.ow (.lst xs)), .fz (.int k) => repR xs k p.2.2
  | _, _ => none
theorem flat_rep {K : PySem.W.Frag} {Z : Hp} {vs : List V} {ds : List D} (h : RepL K Z vs ds) : ∀ n : Nat, RepL K Z (List.replicate n vs).flatten (List.replicate n ds).flatten
  | 0 => .nil
  | n + 1 => by
    rw [List.replicate_succ, List.replicate_succ, List.flatten_cons, List.flatten_cons]
    exact h.append (flat_rep h n)
section
variable {X : Cx} {Fa Fb F : Sm} {a b : Expr} {pos : Pos}
theorem se_rep (ha : PE X a (tE X.K Fa)) (hb : PE X b (tE X.K Fb)) : PE X (.BinOp a .Mult b pos) (tE X.K (repF Fa Fb)) := by
  refine pe_weak (pe_op op_rep ha hb) ?_
  rintro σ H Q ⟨Z, ρ, fp, r, ρ3, g, e, kt⟩
  obtain ⟨⟨r1, r2, ρ2⟩, h1, e⟩ := Option.bind_eq_some_iff.mp e
  refine two_go g h1 fun Z1 H1 v1 v2 fp1 l1 l2 g1 R1 R2 n1 n2 P => ?_
  cases r1 with
  | nw t =>
    cases t with
    | ow d =>
      cases d with
      | lst xs =>
        cases r2 with
        | fz d2 =>
          cases d2 with
          | int k =>
            have e' : repR xs k ρ2 = some (r, ρ3) := e
            unfold repR at e'
            by_cases c : -(2 ^ 63) ≤ k ∧ k < 2 ^ 63 ∧ xs.length * k.toNat ≤ sizeLine
            · rw [if_pos c] at e'
              cases e'
              obtain ⟨x, rfl, rfl, z0, vs, hv, hr⟩ := (show Own1 X.K Z1 H1 v1 (.ow (.lst xs)) l1 from R1)
              obtain ⟨rv, rfl⟩ := (show Rep X.K Z1 v2 (.int k) ∧ l2 = [] from R2)
              cases rv
              refine ⟨x, k, vs, rfl, rfl, hv, c.1, c.2.1, by rw [hr.length]; exact c.2.2, fun p hp => ?_⟩
              exact kt_out kt g1 P (fun p q => .inl (.inl q)) (.new (o := .lst _) (d := .lst _) hp ⟨_, upd_same, flat_rep hr _⟩)
            · rw [if_neg c] at e'; cases e'
          | _ => cases e
        | _ => cases e
      | _ => cases r2 <;> cases e
    | _ => cases r2 <;> cases e
  | _ => cases r2 <;> cases e
@[simp] theorem repF_ev {ρ : En} : repF Fa Fb ρ = (two Fa Fb ρ).bind fun p => match p.1, p.2.1 with
  | .nw (.ow (.lst xs)), .fz (.int k) => repR xs k p.2.2
  | _, _ => none := rfl

/-! ### d.pop(key) -/
def dropD (kds : List (Key × D)) (k : Key) : List (Key × D) := kds.filter fun p => decide (p.1 ≠ k)
def isDic : D → Bool
  | .dic _ => true
  | _ => false
def dpD : D → D → Option (D × D)
  | .dic kds, y => (keyOf y).bind fun k => (dfind kds k).map fun d => (.dic (dropD kds k), d)
  | _, _ => none
def dpF (Fo Fk : Sm) : Sm := fun ρ => (Fo ρ).bind fun p => (plOf p.1).bind fun pl => (plGet p.2 pl).bind fun c0 => if isDic c0 = true then (Fk p.2).bind fun q => (peek q.2 q.1).bind fun y => (plGet q.2 pl).bind fun cur => (dpD cur y).map fun w => (.fz w.2, plSet q.2 w.1 pl) else none
theorem dpF_ev {Fo Fk : Sm} {ρ : En} : dpF Fo Fk ρ = (Fo ρ).bind fun p => (plOf p.1).bind fun pl => (plGet p.2 pl).bind fun c0 => if isDic c0 = true then (Fk p.2).bind fun q => (peek q.2 q.1).bind fun y => (plGet q.2 pl).bind fun cur => (dpD cur y).map fun w => (.fz w.2, plSet q.2 w.1 pl) else none := rfl
theorem drop_rep {K : PySem.W.Frag} {Z : Hp} {k : Key} : ∀ {kvs : List (Key × V)} {kds : List (Key × D)}, RepK K Z kvs kds → RepK K Z (dropK kvs k) (dropD kds k)
  | _, _, .nil => .nil
  | _, _, .cons (k := j) h t => by
    have ih := drop_rep (k := k) t
    unfold dropK dropD at ih ⊢
    by_cases c : j = k
    · rw [List.filter_cons_of_neg (by simp [c]), List.filter_cons_of_neg (by simp [c])]
      exact ih
    · rw [List.filter_cons_of_pos (by simp [c]), List.filter_cons_of_pos (by simp [c])]
      exact .cons h ih
theorem se_dpop {o ek : Expr} {apos cpos : Pos} {Fo Fk : Sm} (ho : PE X o (tE X.K Fo)) (hk : PE X ek (tE X.K Fk)) (m : M1 X o "pop" apos ek cpos) : PE X (.Call (.Attribute o "pop" apos) [ek] [] cpos) (tE X.K (dpF Fo Fk)) := by
  refine pe_weak (pe_dpop1 ho hk m) ?_
  rintro σ H Q ⟨Z, ρ, fp, r, ρ', g, e, k⟩
  obtain ⟨⟨ro, ρ1⟩, e1, e⟩ := Option.bind_eq_some_iff.mp e
  obtain ⟨pl, e2, e⟩ := Option.bind_eq_some_iff.mp e
  obtain ⟨c0, e3, e⟩ := Option.bind_eq_some_iff.mp e
  by_cases hl : isDic c0 = true
  · rw [if_pos hl] at e
    obtain ⟨⟨rk, ρ2⟩, e4, e⟩ := Option.bind_eq_some_iff.mp e
    obtain ⟨y, e5, e⟩ := Option.bind_eq_some_iff.mp e
    obtain ⟨cur, e6, e⟩ := Option.bind_eq_some_iff.mp e
    obtain ⟨⟨new, res⟩, e7, e8⟩ := Option.map_eq_some_iff.mp e
    cases e8
    refine ⟨Z, ρ, fp, ro, ρ1, g, e1, fun Z1 H1 v fp1 l g1 R1 n1 P1 => ?_⟩
    obtain ⟨a, rfl, hz, ot, _, _⟩ := place_at g1 R1 e2 e3
    refine ⟨a, rfl, ?_, Z1, ρ1, fp1, rk, ρ2, g1, e4, fun Z2 H2 w fp2 l2 g2 R2 n2 P2 => ?_⟩
    · cases c0 with
      | dic kds => obtain ⟨kvs, q1, _⟩ := ot; exact .inl ⟨kvs, Rd.of q1⟩
      | _ => cases hl
    · obtain ⟨Ra, na⟩ := R1.stay n1 P2
      obtain ⟨b, hb, hz', ot', _, wr⟩ := place_at g2 Ra e2 e6
      cases hb
      cases cur with
      | dic kds =>
        obtain ⟨key, k1, e7⟩ := Option.bind_eq_some_iff.mp (show (keyOf y).bind (fun k => (dfind kds k).map fun d => (D.dic (dropD kds k), d)) = some (new, res) from e7)
        obtain ⟨d, k2, k3⟩ := Option.map_eq_some_iff.mp e7
        cases k3
        obtain ⟨kvs, q1, q2⟩ := ot'
        have yk := keyOf_v (peek_ok g2 R2 e5) k1
        rcases dfind_val (X := X) q2 key with ⟨_, z⟩ | ⟨u, d', z1, z2, z3⟩
        · rw [k2] at z; cases z
        · rw [k2] at z2
          cases z2
          refine ⟨kvs, key, u, q1, yk, z1, ?_⟩
          obtain ⟨g4, P4⟩ := wr (.dK (dropK kvs key)) (.dic (dropD kds key)) ⟨_, upd_same, drop_rep q2⟩
          have P12 : Post Z H (E fp) Z2 H2 (fun p => (E fp2 p ∨ p ∈ l2)) := (P1.weak fun p q => .inl q).trans P2
          have P3 : Post Z H (E fp) Z2 H2 (E fp2) := P12.weak fun p q => .inl q
          exact k Z2 _ u fp2 [] g4 ⟨z3, rfl⟩ (fun p hp => by cases hp) ((P3.trans P4).weak fun p q => q.elim id fun z => by cases z)
      | _ => cases e7
  · rw [if_neg hl] at e; cases e
end
end FL

set_option Elab.async false
set_option maxRecDepth 100000
set_option maxHeartbeats 2000000
namespace FL
open PySem PySem.Spec L2
@[simp] theorem parF3_ev {i j l : Nat} {F G M : Sm} {ρ : En} : parF3 i j l F G M ρ = (seqs [F, G, M] ρ).bind fun p => (owns p.1 p.2).bind fun q => put3 i j l q.2 q.1 := rfl
@[simp] theorem put3_ev {i j l : Nat} {t u w : T} {ρ : En} : put3 i j l ρ [t, u, w] = if i < ρ.length ∧ j < ρ.length ∧ l < ρ.length then some (.nx, ((ρ.set i (some t)).set j (some u)).set l (some w)) else none := rfl
@[simp] theorem liD_dic {kvs : List (Key × D)} : liD (.dic kvs) = some (.nw (.ow (.lst (kvs.map fun p => .tup [dOf p.1, p.2])))) := rfl
@[simp] theorem revD_lst {xs : List D} : revD (.lst xs) = some (.nw (.ow (.lst xs.reverse))) := rfl
end FL

set_option Elab.async false
set_option maxRecDepth 100000
set_option maxHeartbeats 4000000
/-! sorted of tuples (int, str) -/
namespace SrtIS
open PySem PyProof.Rows Srt SrtO
def IsP (h : Heap) (v : Value) (x : Int) (y : Str) : Prop := ∃ a o t u n, v = .ref a ∧ h.get? a = some o ∧ o.cls = .type "tuple" ∧ o.data = .seq #[.int x t, .str y u] n
theorem IsP.keeps {h h' : Heap} {v : Value} {x : Int} {y : Str} (p : IsP h v x y) (k : ∀ b o, h.get? b = some o → o.cls = .type "tuple" → h'.get? b = some o) : IsP h' v x y := by
  obtain ⟨a, o, t, u, n, e, ho, hc, hd⟩ := p
  exact ⟨a, o, t, u, n, e, k _ _ ho hc, hc, hd⟩
def lexS (p q : Int × Str) : Bool := if p.1 = q.1 then decide (p.2.cps.toList < q.2.cps.toList) else decide (p.1 < q.1)
theorem lexS_iff {p q : Int × Str} : lexS p q = true ↔ p.1 < q.1 ∨ (p.1 = q.1 ∧ p.2.cps.toList < q.2.cps.toList) := by
  unfold lexS
  by_cases e : p.1 = q.1
  · rw [if_pos e, decide_eq_true_eq]
    exact ⟨fun h => .inr ⟨e, h⟩, fun h => h.elim (fun h => absurd e (by omega)) (·.2)⟩
  · rw [if_neg e, decide_eq_true_eq]
    exact ⟨fun h => .inl h, fun h => h.elim id (fun h => absurd h.1 e)⟩
theorem lexS_no {p q : Int × Str} : lexS p q = false ↔ q.1 < p.1 ∨ (p.1 = q.1 ∧ q.2.cps.toList ≤ p.2.cps.toList) := by
  have h := lexS_iff (p := p) (q := q)
  have hl : ∀ {x y : List Nat}, ¬ x < y ↔ y ≤ x := List.not_lt
  constructor
  · intro e
    have n : ¬ (p.1 < q.1 ∨ (p.1 = q.1 ∧ p.2.cps.toList < q.2.cps.toList)) := fun z => by rw [h.mpr z] at e; cases e
    by_cases c : p.1 = q.1
    · exact .inr ⟨c, hl.mp fun z => n (.inr ⟨c, z⟩)⟩
    · refine .inl ?_
      have : ¬ p.1 < q.1 := fun z => n (.inl z)
      omega
  · intro e
    rw [Bool.eq_false_iff]
    intro z
    rcases h.mp z with z | z <;> rcases e with e | e
    · omega
    · omega
    · omega
    · exact hl.mpr e.2 z.2
theorem swo_lexS {α : Type} (k : α → Int × Str) : Swo fun v u => lexS (k v) (k u) := by
  refine ⟨fun x y h => ?_, fun x y z h1 h2 => ?_⟩
  · refine lexS_no.mpr ?_
    rcases lexS_iff.mp h with a | ⟨a, b⟩
    · exact .inl a
    · exact .inr ⟨a.symm, List.le_of_lt b⟩
  · refine lexS_no.mpr ?_
    rcases lexS_no.mp h1 with a | ⟨a, b⟩ <;> rcases lexS_no.mp h2 with c | ⟨c, d⟩
    · exact .inl (by omega)
    · exact .inl (by omega)
    · exact .inl (by omega)
    · exact .inr ⟨by omega, List.le_trans b d⟩
section
variable {prog : Program} {w : World} {A : Around} {E : Value → Shared → Prop} {s : Shared}
theorem pair_cmp {vs : List Value} {k : Value → Int × Str} (hp : ∀ v ∈ vs, IsP s.heap v (k v).1 (k v).2) : Cmp prog w A s (tuples' true) (fun p => p.1 ∈ vs) (lt2 fun v u => lexS (k v) (k u)) := by
  intro p q hm hm'
  have h1 := hp _ hm
  have h2 := hp _ hm'
  show wpAny (model prog w) A (keyLt' (tuples' true) p.1 q.1) (fun r s' => s' = s ∧ r = lexS (k p.1) (k q.1)) (fun _ _ => False) s
  unfold lexS
  generalize (k p.1).1 = x at h1 ⊢
  generalize (k p.1).2 = y at h1 ⊢
  generalize (k q.1).1 = x' at h2 ⊢
  generalize (k q.1).2 = y' at h2 ⊢
  obtain ⟨a, o, t, u, n, e, ho, hc, hd⟩ := h1
  obtain ⟨a', o', t', u', n', e', ho', hc', hd'⟩ := h2
  rw [e, e']
  refine PySem.W.kat_lt ho hd ho' hd' ?_
  show PySem.W.KatLex prog w A true (decide (2 < 2)) _ [(.int x t, .int x' t'), (.str y u, .str y' u')] 0 s
  refine PySem.W.kat_cons (SeqAt.EqAt.int_int x t x' t' prog w _ _ ?_)
  refine PySem.W.kat_go (fun e1 => ?_) (fun e1 => ?_)
  · have ex : x = x' := by simpa using e1
    refine PySem.W.kat_yes (PySem.W.kat_cons (wpAny_eqBool_str ?_))
    refine PySem.W.kat_go (fun e2 => ?_) (fun e2 => ?_)
    · have ey : y = y' := by simpa using e2
      have e3 : (if x = x' then decide (y.cps.toList < y'.cps.toList) else decide (x < x')) = false := by
        rw [if_pos ex, ey]
        exact decide_eq_false (List.lt_irrefl _)
      exact PySem.W.kat_yes (PySem.W.kat_nil ⟨rfl, e3.symm⟩)
    · have e3 : (if x = x' then decide (y.cps.toList < y'.cps.toList) else decide (x < x')) = decide (y.cps.toList < y'.cps.toList) := if_pos ex
      refine PySem.W.kat_no (PySem.W.kat_one _ _ (PyProof.Rows.lt_str ?_))
      exact (show s = s ∧ decide (y.cps.toList < y'.cps.toList) = (if x = x' then decide (y.cps.toList < y'.cps.toList) else decide (x < x')) from ⟨rfl, e3.symm⟩)
  · have ex : ¬ x = x' := by simpa using e1
    have e3 : (if x = x' then decide (y.cps.toList < y'.cps.toList) else decide (x < x')) = decide (x < x') := if_neg ex
    exact PySem.W.kat_no (oneLt_int ⟨rfl, e3.symm⟩)
theorem firsts_of {h : Heap} : ∀ {vs : List Value}, (∀ v ∈ vs, ∃ x y, IsP h v x y) → ∃ fs : List Value, PySem.W.KatTups h vs fs ∧ fs.length = vs.length ∧ ∀ f ∈ fs, ∃ x t, f = Value.int x t
  | [], _ => ⟨[], PySem.W.KatTups.nil, rfl, fun _ hm => by simp at hm⟩
  | v :: vs, hp => by
    obtain ⟨fs, h1, h2, h3⟩ := firsts_of (vs := vs) fun v' hm => hp v' (List.mem_cons_of_mem _ hm)
    obtain ⟨x, y, a, o, t, u, n, e, ho, hc, hd⟩ := hp v (List.mem_cons_self ..)
    subst e
    refine ⟨.int x t :: fs, PySem.W.KatTups.cons ho hc hd rfl h1, by rw [List.length_cons, List.length_cons, h2], fun f hm => ?_⟩
    rcases List.mem_cons.mp hm with rfl | hm
    · exact ⟨x, t, rfl⟩
    · exact h3 f hm
theorem sortableO {a : Addr} {vs : List Value} {k : Value → Int × Str} (h0 : 0 < vs.length) (hp : ∀ v ∈ vs, IsP s.heap v (k v).1 (k v).2) (ha : ∀ o, s.heap.get? a = some o → o.cls ≠ .type "tuple") : SortableO prog w A s a vs fun v u => lexS (k v) (k u) := by
  intro h' keep
  have hp' : ∀ v ∈ vs, IsP h' v (k v).1 (k v).2 := fun v hm => (hp v hm).keeps fun b o e c => keep b o (fun z => by subst z; exact ha o e c) e
  obtain ⟨fs, h1, h2, h3⟩ := firsts_of fun v hm => ⟨_, _, hp' v hm⟩
  refine ⟨tuples' true, fun Q E hq => ?_, pair_cmp hp'⟩
  refine PySem.W.kat_kind (T := .type "int") h1 (by omega) (fun f hm => ?_) (by rfl) ?_
  · obtain ⟨x, t, rfl⟩ := h3 f hm
    exact PySem.W.Looks.now
  · have e : (Value.type "int" != Value.type "tuple") = true := by first | decide +kernel | rfl | decide
    rw [e]
    exact hq
theorem sorted_is {l : Addr} {vs : List Value} {k : Value → Int × Str} {Q : Value → Shared → Prop} (hl : s.heap.IsList l vs.toArray) (hz : vs.length ≤ sizeLine) (hp : ∀ v ∈ vs, IsP s.heap v (k v).1 (k v).2)
    (h : ∀ (h' : Heap) (d : Addr) (out : List Value), Srtd (fun v u => lexS (k v) (k u)) out → Stb (fun v u => lexS (k v) (k u)) out vs → (∀ b o, s.heap.get? b = some o → h'.get? b = some o) → s.heap.objs.size ≤ d → (∃ n, h'.get? d = some (seqObj "list" out.toArray n)) → Q (.ref d) { s with heap := h' }) :
    wpAny (model prog w) A (call (.builtin "sorted") [.ref l]) Q E s := by
  refine sorted_ord (swo_lexS k) hl hz (fun h2 h₁ a ha kk => ?_) fun out hs hb => ?_
  · refine sortableO (s := { s with heap := h₁ }) (by omega) (fun v hm => (hp v hm).keeps fun b o e _ => (kk b o e).2) fun o e => ?_
    have e' : some o = some (seqObj "list" vs.toArray 0) := e.symm.trans ha
    cases e'
    intro c
    exact absurd (Value.type.inj c) (by decide)
  · exact h _ _ out hs hb (fun b o e => sortedAll_old e) (Nat.le_succ _) (sortedAll_at s.heap vs out.toArray)
end
end SrtIS
namespace L2
open PySem PySem.Spec PyProof.Rows
def rSortedIS (K : PySem.W.Frag) : List V → Hp → VK → Prop := fun vs H Q => ∃ (a : Addr) (xs : List V) (k : V → Int × Str), vs = [V.ref a] ∧ SqL K H a xs ∧ (∀ x ∈ xs, ∃ t, x = V.ref t ∧ H t = some (.tup [.int (k x).1, .str (k x).2])) ∧
  ∀ ys p, SrtO.Srtd (fun v u => SrtIS.lexS (k v) (k u)) ys → ys.Perm xs → H p = none → Q (.ref p) (upd H p (.lst ys))
section
variable {X : Cx}
theorem cr_sortedIS : CallR X (.builtin "sorted") (rSortedIS X.K) := by
  intro pins s σ H vs us Q I r h
  obtain ⟨a, xs, k, rfl, hs, hx, q⟩ := h
  obtain ⟨its, rv, hl, hz⟩ := I.list hs
  obtain ⟨u, rfl, ru⟩ := vals1 r
  obtain rfl : u = Value.ref a := ru
  obtain ⟨e1, e2⟩ := refs_back rv fun x m => by
    obtain ⟨t, e, _⟩ := hx x m
    exact ⟨t, e⟩
  refine SrtIS.sorted_is (k := fun u => k (backV u)) hl.isList (by rw [← rv.length]; exact hz) (fun v hv => ?_) fun h' d out h1 h2 kp hd hn => ?_
  · obtain ⟨t, rfl⟩ := e2 v hv
    have hm : V.ref t ∈ xs := by rw [e1]; exact List.mem_map.mpr ⟨_, hv, rfl⟩
    obtain ⟨t', e, ht⟩ := hx _ hm
    cases e
    obtain ⟨_, its2, r2, o, ho, hc, n, hd⟩ := I.hok _ _ ht
    obtain ⟨u1, u2, rfl, ri, rj⟩ := vals2 r2
    obtain ⟨t1, rfl⟩ := ri
    obtain ⟨t2, rfl⟩ := rj
    exact ⟨t, o, t1, t2, n, rfl, ho, hc, hd⟩
  · have h3 : ∀ u ∈ out, ∃ a, u = Value.ref a := fun u hu => e2 u (h2.perm.mem_iff.mp hu)
    obtain ⟨n, hn⟩ := hn
    have hb : (out.map backV).Perm xs := by
      rw [e1]
      exact h2.perm.map backV
    refine ⟨.ref d, upd H d (.lst (out.map backV)), I.laid (t' := s.toks) kp hd ⟨?_, out, n, vals_back h3, hn⟩, rfl, q _ d (SrtO.srtd_map h1) hb (I.hok.fresh hd)⟩
    rw [hb.length_eq]
    exact hz
end
end L2
namespace FL
open PySem PySem.Spec L2
def ispT : Int × Str → D := fun p => .tup [.int p.1, .str p.2]
def pairsIS : List D → Option (List (Int × Str))
  | [] => some []
  | .tup [.int i, .str x] :: ds => (pairsIS ds).map ((i, x) :: ·)
  | _ => none
theorem pairsIS_eq : ∀ {ds : List D} {ps : List (Int × Str)}, pairsIS ds = some ps → ds = ps.map ispT
  | ds, ps, h => by
    fun_induction pairsIS ds generalizing ps with
    | case1 => cases h; rfl
    | case2 i x ds ih =>
      obtain ⟨r, h1, rfl⟩ := Option.map_eq_some_iff.mp h
      rw [ih _ h1]; rfl
    | case3 => cases h
theorem pairsIS_map (ps : List (Int × Str)) : pairsIS (ps.map ispT) = some ps := by
  induction ps with
  | nil => rfl
  | cons p ps ih =>
    rw [List.map_cons]
    show (pairsIS (ps.map ispT)).map ((p.1, p.2) :: ·) = _
    rw [ih]; rfl
def leP (p q : Int × Str) : Bool := !SrtIS.lexS q p
theorem leP_total (a b : Int × Str) : (leP a b || leP b a) = true := by
  unfold leP
  cases q : SrtIS.lexS b a with
  | false => simp
  | true =>
    have := (SrtIS.swo_lexS (α := Int × Str) id).asym _ _ q
    have : SrtIS.lexS a b = false := this
    rw [this]; simp
theorem leP_trans (a b c : Int × Str) (h1 : leP a b = true) (h2 : leP b c = true) : leP a c = true := by
  unfold leP at *
  rw [Bool.not_eq_true'] at *
  exact (SrtIS.swo_lexS (α := Int × Str) id).tr a b c h1 h2
theorem leP_anti {a b : Int × Str} (h1 : leP a b = true) (h2 : leP b a = true) : a = b := by
  unfold leP at *
  rw [Bool.not_eq_true'] at *
  obtain ⟨i, x⟩ := a
  obtain ⟨j, y⟩ := b
  rcases SrtIS.lexS_no.mp h1 with e | ⟨e, l⟩ <;> rcases SrtIS.lexS_no.mp h2 with e2 | ⟨e2, l2⟩
  · simp only at e e2; omega
  · simp only at e e2; omega
  · simp only at e e2; omega
  · simp only at e l l2
    rw [e, str_ext (List.le_antisymm l l2)]
def sortP (ps : List (Int × Str)) : List (Int × Str) := ps.mergeSort leP
theorem sortP_perm (ps : List (Int × Str)) : (sortP ps).Perm ps := List.mergeSort_perm ps _
theorem sortP_pw (ps : List (Int × Str)) : (sortP ps).Pairwise fun a b => leP a b = true := List.pairwise_mergeSort (le := leP) leP_trans leP_total ps
theorem sortP_eq {xs ys : List (Int × Str)} (p : ys.Perm xs) (h : ys.Pairwise fun a b => leP a b = true) : ys = sortP xs :=
  List.Perm.eq_of_pairwise (fun x y _ _ h1 h2 => leP_anti h1 h2) h (sortP_pw xs) (p.trans (sortP_perm xs).symm)
def sortTF : D → Option R
  | .lst ds => (pairsIS ds).map fun ps => .nw (.ow (.lst ((sortP ps).map ispT)))
  | _ => none
theorem sortTF_ev (ps : List (Int × Str)) : sortTF (.lst (ps.map ispT)) = some (.nw (.ow (.lst ((sortP ps).map ispT)))) := by
  show (pairsIS (ps.map ispT)).map _ = _
  rw [pairsIS_map]; rfl
def keyIS (H : Hp) : V → Int × Str
  | .ref t => match H t with
    | some (.tup [.int i, .str x]) => (i, x)
    | _ => (0, "")
  | _ => (0, "")
theorem rep_is {K : PySem.W.Frag} {Z : Hp} : ∀ {vs : List V} {ps : List (Int × Str)}, RepL K Z vs (ps.map ispT) → vs.map (keyIS Z) = ps ∧ ∀ v ∈ vs, ∃ t, v = V.ref t ∧ Z t = some (.tup [.int (keyIS Z v).1, .str (keyIS Z v).2])
  | vs, [], h => by cases h; exact ⟨rfl, fun v hv => by cases hv⟩
  | vs, (i, x) :: ps, h => by
    cases h with
    | cons h r =>
      obtain ⟨a, b⟩ := rep_is r
      cases h with
      | tup hz hr =>
        cases hr with
        | cons h1 hr =>
          cases hr with
          | cons h2 hr =>
            cases hr
            cases h1
            cases h2
            rename_i ad
            have e : keyIS Z (.ref ad) = (i, x) := by
              show (match Z ad with
                | some (.tup [.int i, .str x]) => (i, x)
                | _ => (0, "")) = (i, x)
              rw [hz]
            refine ⟨by rw [List.map_cons, e, a], fun v hv => ?_⟩
            rcases List.mem_cons.mp hv with rfl | hv
            · exact ⟨ad, rfl, by rw [e]; exact hz⟩
            · exact b v hv
theorem is_rep {K : PySem.W.Frag} {Z : Hp} : ∀ {vs : List V}, (∀ v ∈ vs, ∃ t, v = V.ref t ∧ Z t = some (.tup [.int (keyIS Z v).1, .str (keyIS Z v).2])) → RepL K Z vs ((vs.map (keyIS Z)).map ispT)
  | [], _ => .nil
  | v :: vs, h => by
    obtain ⟨t, rfl, hz⟩ := h v List.mem_cons_self
    exact .cons (.tup hz (.cons (.int _) (.cons (.str _) .nil))) (is_rep fun v hv => h v (List.mem_cons_of_mem _ hv))
section
variable {X : Cx}
theorem cd_sortedT : CallD X (.builtin "sorted") (d1 sortTF) := by
  intro pins s σ H vs us Q Z ds r I rv sb hd e q
  obtain ⟨d, rfl, e⟩ := d1_some e
  cases hd with
  | cons h t =>
    cases t
    cases d with
    | lst xs =>
      obtain ⟨a, ws, rfl, h1, h2⟩ := h
      have e' : (pairsIS xs).map (fun ps => R.nw (.ow (.lst ((sortP ps).map ispT)))) = some r := e
      obtain ⟨ps, e1, e2⟩ := Option.map_eq_some_iff.mp e'
      cases e2
      rw [pairsIS_eq e1] at h2
      obtain ⟨k1, k2⟩ := rep_is h2
      refine cr_sortedIS pins s σ H _ us Q I rv ⟨a, ws, keyIS Z, rfl, h1, fun x hx => ?_, fun ys p hs hp hn => ?_⟩
      · obtain ⟨t, e3, e4⟩ := k2 x hx
        exact ⟨t, e3, (sb _ _ e4).elim id fun z => z.2.elim⟩
      · have hy : RepL X.K Z ys ((ys.map (keyIS Z)).map ispT) := is_rep fun v hv => k2 v (hp.mem_iff.mp hv)
        have es : ys.map (keyIS Z) = sortP ps := by
          refine sortP_eq ?_ ?_
          · rw [← k1]; exact hp.map _
          · refine List.pairwise_map.mpr (List.Pairwise.imp (fun {a b} h => ?_) hs)
            have h : SrtIS.lexS (keyIS Z b) (keyIS Z a) = false := h
            unfold leP
            rw [h]; rfl
        rw [es] at hy
        exact q _ _ (.new (o := .lst _) (d := .lst _) hn ⟨_, upd_same, hy⟩)
    | _ => cases e
end
end FL

set_option Elab.async false
set_option maxRecDepth 100000
set_option maxHeartbeats 4000000
/-! sorted(d, key=lambda y: x[y]) -/
namespace Ord
open PySem PySem.Spec PyProof.Rows L2
section
variable {prog : Program} {w : World} {A : Around} {E : Value → Shared → Prop} {s : Shared}
/-- the lambda y: x[y], called with a key of the dict that x names -/
theorem lam_turn {f d cA c' : Addr} {q x y : Str} {params : Arguments} {p1 p2 p3 : Pos} {scope : Scope} {cl : List (Str × Addr)} {pm ctv v : Value} {vs : List (Key × Value)} {k : Key} {n : Int} {t : Tok} {Q : Value → Shared → Prop}
    (hr : A.depth < recursionLimit) (lim : s.heap.NoLimit) (ho : s.heap.get? f = some (PySem.W.kla_obj "<lambda>" q params (.Subscript (.Name x p1) (.Name y p2) p3) scope cl pm c' ctv)) (hcd : s.heap.CodeRec (.ref c') q)
    (hk : scope.kind = .function) (hco : scope.isCoroutine = false) (hgen : scope.isGenerator = false) (hcell : ∀ z ∈ scope.names, z.2 ≠ .cell) (hy : scope.names.lookup y = some .local) (hx : scope.names.lookup x = some .free)
    (hbind : ∀ (q : Str) (cl : List (Str × Addr)) (pm cv ctv v : Value), bindArgs (PySem.W.kla_fn "<lambda>" q params (.Subscript (.Name x p1) (.Name y p2) p3) scope cl pm cv ctv) ⟨[v], []⟩ = pure [(y, v)])
    (hcl : cl.lookup x = some cA) (hcA : s.heap.IsCell cA (some (.ref d))) (hd : s.heap.DictOf (mixKind prog w) d vs) (hkv : (mixKind prog w).is k v = true) (hv : valueAt vs k = some (.int n t))
    (h : ∀ (h' : Heap) (tk : Nat), (∀ b o, s.heap.get? b = some o → h'.get? b = some o) → Q (.int n t) { s with heap := h', toks := tk })
    (hxd : (x == ("__debug__" : Str)) = false := by decide) (hyd : (y == ("__debug__" : Str)) = false := by decide) (hxc : (x == ("__classdict__" : Str)) = false := by decide) : wpAny (model prog w) A (call (.ref f) [v]) Q E s := by
  refine wpAny_call (PySem.W.kla_callFunE hr ho rfl hco hgen rfl hcd ?_)
  rw [hbind]
  refine wpAny_pure (wpAny_newFunctionEnv hcell (fun z hz => ?_) (fun h₁ hns hsb => ⟨lim.fresh _ hsb, ?_⟩) hk)
  · rw [List.mem_singleton.mp hz]; exact hy
  have kp : ∀ b o, s.heap.get? b = some o → h₁.get? b = some o := fun b o e => hsb.extBut b o (Nat.ne_of_lt (Heap.lt_size e)) (Heap.get?_push_of_some _ e)
  show codeAny _ _ (.expr (.Subscript (.Name x p1) (.Name y p2) p3) (PySem.W.envX q scope s.heap.objs.size f (.ref c') cl)) _ _
  refine PySem.W.kla_codeExpr ?_
  have hd1 : h₁.DictOf (mixKind prog w) d vs := hd.keep kp
  have hy2 : (PySem.W.envX q scope s.heap.objs.size f (.ref c') cl).kindOf y = some .local := hy
  have hx2 : (PySem.W.envX q scope s.heap.objs.size f (.ref c') cl).kindOf x = some .free := hx
  refine subD_of (T := "dict") PySem.F.slot_dict_getitem.lookup (fun _ _ => rfl) ?_
  refine wpAny_Name (wpAny_loadName_free hk hx2 hcl (hcA.keeps kp) ?_ hxc) hxd
  refine wpAny_Name (wpAny_loadName_local (v := v) hk hy2 hns (by simp) ?_) hyd
  refine ⟨hd1.typeIs (s := { s with heap := h₁, toks := s.toks + [(y, v)].length }), ?_⟩
  exact wpAny_getItem_of hkv hd1.mapOf hv (h _ _ kp)
end
/-! ### the heap below the frame, and what stands above it -/
def tr (h : Heap) (L : Addr) : Heap := { h with objs := h.objs.extract 0 L }
theorem tr_get (h : Heap) (L b : Addr) : (tr h L).get? b = if b < L then h.get? b else none := by
  unfold tr Heap.get?
  show (match (h.objs.extract 0 L)[b]? with
    | some ⟨_, _, .freed, _⟩ => none
    | o => o) = _
  by_cases c : b < L
  · rw [if_pos c]
    have : (h.objs.extract 0 L)[b]? = h.objs[b]? := by
      rw [Array.getElem?_extract]
      by_cases z : b < min L h.objs.size - 0
      · rw [if_pos z, Nat.zero_add]
      · rw [if_neg z]
        symm
        exact Array.getElem?_eq_none (Nat.le_of_not_lt fun y => z (by rw [Nat.sub_zero]; exact Nat.lt_min.mpr ⟨c, y⟩))
    rw [this]
    rfl
  · rw [if_neg c]
    have : (h.objs.extract 0 L)[b]? = none := Array.getElem?_eq_none (by
      rw [Array.size_extract, Nat.sub_zero]
      exact Nat.le_trans (Nat.min_le_left _ _) (Nat.le_of_not_lt c))
    rw [this]
theorem tr_size (h : Heap) (L : Addr) : (tr h L).objs.size ≤ L := by
  show (h.objs.extract 0 L).size ≤ L
  rw [Array.size_extract, Nat.sub_zero]
  exact Nat.min_le_left _ _
def up (h : Heap) (L : Addr) : List (Addr × Obj) := (List.range h.objs.size).filterMap fun b => if b ≤ L then none else (h.get? b).map fun o => (b, o)
theorem up_mem {h : Heap} {L : Addr} {p : Addr × Obj} : p ∈ up h L ↔ L < p.1 ∧ h.get? p.1 = some p.2 := by
  unfold up
  rw [List.mem_filterMap]
  constructor
  · rintro ⟨b, hb, e⟩
    by_cases c : b ≤ L
    · rw [if_pos c] at e; cases e
    · rw [if_neg c] at e
      obtain ⟨o, e1, e2⟩ := Option.map_eq_some_iff.mp e
      rw [← e2]
      exact ⟨Nat.lt_of_not_le c, e1⟩
  · rintro ⟨h1, h2⟩
    refine ⟨p.1, List.mem_range.mpr (Heap.lt_size h2), ?_⟩
    rw [if_neg (Nat.not_le_of_lt h1), h2]
    rfl
/-- all that stood but the frame's names -/
theorem kept_of {h hS g : Heap} {L : Addr} {m : Str → Option Value} {own : List (Addr × Obj)} (hk : ∀ b o, h.get? b = some o → hS.get? b = some o) (F : Fr (tr hS L) L g m) (N : News (tr hS L) L g (up h L ++ own)) :
    ∀ b o, b ≠ L → h.get? b = some o → g.get? b = some o := fun b o nb e => by
  by_cases c : b < L
  · exact F.keep b o (by rw [tr_get, if_pos c]; exact hk b o e)
  · exact (N (b, o) (List.mem_append_left _ (up_mem.mpr ⟨Nat.lt_of_le_of_ne (Nat.le_of_not_lt c) (Ne.symm nb), e⟩))).1
theorem ns_uniq {h : Heap} {L : Addr} {m m' : Str → Option Value} (a : h.Ns L m) (b : h.Ns L m') : m = m' := by
  obtain ⟨o, es, ep, e, d, _, f⟩ := a
  obtain ⟨o', es', ep', e', d', _, f'⟩ := b
  rw [e] at e'; cases e'
  rw [d] at d'; cases d'
  funext n
  rw [← f, f']
/-- the strings, by their numbers -/
theorem strs_out {vs out : List Value} {ks : List Str} {kz : List Int} (hS : StrsAre vs ks) (nd : kz.Nodup) (hl : kz.length = ks.length) (ko : KskOut false kz vs out) : StrsAre out ((FL.sortP (kz.zip ks)).map (·.2)) := by
  obtain ⟨ps, h1, h2, h3⟩ := ko
  have g1 : ∀ {vs : List Value} {ks : List Str} {kz : List Int}, StrsAre vs ks → kz.length = ks.length → ∀ p ∈ kz.zip vs, ∃ x t, p.2 = .str x t ∧ (p.1, x) ∈ kz.zip ks := by
    intro vs ks kz h
    induction h generalizing kz with
    | nil => intro _ p hp; simp at hp
    | cons y t h ih =>
      intro hl p hp
      cases kz with
      | nil => cases hl
      | cons z kz =>
        rcases List.mem_cons.mp hp with e | e
        · rw [e]; exact ⟨y, t, rfl, List.mem_cons_self⟩
        · obtain ⟨x, t', e1, e2⟩ := ih (Nat.succ.inj hl) p e
          exact ⟨x, t', e1, List.mem_cons_of_mem _ e2⟩
  let g : Int × Value → Int × Str := fun p => (p.1, match p.2 with
    | .str x _ => x
    | _ => "")
  have g2 : ∀ {vs : List Value} {ks : List Str} {kz : List Int}, StrsAre vs ks → kz.length = ks.length → (kz.zip vs).map g = kz.zip ks := by
    intro vs ks kz h
    induction h generalizing kz with
    | nil => intro _; simp
    | cons y t h ih =>
      intro hl
      cases kz with
      | nil => cases hl
      | cons z kz =>
        exact congrArg (List.cons (z, y)) (ih (Nat.succ.inj hl))
  have pm : (ps.map g).Perm (kz.zip ks) := by rw [← g2 hS hl]; exact h1.map g
  have h3' : ps.Pairwise fun p q => p.1 ≤ q.1 := h3
  have fst : ((kz.zip ks).map (·.1)) = kz := List.map_fst_zip (by omega)
  have nd2 : ((ps.map g).map (·.1)).Nodup := (pm.map (·.1)).nodup_iff.mpr (by rw [fst]; exact nd)
  have nd3 : (ps.map g).Pairwise fun p q => p.1 ≠ q.1 := List.pairwise_map.mp nd2
  have lt : (ps.map g).Pairwise fun p q => FL.leP p q = true := by
    have h4 : (ps.map g).Pairwise fun p q => p.1 ≤ q.1 := List.pairwise_map.mpr h3'
    refine (h4.and nd3).imp fun {p q} z => ?_
    unfold FL.leP
    rw [SrtIS.lexS_no.mpr (.inl (by have := z.1; have := z.2; omega))]
    rfl
  have es := FL.sortP_eq pm lt
  rw [← es, h2, List.map_map]
  have all : ∀ p ∈ ps, ∃ x t, p.2 = .str x t := fun p hp => by
    obtain ⟨x, t, e, _⟩ := g1 hS hl p (h1.mem_iff.mp hp)
    exact ⟨x, t, e⟩
  clear es lt nd2 nd3 pm h1 h2 h3 h3'
  induction ps with
  | nil => exact .nil
  | cons p ps ih =>
    obtain ⟨x, t, e⟩ := all p List.mem_cons_self
    have r := ih fun q hq => all q (List.mem_cons_of_mem _ hq)
    obtain ⟨i, v⟩ := p
    have e : v = .str x t := e
    subst e
    exact .cons x t r
theorem val_at {p : Str × Int} : ∀ {ps : List (Str × Int)}, (ps.map (·.1)).Nodup → p ∈ ps → valV (ps.map fun p => ((.inr p.1 : Key), V.int p.2)) (.inr p.1) = some (.int p.2)
  | [], _, h => by cases h
  | r :: ps, nd, h => by
    rw [List.map_cons, List.nodup_cons] at nd
    unfold valV
    rw [List.map_cons, List.find?_cons]
    by_cases e : r.1 = p.1
    · rcases List.mem_cons.mp h with z | z
      · rw [z]; simp
      · exact absurd (show r.1 ∈ ps.map (·.1) from List.mem_map.mpr ⟨p, z, e.symm⟩) nd.1
    · rcases List.mem_cons.mp h with z | z
      · rw [z] at e; exact absurd rfl e
      · have := val_at nd.2 z
        unfold valV at this
        rw [show decide (((.inr r.1 : Key), V.int r.2).1 = .inr p.1) = false from decide_eq_false fun y => e (Sum.inr.inj y)]
        exact this
theorem zip_swap : ∀ ps : List (Str × Int), (ps.map (·.2)).zip (ps.map (·.1)) = ps.map fun p => (p.2, p.1)
  | [] => rfl
  | p :: ps => congrArg (List.cons (p.2, p.1)) (zip_swap ps)
/-- sorted(d, key=f), f a lambda y: x[y], x the dict itself -/
theorem sorted_lam {X : Cx} {pins : List (Addr × Obj)} {s : Shared} {σ : L2.St} {H : Hp} {d f cA c' : Addr} {q x y : Str} {params : Arguments} {p1 p2 p3 : Pos} {scope : Scope} {cl : List (Str × Addr)} {pm ctv : Value} {ps : List (Str × Int)} {Q : VK} {k : Nat}
    (I : Inv X pins σ H s) (hcalm : X.calm = true) (hr : Room k X.A) (hd : Rd H d (.dK (ps.map fun p => ((.inr p.1 : Key), V.int p.2)))) (h64 : ps.length < 64) (nd : (ps.map (·.2)).Nodup)
    (ho : s.heap.get? f = some (PySem.W.kla_obj "<lambda>" q params (.Subscript (.Name x p1) (.Name y p2) p3) scope cl pm c' ctv)) (hc : H c' = some (LamX.CodeO c' q))
    (hk : scope.kind = .function) (hco : scope.isCoroutine = false) (hgen : scope.isGenerator = false) (hcell : ∀ z ∈ scope.names, z.2 ≠ .cell) (hy : scope.names.lookup y = some .local) (hx : scope.names.lookup x = some .free)
    (hbind : ∀ (q : Str) (cl : List (Str × Addr)) (pm cv ctv v : Value), bindArgs (PySem.W.kla_fn "<lambda>" q params (.Subscript (.Name x p1) (.Name y p2) p3) scope cl pm cv ctv) ⟨[v], []⟩ = pure [(y, v)])
    (hcl : cl.lookup x = some cA) (hcA : s.heap.IsCell cA (some (.ref d)))
    (q' : ∀ p, H p = none → Q (.ref p) (upd H p (.lst (((FL.sortP (ps.map fun p => (p.2, p.1))).map (·.2)).map V.str))))
    (hxd : (x == ("__debug__" : Str)) = false := by decide) (hyd : (y == ("__debug__" : Str)) = false := by decide) (hxc : (x == ("__classdict__" : Str)) = false := by decide) :
    wpAny (model X.prog X.w) X.A (call (.builtin "sorted") [.ref d] [(Str.ofString "key", .ref f)]) (EP X pins σ Q) X.xe s := by
  obtain ⟨z, lo, vs, rel, dd⟩ := dk_rd I.hok hd
  obtain ⟨ep, hat⟩ := dd.dictAt
  have hkeys : vs.map (·.1) = (ps.map (·.1)).map Sum.inr := by
    rw [← rel.keys, List.map_map, List.map_map]; rfl
  have hl : vs.length = ps.length := by
    have e := congrArg List.length hkeys
    rw [List.length_map, List.length_map, List.length_map] at e
    exact e
  have h16 : vs.length ≤ sizeLine := by rw [hl, sizeLine_eq]; omega
  refine PyProof.Rows.call_function_entry_kw PyProof.Rows.kind_sorted PyProof.Rows.plain_sorted PyProof.Rows.entry_sorted (ksk_s1 _ _) ?_
  unfold Builtin.«sorted»
  refine wpAny_bind (m := checkCount "sorted" 1 1 _) (wpAny_pure ?_)
  refine wpAny_bind (PySem.W.kdu_collect (A := X.A.in1) (PySem.W.kdl_dict (knd := mixKind X.prog X.w) (kvs := vs) (ep := ep) lo) (I.ok.hd hcalm) hat h16 fun h' tk acc hk' hacc => ?_)
  have hal : acc.toList.length = (ps.map (·.1)).length := by rw [Array.length_toList, hacc.1, hl, List.length_map]
  have hS : StrsAre acc.toList (ps.map (·.1)) := strs_at hal fun j v e => by
    obtain ⟨k, x, e1, e2⟩ := hacc.2 j v (by rw [← Array.getElem?_toList]; exact e)
    have e3 : (vs.map (·.1))[j]? = some k := by rw [List.getElem?_map, e1]; all_goals rfl
    rw [hkeys, List.getElem?_map] at e3
    cases e4 : (ps.map (·.1))[j]? with
    | none => rw [e4] at e3; cases e3
    | some y =>
      rw [e4] at e3
      have e5 : Sum.inr y = k := Option.some.inj e3
      subst e5
      obtain ⟨t, ev⟩ := Value.isStrOf_shape (x := y) (v := v) e2
      exact ⟨y, t, rfl, ev⟩
  have I1 : Inv X pins σ H { s with heap := h', toks := tk } := I.kept hk'
  refine wpAny_bind (wpAny_newList ?_ (by rw [hal, List.length_map, sizeLine_eq]; omega))
  have hoL : (h'.push (seqObj "list" acc.toList.toArray 0)).get? h'.objs.size = some (seqObj "list" acc.toList.toArray 0) := Heap.get?_push_size _ rfl
  have kS : ∀ b o, h'.get? b = some o → (h'.push (seqObj "list" acc.toList.toArray 0)).get? b = some o := fun b o e => Heap.get?_push_of_some _ e
  show wpAny _ _ _ _ _ { s with heap := h'.push (seqObj "list" acc.toList.toArray 0), toks := tk }
  obtain ⟨m, hn, hloc⟩ := I1.loc
  have hL : X.env.locals < h'.objs.size := hn.lt
  have Fk : ∀ b o, (tr (h'.push (seqObj "list" acc.toList.toArray 0)) X.env.locals).get? b = some o → (h'.push (seqObj "list" acc.toList.toArray 0)).get? b = some o := fun b o e => by
    rw [tr_get] at e
    by_cases c : b < X.env.locals
    · rw [if_pos c] at e; exact e
    · rw [if_neg c] at e; cases e
  have F : Fr (tr (h'.push (seqObj "list" acc.toList.toArray 0)) X.env.locals) X.env.locals (h'.push (seqObj "list" acc.toList.toArray 0)) m :=
    ⟨by obtain ⟨o, es, ep, e, r⟩ := hn; exact ⟨o, es, ep, kS _ _ e, r⟩, Fk, tr_size _ _⟩
  have N : News (tr (h'.push (seqObj "list" acc.toList.toArray 0)) X.env.locals) X.env.locals (h'.push (seqObj "list" acc.toList.toArray 0)) (up h' X.env.locals) := fun p hp => by
    obtain ⟨a1, a2⟩ := up_mem.mp hp
    refine ⟨kS _ _ a2, Nat.ne_of_gt a1, ?_⟩
    rw [tr_get, if_neg (Nat.lt_asymm a1)]
  have hdL : d ≠ X.env.locals := fun z => by
    rcases hd with e | ⟨o, e⟩
    · rw [z, I.free] at e; cases e
    · rw [z, I.free] at e; cases e
  have hcL : c' ≠ X.env.locals := fun z => by rw [z, I.free] at hc; cases hc
  have hfL : f ≠ X.env.locals := fun z => by
    obtain ⟨o, es, ep, e, dd, _⟩ := hn
    have := hk' _ _ ho
    rw [z] at this
    have e' : h'.get? X.env.locals = some o := e
    rw [this] at e'; cases e'; cases dd
  obtain ⟨oA, hoA, hdA⟩ := hcA
  have hAL : cA ≠ X.env.locals := fun z => by
    obtain ⟨o, es, ep, e, dd, _⟩ := hn
    have := hk' _ _ hoA
    rw [z] at this
    have e' : h'.get? X.env.locals = some o := e
    rw [this] at e'; cases e'; rw [hdA] at dd; cases dd
  obtain ⟨⟨oc, ovs, ot, hoc, hdc, hvc⟩, _, _⟩ := I.hok c' _ hc
  have hz : (ps.map (·.2)).length = (ps.map (·.1)).length := by rw [List.length_map, List.length_map]
  have base_lt : ∀ b o, X.base.get? b = some o → b < X.env.locals := fun b o e => Nat.lt_of_lt_of_le (Heap.lt_size e) (Nat.le_trans I.ok.bsz I.ok.above)
  refine wpAny_bind (wpAny_holding (wpAny_call_entry_kw PyProof.Rows.slot_list_sort ⟨_, hoL, rfl⟩ PyProof.Rows.entry_list_sort ?body (ksk_l1 _ _)))
  case body =>
    show wpAny (model X.prog X.w) X.A.in1.in1 (Builtin.«list.sort» ⟨[.ref h'.objs.size], [(Str.ofString "key", .ref f)]⟩) _ _ _
    rw [ksk_t1]
    refine ksk_sort (s := { s with heap := h'.push (seqObj "list" acc.toList.toArray 0), toks := tk }) (kz := ps.map (·.2)) F N hoL (Nat.ne_of_gt hL) (by rw [tr_get, if_neg (Nat.lt_asymm hL)]) (fun p hp => Nat.ne_of_lt (Heap.lt_size (up_mem.mp hp).2)) (by rw [hz, hal]) (by rw [hal, List.length_map]; exact h64) (fun i v n hv hn' g tk2 own F' N' => ?_) fun g tk2 out c F' N' ko => ⟨_, rfl, ?_⟩
    · have kp := kept_of kS F' N'
      have kg : ∀ b o, b ≠ X.env.locals → s.heap.get? b = some o → g.get? b = some o := fun b o nb e => kp b o nb (hk' b o e)
      obtain ⟨xn, t1, hvx, hxn⟩ := hS.item i v hv
      subst hvx
      have hpi : ∃ p, ps[i]? = some p ∧ p.1 = xn ∧ p.2 = n := by
        rw [List.getElem?_map] at hxn hn'
        cases e : ps[i]? with
        | none => rw [e] at hxn; cases hxn
        | some p =>
          rw [e] at hxn hn'
          exact ⟨p, rfl, Option.some.inj hxn, Option.some.inj hn'⟩
      obtain ⟨p, hp, rfl, rfl⟩ := hpi
      have hd2 : g.DictOf (mixKind X.prog X.w) d vs := dd.at fun o e => kg d o hdL e
      have hv2 : valV (ps.map fun p => ((.inr p.1 : Key), V.int p.2)) (.inr p.1) = some (.int p.2) := val_at (by
        obtain ⟨_, _, _, _, _, _, _, _, ndk⟩ := dd
        rw [hkeys, List.map_map] at ndk
        exact List.pairwise_map.mpr ((List.pairwise_map.mp ndk).imp fun {a b} h e => h (congrArg Sum.inr e))) (List.mem_of_getElem? hp)
      obtain ⟨w', hw, t, rfl⟩ := RelO.some_of (v := .int p.2) (o := valueAt vs (.inr p.1)) (by rw [← hv2]; exact rel.val _)
      exact lam_turn (s := { s with heap := g, toks := tk2 }) (A := X.A.in1.in1) (show X.A.depth < recursionLimit from hr.depth) (I.ok.mod.nolimit.keeps fun b o e => kg b o (Nat.ne_of_lt (base_lt b o e)) (I.bk b o e)) (kg f _ hfL ho) ⟨c', oc, ovs, ot, rfl, kg c' oc hcL hoc, hdc, hvc⟩
        hk hco hgen hcell hy hx hbind hcl ⟨oA, kg cA oA hAL hoA, hdA⟩ hd2 (kV_is (k := .inr p.1) ⟨t1, rfl⟩) hw (fun g2 tk3 kp2 => ⟨g2, tk3, t, rfl, rfl, F'.kept kp2, N'.grown kp2⟩) hxd hyd hxc
    · have N2 : News (tr (h'.push (seqObj "list" acc.toList.toArray 0)) X.env.locals) X.env.locals g (up h' X.env.locals ++ []) := fun p hp => N' p (List.mem_cons_of_mem _ (by rw [List.append_nil] at hp; exact hp))
      have kp := kept_of kS F' N2
      have ho' : g.get? h'.objs.size = some (seqObj "list" out c) := (N' _ List.mem_cons_self).1
      have hy' := strs_out hS nd hz ko
      rw [zip_swap] at hy'
      have hln : ((FL.sortP (ps.map fun p => (p.2, p.1))).map (·.2)).length = ps.length := by rw [List.length_map, (FL.sortP_perm _).length_eq, List.length_map]
      have hnew : H h'.objs.size = none := I1.hok.fresh (Nat.le_refl _)
      have hns : ∀ b u, H b = some u → b ≠ X.env.locals := fun b u e z => by rw [z, I.free] at e; cases e
      have upn : ∀ b u, H b = some u → upd H h'.objs.size (.lst (((FL.sortP (ps.map fun p => (p.2, p.1))).map (·.2)).map V.str)) b = some u := fun b u e => by rw [upd_ne (ne_of_none e hnew)]; exact e
      have I2 : Inv X pins σ (upd H h'.objs.size (.lst (((FL.sortP (ps.map fun p => (p.2, p.1))).map (·.2)).map V.str))) { s with heap := g, toks := tk2 } := by
        refine I1.step (s := { s with heap := h', toks := tk }) (h' := g) (g' := s.gens) (d' := s.drawn) (t' := tk2) (ch := []) (fun b hb => absurd hb (by simp)) (fun b o nL _ _ e _ => kp b o nL e) (fun b o nL _ _ e _ => ⟨o.slots, kp b o nL e⟩) (fun b o _ e n => ?_) (fun b o _ e => ?_) (fun b xs e => upn _ _ e) (fun b o u e => upn _ _ e) (fun b qs e => ⟨#[], by rw [upn _ _ e]; simp⟩) (fun m' hm' => ?_) (fun b u e => ?_) I1.bare
        · rw [upd_ne (Nat.ne_of_lt (Heap.lt_size e))]; exact n
        · by_cases z : b = X.env.locals
          · obtain ⟨o', es, ep', e', _⟩ := F'.ns
            exact ⟨o', by rw [z]; exact e'⟩
          · exact ⟨o, kp b o z e⟩
        · rw [ns_uniq hm' hn]; exact F'.ns
        · by_cases z : b = h'.objs.size
          · rw [z, upd_same] at e
            cases e
            rw [z]
            refine ⟨by rw [List.length_map, hln, sizeLine_eq]; omega, out.toList, c, vals_of_strs hy', ?_⟩
            rw [Array.toArray_toList]
            exact ho'
          · rw [upd_ne z] at e
            refine (I1.hok b u e).stay (fun b2 v hb q => kp b2 v ?_ q) (fun b2 q => upn _ _ q) fun b2 xs q => upn _ _ q
            rcases hb with w | w
            · rw [w]; exact hns _ _ e
            · exact hns _ _ w
      exact wpAny_pure ⟨_, rfl, .ref h'.objs.size, _, I2, rfl, q' _ hnew⟩
end Ord

set_option Elab.async false
set_option maxRecDepth 100000
set_option maxHeartbeats 4000000
namespace FL
open PySem PySem.Spec L2 PyProof.Rows LamX
/-- what the making of a lambda changes -/
def Made (H H1 : Hp) (P c : Addr) (q : Str) : Prop := H1 = H ∨ ∃ ps more, H P = some (.tbl ps) ∧ H c = none ∧ H1 = upd (upd H P (.tbl (ps ++ more))) c (CodeO c q)
theorem made_keep {H H1 : Hp} {P c : Addr} {q : Str} (m : Made H H1 P c q) : ExtN H H1 := by
  rcases m with rfl | ⟨ps, more, h1, h2, rfl⟩
  · exact ExtN.refl _
  · intro b o e n
    rw [upd_ne (ne_of_none e h2), upd_ne (fun z => n ps (Option.some.inj (e.symm.trans (by rw [z]; exact h1))))]
    exact e
theorem made_tb {H H1 : Hp} {P c : Addr} (m : Made H H1 P c lamQ) (t : TabS H1 P lamQ) : TbK H H1 := by
  refine ⟨fun P' h => ?_, fun p ps h => ?_⟩
  · by_cases e : P' = P
    · rw [e]; exact t
    · obtain ⟨ps', a1, a2, a3⟩ := h
      have k := made_keep m
      refine ⟨ps', ?_, a2, fun pos cv hc => ?_⟩
      · rcases m with rfl | ⟨ps, more, h1, h2, rfl⟩
        · exact a1
        · rw [upd_ne (ne_of_none a1 h2), upd_ne e]; exact a1
      · obtain ⟨c0, e1, e2⟩ := a3 pos cv hc
        exact ⟨c0, e1, k _ _ e2 codeO_ne⟩
  · rcases m with rfl | ⟨ps2, more, h1, h2, rfl⟩
    · exact ⟨ps, h⟩
    · by_cases e : p = P
      · exact ⟨ps2 ++ more, by rw [e, upd_ne (ne_of_none h1 h2), upd_same]⟩
      · exact ⟨ps, by rw [upd_ne (ne_of_none h h2), upd_ne e]; exact h⟩
section
variable {X : Cx} {pins : List (Addr × Obj)} {σ : L2.St} {H : Hp} {s : Shared}
/-- a lambda is made: its code object is new, or the table has it -/
theorem lam_made {c P : Addr} {params : Arguments} {body : Expr} {scope : Scope} {pos : Pos} {E : Value → Shared → Prop} {Q : Value → Shared → Prop} (I : Inv X pins σ H s) (TB : TabB X.base X.mg c P) (hcode : X.env.code = .ref c)
    (hT : TabS H P (X.env.qual ++ "<lambda>")) (hdef : defaultsOf params X.env = ([], [])) (hfree : ∀ y ∈ scope.names, y.2 = .free → ∃ c, X.env.cells.lookup y.1 = some c)
    (h : ∀ (f c' : Addr) (pm ctv : Value) (H1 : Hp) (s' : Shared), Inv X pins σ H1 s' → Made H H1 P c' (X.env.qual ++ "<lambda>") → TabS H1 P (X.env.qual ++ "<lambda>") →
      s'.heap.get? f = some (PySem.W.kla_obj "<lambda>" (X.env.qual ++ "<lambda>") params body scope (cloFrom X.env.cells scope.names []) pm c' ctv) → H1 c' = some (CodeO c' (X.env.qual ++ "<lambda>")) → Q (.ref f) s') :
    wpAny (model X.prog X.w) X.A (eval (.Lambda params body scope pos) X.env) Q E s := by
  have hT0 := hT
  obtain ⟨ps, hP, ht, ha⟩ := hT
  refine PySem.W.kla_eval hdef ?_
  have bP : s.heap.BuiltinsAt X.mg P := TB.bm.keeps I.bk
  have hP' : s.heap.get? P = some { cls := .none, data := .fields ps } := I.hok P _ hP
  cases hc : codeAmong pos ps.toList with
  | none =>
    refine PySem.W.kla_makeFunction (mg := X.mg) (c := c) (P := P) (ps := ps) (closure_ok hfree) I.ok.glob (I.mod.glob.keeps I.bk) hcode (TB.code.keeps I.bk) hP' ht hc TB.gP bP fun c' ctv h' tk hx hge hlt hrec htb => ?_
    obtain ⟨c2, oc, vs, t, e2, hoc, hd, hv⟩ := hrec
    cases e2
    have nC : H c' = none := I.hok.fresh hge
    have I1 := inv_table (t' := tk) (more := #[rawInt pos.line, rawInt pos.col, .ref c']) (h' := h'.push (PySem.W.kla_obj "<lambda>" (X.env.qual ++ "<lambda>") params body scope (cloFrom X.env.cells scope.names []) ((X.mg "__name__").getD .none) c' ctv)) I hP
      (fun b o hb e => Heap.get?_push_of_some _ (hx b o hb e)) (Heap.get?_push_of_some _ htb) hge ⟨oc, vs, t, Heap.get?_push_of_some _ hoc, hd, hv⟩
    have mk : Made H _ P c' (X.env.qual ++ "<lambda>") := .inr ⟨ps, #[rawInt pos.line, rawInt pos.col, .ref c'], hP, nC, rfl⟩
    refine h h'.objs.size c' ((X.mg "__name__").getD .none) ctv _ _ I1 mk ?_ (Heap.get?_push_size _ rfl) upd_same
    have eL : (ps ++ #[rawInt pos.line, rawInt pos.col, .ref c']).toList = ps.toList ++ [rawInt pos.line, rawInt pos.col, .ref c'] := by simp
    refine ⟨_, by rw [upd_ne (ne_of_none hP nC), upd_same], by rw [eL]; exact PySem.TriplesOk_snoc _ _ _ _ ht, fun p' cv hcv => ?_⟩
    rw [eL] at hcv
    rcases among_app _ ht hcv with z | z
    · obtain ⟨c0, e1, e2⟩ := ha p' cv z
      exact ⟨c0, e1, made_keep mk _ _ e2 codeO_ne⟩
    · exact ⟨c', z, upd_same⟩
  | some cv =>
    obtain ⟨c', e, hco⟩ := ha pos cv hc
    subst e
    refine PySem.W.kla_makeFunctionHit (mg := X.mg) (c := c) (P := P) (ps := ps) (closure_ok hfree) I.ok.glob (I.mod.glob.keeps I.bk) hcode (TB.code.keeps I.bk) hP' ht hc bP fun ctv h' tk hx hsz => ?_
    have I1 : Inv X pins σ H { s with heap := h'.push (PySem.W.kla_obj "<lambda>" (X.env.qual ++ "<lambda>") params body scope (cloFrom X.env.cells scope.names []) ((X.mg "__name__").getD .none) c' ctv), toks := tk } := I.kept fun b o e => Heap.get?_push_of_some _ (hx b o e)
    exact h h'.objs.size c' ((X.mg "__name__").getD .none) ctv H _ I1 (.inl rfl) hT0 (Heap.get?_push_size _ rfl) hco
end
/-! ### sorted(x, key=lambda y: x[y]), x a dict of strings to different ints -/
def linePs : List (Key × D) → Option (List (Str × Int))
  | [] => some []
  | (.inr x, .int i) :: r => (linePs r).map ((x, i) :: ·)
  | _ => none
theorem linePs_eq : ∀ {kds : List (Key × D)} {ps : List (Str × Int)}, linePs kds = some ps → kds = ps.map fun p => ((.inr p.1 : Key), D.int p.2)
  | kds, ps, h => by
    fun_induction linePs kds generalizing ps with
    | case1 => cases h; rfl
    | case2 x i r ih =>
      obtain ⟨q, h1, rfl⟩ := Option.map_eq_some_iff.mp h
      rw [ih _ h1]; rfl
    | case3 => cases h
theorem linePs_map (ps : List (Str × Int)) : linePs (ps.map fun p => ((.inr p.1 : Key), D.int p.2)) = some ps := by
  induction ps with
  | nil => rfl
  | cons p ps ih =>
    rw [List.map_cons]
    show (linePs (ps.map fun p => ((.inr p.1 : Key), D.int p.2))).map ((p.1, p.2) :: ·) = _
    rw [ih]; rfl
theorem rep_line {K : PySem.W.Frag} {Z : Hp} : ∀ {kvs : List (Key × V)} {ps : List (Str × Int)}, RepK K Z kvs (ps.map fun p => ((.inr p.1 : Key), D.int p.2)) → kvs = ps.map fun p => ((.inr p.1 : Key), V.int p.2)
  | _, [], .nil => rfl
  | _, p :: ps, .cons h r => by
    cases h
    rw [rep_line r]; rfl
def ordD : D → Option D
  | .dic kds => (linePs kds).bind fun ps => if ps.length < 64 ∧ (ps.map (·.2)).Nodup then some (.lst (((sortP (ps.map fun p => (p.2, p.1))).map (·.2)).map .str)) else none
  | _ => none
def ordF (i : Nat) : Sm := fun ρ => (peek ρ (.sl i)).bind fun d => (ordD d).map fun r => (.nw (.ow r), ρ)
section
variable {X : Cx} {i k : Nat} {x y : Str} {sp xp p1 p2 p3 lpos kpos pos : Pos} {params : Arguments} {scope : Scope} {c : Addr}
theorem se_ord (hc : X.calm = true) (hr : Room k X.A) (hg : Gl X "sorted") (hm : X.mg "sorted" = none) (hv : bootBuiltins "sorted" = some (.builtin "sorted"))
    (hN : X.N[i]? = some x) (hx0 : X.env.scope.names.lookup x = some .cell) (TB : LamX.TabB X.base X.mg (He.cT X.K lamD).1 (He.cT X.K lamD).2) (hcode : X.env.code = .ref (He.cT X.K lamD).1) (hq : X.env.qual ++ ("<lambda>" : Str) = lamQ)
    (hdef : defaultsOf params X.env = ([], [])) (hfree : ∀ z ∈ scope.names, z.2 = .free → z.1 = x)
    (hk : scope.kind = .function) (hco : scope.isCoroutine = false) (hgen : scope.isGenerator = false) (hcell : ∀ z ∈ scope.names, z.2 ≠ .cell) (hy : scope.names.lookup y = some .local) (hx : scope.names.lookup x = some .free)
    (hbind : ∀ (q : Str) (cl : List (Str × Addr)) (pm cv ctv v : Value), bindArgs (PySem.W.kla_fn "<lambda>" q params (.Subscript (.Name x p1) (.Name y p2) p3) scope cl pm cv ctv) ⟨[v], []⟩ = pure [(y, v)])
    (hxd : (x == ("__debug__" : Str)) = false) (hyd : (y == ("__debug__" : Str)) = false) (hxc : (x == ("__classdict__" : Str)) = false) :
    PE X (.Call (.Name "sorted" sp) [.Name x xp] [⟨some "key", .Lambda params (.Subscript (.Name x p1) (.Name y p2) p3) scope lpos, kpos⟩] pos) (tE X.K (ordF i)) := by
  refine ⟨fun pins s σ H Q I h => ?_⟩
  obtain ⟨Z, ρ, fp, r, ρ', g, e, kt⟩ := h
  obtain ⟨d, e1, e⟩ := Option.bind_eq_some_iff.mp (show (peek ρ (.sl i)).bind (fun d => (ordD d).map fun r => (R.nw (.ow r), ρ)) = some (r, ρ') from e)
  obtain ⟨r', e2, e⟩ := Option.map_eq_some_iff.mp e
  cases e
  obtain ⟨t, ht, htd⟩ := Option.bind_eq_some_iff.mp (show (ρ.getD i none).bind T.dat = some d from e1)
  obtain ⟨v, hv1, _⟩ := g.at ht
  have hsl : σ[i]? = some (some v) := getD_get hv1
  have hd := peek_ok (r := .sl i) (v := v) (l := []) g ⟨hv1, rfl⟩ e1
  cases d with
  | dic kds =>
    obtain ⟨ps, e3, e4⟩ := Option.bind_eq_some_iff.mp (show (linePs kds).bind (fun ps => if ps.length < 64 ∧ (ps.map (·.2)).Nodup then some (D.lst (((sortP (ps.map fun p => (p.2, p.1))).map (·.2)).map .str)) else none) = some r' from e2)
    by_cases cnd : ps.length < 64 ∧ (ps.map (·.2)).Nodup
    · rw [if_pos cnd] at e4
      cases e4
      obtain ⟨a, kvs, rfl, h1, h2⟩ := hd
      rw [linePs_eq e3] at h2
      rw [rep_line h2] at h1
      have vis : Vis X.env.scope x := .inr (.inl hx0)
      obtain ⟨cA, hcA⟩ := I.ok.has x (.inl hx0)
      have hPA := pa_cons (pe_var (X := X) (pos := xp) hN vis hxd hxc) (pa_nil (X := X))
      refine wpAny_Call_Name_kw (ld_blt I hg hm hv ?_)
      refine PyProof.Rows.callWith_kw ?_
      refine thn (hPA.run pos pins s σ H (fun xs H1 => xs = [.ref a] ∧ H1 = H) I ⟨.ref a, hsl, rfl, rfl⟩) fun us s1 ⟨xs, H1, I1, r1, q1, q2⟩ => ?_
      subst q1 q2
      obtain rfl := Vals.ref1 r1
      have tzs := g.tz.ts
      rw [← hq] at tzs
      show wpAny _ _ (evalAll ((do let v ← eval (.Lambda params (.Subscript (.Name x p1) (.Name y p2) p3) scope lpos) X.env; standAt pos; pure v) :: [])) _ _ s1
      refine wpAny_evalAll_cons (wpAny_bind (lam_made I1 TB hcode tzs hdef (fun z hz e => ⟨cA, by rw [hfree z hz e]; exact hcA⟩) fun f c' pm ctv H2 s2 I2 mk T2 hf hco' => ?_))
      refine wpAny_bind (wpAny_standAt (wpAny_pure (wpAny_evalAll_nil ?_)))
      show wpAny _ _ (call (.builtin "sorted") [.ref a] [(Str.ofString "key", .ref f)]) _ _ _
      rw [hq] at mk T2 hf hco'
      have eN := made_keep mk
      have tb := made_tb mk T2
      have sb2 : Sub Z H2 := fun b u hb => by
        rcases g.sub b u hb with q | ⟨⟨o, q⟩, m⟩
        · exact .inl (eN b u q fun ps z => g.tz.no b ps (by rw [hb, z]))
        · exact .inr ⟨⟨o, eN b _ q fun ps z => by cases z⟩, m⟩
      have g2 := g.mono (Same.refl _) sb2 tb g.tz.no (fun q u hq e => eN q u e (by
        obtain ⟨⟨o, e2, m⟩, _⟩ := g.there hq
        rw [e] at e2; cases e2
        exact m.tbl)) (fun q hq => (g.there hq).2)
      have P2 : Post Z H1 (E fp) Z H2 (E fp) := ⟨Same.refl _, fun p o e _ t => eN p o e t, fun p q => .inl q, fun p o q => .inl q, fun a C dx fv e => ⟨fv, eN _ _ e (fun ps z => by cases z), fun f v h => h⟩, tb⟩
      have hd2 : Rd H2 a (.dK (ps.map fun p => ((.inr p.1 : Key), V.int p.2))) := by
        rcases h1 with e | ⟨o, e⟩
        · exact .inl (eN _ _ e fun ps z => by cases z)
        · exact .inr ⟨o, eN _ _ e fun ps z => by cases z⟩
      obtain ⟨m, hn, hl⟩ := I2.loc
      obtain ⟨u, ru, lk⟩ := hl i x (.ref a) hN hsl vis
      obtain rfl : u = Value.ref a := ru
      rcases lk with ⟨z, _⟩ | ⟨_, c2, e5, hcell2⟩
      · have z' : X.env.scope.names.lookup x = some .local := z
        rw [hx0] at z'; cases z'
      · have hcl : (cloFrom X.env.cells scope.names []).lookup x = some c2 := by
          obtain ⟨c3, e6⟩ := mem_lookup (cloFrom_has (cells := X.env.cells) (acc := []) (PySem.mem_of_lookup hx))
          rcases cloFrom_mem (PySem.mem_of_lookup e6) with z | ⟨_, z⟩
          · cases z
          · rw [e6, z, e5]; rfl
        exact Ord.sorted_lam (k := k) I2 hc hr hd2 cnd.1 cnd.2 hf hco' hk hco hgen hcell hy hx hbind hcl hcell2 (fun p hp => kt_out kt g2 P2 (fun p q => q) (.new (o := .lst _) (d := .lst _) hp ⟨_, upd_same, strs_rep _⟩)) hxd hyd hxc
    · rw [if_neg cnd] at e4; cases e4
  | _ => cases e2
end
end FL

set_option Elab.async false
set_option maxRecDepth 100000
set_option maxHeartbeats 2000000
namespace FL
open PySem PySem.Spec L2
/-- g_mk for the def with the lambda: its code object is told -/
theorem g_mkL {P : Program} {w : World} {K : PySem.W.Frag} {mg : Str → Option Value} {base : Heap} {x qual : Str} {params : Arguments} {body : List Stmt} {scope : Scope} {dvs : List V} {kws : List (Str × V)} {fd : FuncData} {N ps : List Str} {k n m : Nat} {kp : Nat → Bool} {Fb : Ss}
    (hn : ps.length = n) (hm : N.length = m) (F : FunD K x qual params body scope dvs kws (He.fAd K lamD) fd) (S : FnScope N ps scope)
    (hb : ∀ (cdv : Value), cdv = .ref (He.cT K lamD).1 → ∀ (B : Around) (below : List Env) (s : Shared) (J : Hp), Room k (B.deeper (PyProof.Rows.envOfC qual scope s.heap.objs.size (He.fAd K lamD) cdv)) → B.guards = some [] → PSs (cxOf CX0 P w K mg base N qual scope (He.fAd K lamD) cdv B below s J E0).nox body (tS K kp Fb)) :
    FnG P w K mg base (k + 1) (He.fAd K lamD) fd ps (spOf K (defF n m kp Fb)) := by
  subst hn hm
  obtain ⟨oc, od, dV, kV, doc, pm, an, cdv, ct, osl, rfl, lk, hcd, _, _⟩ := F.ex
  obtain ⟨c, ec⟩ := He.codeIn_ref hcd
  have eq : cdv = .ref (He.cT K lamD).1 := by
    show cdv = .ref (He.codeOf K lamD)
    rw [He.codeOf_eq (p := lamD) lk ec, ec]
  have hle : ps.length ≤ N.length := by have := congrArg List.length S.pre; rw [List.length_take] at this; omega
  refine g_of lk hcd S (fun zs J G h => ?_) fun B below s J zs G hr hg h => ⟨_, PSs.nox (hb cdv eq B below s J hr hg), def_go hle h⟩
  obtain ⟨Z, ts, l, r, ts', sb, _, ow, e, _⟩ := h
  rw [ow.length]
  have e0 : (if ts.length = ps.length then (Fb (startE N.length ts)).bind fun p => match p.1 with
    | .nx => some (R.fz .non, outs kp p.2 0 ps.length)
    | .rt r => (giv p.2 r).map fun q => (toR q.1, outs kp q.2 0 ps.length)
    | _ => none
    else none) = some (r, ts') := e
  by_cases hts : ts.length = ps.length
  · exact hts
  · rw [if_neg hts] at e0; cases e0
end FL

set_option Elab.async false
set_option maxRecDepth 100000
set_option maxHeartbeats 2000000
namespace FL
open PySem PySem.Spec L2

/-! ### min(d.values()), max(d.values()) -/
theorem argBest_lt (val : Nat → Int) : ∀ k, argBest (fun i j => decide (val i < val j)) k ≤ k ∧ ∀ j, j ≤ k → val (argBest (fun i j => decide (val i < val j)) k) ≤ val j
  | 0 => ⟨Nat.le_refl _, fun j h => by rw [Nat.le_zero.mp h]; exact Int.le_refl _⟩
  | k + 1 => by
    obtain ⟨h1, h2⟩ := argBest_lt val k
    rw [argBest]
    by_cases hb : val (k + 1) < val (argBest (fun i j => decide (val i < val j)) k)
    · rw [if_pos (by simpa using hb)]
      refine ⟨Nat.le_refl _, fun j h => ?_⟩
      rcases Nat.lt_or_eq_of_le h with h | rfl
      · exact Int.le_trans (Int.le_of_lt hb) (h2 j (Nat.le_of_lt_succ h))
      · exact Int.le_refl _
    · rw [if_neg (by simpa using hb)]
      refine ⟨Nat.le_succ_of_le h1, fun j h => ?_⟩
      rcases Nat.lt_or_eq_of_le h with h | rfl
      · exact h2 j (Nat.le_of_lt_succ h)
      · exact Int.not_lt.mp hb
theorem argBest_gt (val : Nat → Int) : ∀ k, argBest (fun i j => decide (val i > val j)) k ≤ k ∧ ∀ j, j ≤ k → val j ≤ val (argBest (fun i j => decide (val i > val j)) k)
  | 0 => ⟨Nat.le_refl _, fun j h => by rw [Nat.le_zero.mp h]; exact Int.le_refl _⟩
  | k + 1 => by
    obtain ⟨h1, h2⟩ := argBest_gt val k
    rw [argBest]
    by_cases hb : val (k + 1) > val (argBest (fun i j => decide (val i > val j)) k)
    · rw [if_pos (by simpa using hb)]
      refine ⟨Nat.le_refl _, fun j h => ?_⟩
      rcases Nat.lt_or_eq_of_le h with h | rfl
      · exact Int.le_trans (h2 j (Nat.le_of_lt_succ h)) (Int.le_of_lt hb)
      · exact Int.le_refl _
    · rw [if_neg (by simpa using hb)]
      refine ⟨Nat.le_succ_of_le h1, fun j h => ?_⟩
      rcases Nat.lt_or_eq_of_le h with h | rfl
      · exact h2 j (Nat.le_of_lt_succ h)
      · exact Int.not_lt.mp hb
def nthI (ks : List Int) (i : Nat) : Int := (ks[i]?).getD 0
theorem nthI_lt {ks : List Int} {i : Nat} (h : i < ks.length) : ks[i]? = some (nthI ks i) := by simp [nthI, h]
theorem nthI_mem {ks : List Int} {i : Nat} (h : i < ks.length) : nthI ks i ∈ ks := List.mem_of_getElem? (nthI_lt h)
theorem nthI_all {ks : List Int} {k : Int} (h : k ∈ ks) : ∃ i, i < ks.length ∧ nthI ks i = k := by
  obtain ⟨i, hi, e⟩ := List.mem_iff_getElem.mp h
  exact ⟨i, hi, by simp [nthI, hi, e]⟩
section
variable {X : Cx} {e : Expr} {te : TE} {p apos cpos pos : Pos} {F : Sm}
def tEndVals (le : Int → Int → Prop) (te : TE) : TE := fun σ H Q => te σ H fun x H1 => ∃ d kvs, x = .ref d ∧ Rd H1 d (.dK kvs) ∧ ∃ ks : List Int, kvs.map (·.2) = ks.map V.int ∧ ks ≠ [] ∧ ∀ m, m ∈ ks → (∀ k ∈ ks, le m k) → Q (.int m) H1
theorem iter_vals {pins : List (Addr × Obj)} {s : Shared} {σ : L2.St} {H : Hp} {d r : Addr} {es : Array DictEntry} {ep : Nat} {A : Around} {Q : Value → Shared → Prop} {E : Value → Shared → Prop} (hh : A.handled = none) (I : Inv X pins σ H s) (hv : s.heap.IsValuesView r d) (hm : s.heap.DictRaw d es ep)
    (h : ∀ s₂ : Shared, (∃ h', s₂ = { s with heap := h' }) → (∀ b o, s.heap.get? b = some o → s₂.heap.get? b = some o) → (∀ b ∈ [s.heap.objs.size, d], b < s₂.heap.objs.size) → d ≠ s.heap.objs.size →
      (s₂.heap.IsValIter s.heap.objs.size d 0 es.size ep ∧ s₂.heap.DictRaw d es ep) → Q (.ref s.heap.objs.size) s₂) :
    wpAny (model X.prog X.w) A (pyIter (.ref r)) Q E s := by
  refine wpAny_pyIter_values_raw hv hm (h _ ⟨_, rfl⟩ (fun b o q => Heap.get?_push_of_some _ q) (fun b hb => ?_) (fun z => ?_) ⟨⟨_, Heap.get?_push_size _ rfl, rfl, rfl⟩, hm.at fun o e => Heap.get?_push_of_some _ e⟩)
  · obtain ⟨o, ho, _⟩ := hm
    show b < (s.heap.push _).objs.size
    rw [Heap.size_push]
    rcases List.mem_cons.mp hb with rfl | hb
    · exact Nat.lt_succ_self _
    · rw [List.mem_singleton.mp hb]; exact Nat.lt_succ_of_lt (Heap.lt_size ho)
  · obtain ⟨o, ho, _⟩ := hm
    exact absurd (z ▸ Heap.lt_size ho) (Nat.lt_irrefl _)
theorem pe_minVals (hc : X.calm = true) (he : PE X e te) (hg : Gl X "min") (hm : X.mg "min" = none) (hbase : attributeBase e "values" X.env (eval e X.env) = eval e X.env) (hline : (apos.endLine == cpos.line) = true) :
    PE X (.Call (.Name "min" p) [.Call (.Attribute e "values" apos) [] [] cpos] [] pos) (tEndVals (· ≤ ·) te) := by
  constructor
  intro pins s σ H Q I hq
  refine wpAny_Call_Name_kw (ld_blt I hg hm PyProof.Rows.boot_min ?_)
  refine PyProof.Rows.callWith_builtin1 ?_ (star_ok rfl) rfl
  rw [star_ok rfl]
  show wpAny _ _ (spliced ((false, eval (.Call (.Attribute e "values" apos) [] [] cpos) X.env) :: backTo pos (starEach [] X.env))) _ _ s
  refine Calls.spliced_cons (thn (vals_view he hbase hline I hq) ?_)
  rintro u s1 ⟨d, kvs, H1, r, rfl, z, ⟨I1, es, ep, hv, hsz, hat⟩, ks, hks, hne, q⟩
  refine Calls.spliced_nil ?_
  have hl : kvs.length = ks.length := by
    have := congrArg List.length hks
    rwa [List.length_map, List.length_map] at this
  have hpos : 0 < es.size := by rw [hsz, hl]; exact List.length_pos_iff.mpr hne
  have hval : ∀ i v, (∃ hi : i < es.size, v = es[i].val) → ∃ t, v = .int (nthI ks i) t := by
    rintro i v ⟨hi, rfl⟩
    have hi2 : i < ks.length := by rw [← hl, ← hsz]; exact hi
    have hk2 : kvs[i]? = some kvs[i] := List.getElem?_eq_getElem (by rw [hl]; exact hi2)
    have h1 := hat i hi _ hk2
    have h3 : (kvs.map (·.2))[i]? = (ks.map V.int)[i]? := by rw [hks]
    rw [List.getElem?_map, List.getElem?_map, hk2, nthI_lt hi2] at h3
    have h4 : kvs[i].2 = V.int (nthI ks i) := by simpa using h3
    rw [h4] at h1
    exact h1
  refine call_min_walk (iter_vals (A := X.A.in1) (I1.ok.hd hc) I1 hv.1 hv.2 fun s₂ e hk0 hfp hlI st => ?_)
  refine ⟨_, _, _, _, _, _, _, rfl, Walks.rawValues (A := X.A.in1) (I1.ok.hd hc) _ d hlI es ep, st, hfp, hpos, CmpOf.ints_lt (nthI ks) hval, fun v h' tk hP hk => ?_⟩
  obtain ⟨hb1, hb2⟩ := argBest_lt (nthI ks) (es.size - 1)
  obtain ⟨t, rfl⟩ := hval _ _ hP
  obtain ⟨hx, e⟩ := e
  refine ⟨.int (nthI ks _), H1, ?_, ⟨t, rfl⟩, q _ (nthI_mem ?_) ?_⟩
  · rw [e]
    refine I1.kept (t' := tk) fun b o e1 => hk b o (fun hm => ?_) (hk0 b o e1)
    exact absurd (List.mem_singleton.mp hm ▸ Heap.lt_size e1) (Nat.lt_irrefl _)
  · rw [← hl, ← hsz]; omega
  · intro k hk
    obtain ⟨j, hj, rfl⟩ := nthI_all hk
    exact hb2 j (by rw [hsz, hl]; omega)
theorem pe_maxVals (hc : X.calm = true) (he : PE X e te) (hg : Gl X "max") (hm : X.mg "max" = none) (hbase : attributeBase e "values" X.env (eval e X.env) = eval e X.env) (hline : (apos.endLine == cpos.line) = true) :
    PE X (.Call (.Name "max" p) [.Call (.Attribute e "values" apos) [] [] cpos] [] pos) (tEndVals (fun m k => k ≤ m) te) := by
  constructor
  intro pins s σ H Q I hq
  refine wpAny_Call_Name_kw (ld_blt I hg hm PyProof.Rows.boot_max ?_)
  refine PyProof.Rows.callWith_builtin1 ?_ (star_ok rfl) rfl
  rw [star_ok rfl]
  show wpAny _ _ (spliced ((false, eval (.Call (.Attribute e "values" apos) [] [] cpos) X.env) :: backTo pos (starEach [] X.env))) _ _ s
  refine Calls.spliced_cons (thn (vals_view he hbase hline I hq) ?_)
  rintro u s1 ⟨d, kvs, H1, r, rfl, z, ⟨I1, es, ep, hv, hsz, hat⟩, ks, hks, hne, q⟩
  refine Calls.spliced_nil ?_
  have hl : kvs.length = ks.length := by
    have := congrArg List.length hks
    rwa [List.length_map, List.length_map] at this
  have hpos : 0 < es.size := by rw [hsz, hl]; exact List.length_pos_iff.mpr hne
  have hval : ∀ i v, (∃ hi : i < es.size, v = es[i].val) → ∃ t, v = .int (nthI ks i) t := by
    rintro i v ⟨hi, rfl⟩
    have hi2 : i < ks.length := by rw [← hl, ← hsz]; exact hi
    have hk2 : kvs[i]? = some kvs[i] := List.getElem?_eq_getElem (by rw [hl]; exact hi2)
    have h1 := hat i hi _ hk2
    have h3 : (kvs.map (·.2))[i]? = (ks.map V.int)[i]? := by rw [hks]
    rw [List.getElem?_map, List.getElem?_map, hk2, nthI_lt hi2] at h3
    have h4 : kvs[i].2 = V.int (nthI ks i) := by simpa using h3
    rw [h4] at h1
    exact h1
  refine call_max_walk (iter_vals (A := X.A.in1) (I1.ok.hd hc) I1 hv.1 hv.2 fun s₂ e hk0 hfp hlI st => ?_)
  refine ⟨_, _, _, _, _, _, _, rfl, Walks.rawValues (A := X.A.in1) (I1.ok.hd hc) _ d hlI es ep, st, hfp, hpos, CmpOf.ints_gt (nthI ks) hval, fun v h' tk hP hk => ?_⟩
  obtain ⟨hb1, hb2⟩ := argBest_gt (nthI ks) (es.size - 1)
  obtain ⟨t, rfl⟩ := hval _ _ hP
  obtain ⟨hx, e⟩ := e
  refine ⟨.int (nthI ks _), H1, ?_, ⟨t, rfl⟩, q _ (nthI_mem ?_) ?_⟩
  · rw [e]
    refine I1.kept (t' := tk) fun b o e1 => hk b o (fun hm => ?_) (hk0 b o e1)
    exact absurd (List.mem_singleton.mp hm ▸ Heap.lt_size e1) (Nat.lt_irrefl _)
  · rw [← hl, ← hsz]; omega
  · intro k hk
    obtain ⟨j, hj, rfl⟩ := nthI_all hk
    exact hb2 j (by rw [hsz, hl]; omega)
def mnI (ns : List Int) : Int := (sortI ns).headD 0
def mxI (ns : List Int) : Int := (sortI ns).getLastD 0
theorem mnI_ok {ns : List Int} (h : ns ≠ []) : mnI ns ∈ ns ∧ ∀ k ∈ ns, mnI ns ≤ k := by
  have hp := sortI_perm ns
  have hs := sortI_pw ns
  unfold mnI
  cases e : sortI ns with
  | nil => rw [e] at hp; exact absurd hp.symm.eq_nil h
  | cons a l =>
    rw [e] at hp hs
    refine ⟨hp.mem_iff.mp (List.mem_cons_self ..), fun k hk => ?_⟩
    rcases List.mem_cons.mp (hp.mem_iff.mpr hk) with rfl | hk
    · exact Int.le_refl _
    · exact (List.pairwise_cons.mp hs).1 k hk
theorem mxI_ok {ns : List Int} (h : ns ≠ []) : mxI ns ∈ ns ∧ ∀ k ∈ ns, k ≤ mxI ns := by
  have hp := sortI_perm ns
  have hs := sortI_pw ns
  have hne : sortI ns ≠ [] := fun e => by rw [e] at hp; exact absurd hp.symm.eq_nil h
  have e : mxI ns = (sortI ns).getLast hne := by unfold mxI; rw [List.getLastD_eq_getLast?, List.getLast?_eq_some_getLast hne]; rfl
  rw [e]
  refine ⟨hp.mem_iff.mp (List.getLast_mem hne), fun k hk => ?_⟩
  have hk2 := hp.mem_iff.mpr hk
  obtain ⟨i, hi, rfl⟩ := List.mem_iff_getElem.mp hk2
  rw [List.getLast_eq_getElem]
  rcases Nat.lt_or_ge i ((sortI ns).length - 1) with h1 | h1
  · exact List.pairwise_iff_getElem.mp hs i _ hi (by omega) h1
  · have : i = (sortI ns).length - 1 := by omega
    simp [this]
theorem mnI_eq {ns : List Int} {m : Int} (h1 : m ∈ ns) (h2 : ∀ k ∈ ns, m ≤ k) : mnI ns = m := by
  obtain ⟨a, b⟩ := mnI_ok (List.ne_nil_of_mem h1)
  exact Int.le_antisymm (b m h1) (h2 _ a)
theorem mxI_eq {ns : List Int} {m : Int} (h1 : m ∈ ns) (h2 : ∀ k ∈ ns, k ≤ m) : mxI ns = m := by
  obtain ⟨a, b⟩ := mxI_ok (List.ne_nil_of_mem h1)
  exact Int.le_antisymm (h2 _ a) (b m h1)
def mnD : D → Option R
  | .dic kvs => (intsOf (kvs.map fun p => p.2)).bind fun ns => if ns = [] then none else some (.fz (.int (mnI ns)))
  | _ => none
def mxD : D → Option R
  | .dic kvs => (intsOf (kvs.map fun p => p.2)).bind fun ns => if ns = [] then none else some (.fz (.int (mxI ns)))
  | _ => none
theorem se_minVals (hc : X.calm = true) (hg : Gl X "min") (hm : X.mg "min" = none) (he : PE X e (tE X.K F)) (hbase : attributeBase e "values" X.env (eval e X.env) = eval e X.env) (hline : (apos.endLine == cpos.line) = true) :
    PE X (.Call (.Name "min" p) [.Call (.Attribute e "values" apos) [] [] cpos] [] pos) (tE X.K (uno mnD F)) := pe_weak (pe_minVals hc he hg hm hbase hline) fun σ H Q h => uno_go h fun Z H' v d r sb hd er k => by
  cases d with
  | dic kvs =>
    obtain ⟨ns, e1, e2⟩ := Option.bind_eq_some_iff.mp (show (intsOf (kvs.map fun p => p.2)).bind (fun ns => if ns = [] then none else some (R.fz (.int (mnI ns)))) = some r from er)
    by_cases hz : ns = []
    · rw [if_pos hz] at e2; cases e2
    · rw [if_neg hz] at e2
      cases e2
      obtain ⟨a, vs, rfl, h1, h2⟩ := hd
      have h3 := repK_vals h2
      rw [intsOf_eq e1] at h3
      refine ⟨a, vs, rfl, h1, ns, ints_of_rep h3, hz, fun m p1 p2 => ?_⟩
      rw [← mnI_eq p1 p2]
      exact k _ _ (.same (.int _))
  | _ => cases er
theorem se_maxVals (hc : X.calm = true) (hg : Gl X "max") (hm : X.mg "max" = none) (he : PE X e (tE X.K F)) (hbase : attributeBase e "values" X.env (eval e X.env) = eval e X.env) (hline : (apos.endLine == cpos.line) = true) :
    PE X (.Call (.Name "max" p) [.Call (.Attribute e "values" apos) [] [] cpos] [] pos) (tE X.K (uno mxD F)) := pe_weak (pe_maxVals hc he hg hm hbase hline) fun σ H Q h => uno_go h fun Z H' v d r sb hd er k => by
  cases d with
  | dic kvs =>
    obtain ⟨ns, e1, e2⟩ := Option.bind_eq_some_iff.mp (show (intsOf (kvs.map fun p => p.2)).bind (fun ns => if ns = [] then none else some (R.fz (.int (mxI ns)))) = some r from er)
    by_cases hz : ns = []
    · rw [if_pos hz] at e2; cases e2
    · rw [if_neg hz] at e2
      cases e2
      obtain ⟨a, vs, rfl, h1, h2⟩ := hd
      have h3 := repK_vals h2
      rw [intsOf_eq e1] at h3
      refine ⟨a, vs, rfl, h1, ns, ints_of_rep h3, hz, fun m p1 p2 => ?_⟩
      rw [← mxI_eq p1 p2]
      exact k _ _ (.same (.int _))
  | _ => cases er
end
end FL

set_option Elab.async false
set_option maxRecDepth 100000
set_option maxHeartbeats 2000000
namespace FL
open PySem PySem.Spec L2

/-! ### a tuple whose last item is owned -/
def tlR : List R → En → Option (List D × D × En)
  | [], _ => none
  | [r], ρ => (giv ρ r).bind fun p => match p.1 with
    | .ow d => some ([], d, p.2)
    | _ => none
  | r :: s :: rs, ρ => (frz ρ r).bind fun p => (tlR (s :: rs) p.2).map fun q => (p.1 :: q.1, q.2)
section
variable {K : PySem.W.Frag} {Z Z' H H' : Hp} {σ : St} {ρ ρ' : En} {fp fp' : Nat → List Addr}
theorem tlR_ok : ∀ {rs : List R} {vs : List V} {l : List Addr} {ds : List D} {d : D} {Z : Hp} {ρ ρ' : En} {fp : Nat → List Addr}, Good K Z H σ ρ fp → RRs K Z H σ vs rs l → (∀ p ∈ l, ¬ E fp p) → tlR rs ρ = some (ds, d, ρ') →
    ∃ Z' fp' ws q, vs = ws ++ [V.ref q] ∧ Good K Z' H σ ρ' fp' ∧ RepL K Z' ws ds ∧ Z' q = none ∧ OwTop K Z' H q d ∧ ¬ E fp' q ∧ Post Z H (fun p => E fp p ∨ p ∈ l) Z' H (fun p => E fp' p ∨ p ∈ [q])
  | [], _, _, ds, d, Z, ρ, ρ', fp, g, .nil, n, e => by cases e
  | [r], _, _, ds, d, Z, ρ, ρ', fp, g, .cons (l := l1) (ls := ls) h hnil nd, n, e => by
    cases hnil
    obtain ⟨⟨t, ρ1⟩, h1, e⟩ := Option.bind_eq_some_iff.mp (show (giv ρ r).bind (fun p => match p.1 with
      | .ow d => some (([] : List D), d, p.2)
      | _ => none) = some (ds, d, ρ') from e)
    cases t with
    | ow d' =>
      cases e
      obtain ⟨fp', m, g', o, a1, b1, c1⟩ := giv_ok g h (fun p hp => n p (List.mem_append_left _ hp)) h1
      obtain ⟨q, rfl, rfl, zq, ow⟩ := (show ∃ a, _ = V.ref a ∧ m = [a] ∧ Z a = none ∧ OwTop K Z H a d from o)
      refine ⟨Z, fp', [], q, rfl, g', .nil, zq, ow, a1 q (by simp), Post.refl.weak fun p hp => ?_⟩
      rcases hp with hp | hp
      · exact .inl (b1 p hp)
      · exact (c1 p hp).imp_right (List.mem_append_left _)
    | _ => cases e
  | r :: s :: rs, _, _, ds, d, Z, ρ, ρ', fp, g, .cons (l := l1) (ls := ls) h hr nd, n, e => by
    obtain ⟨⟨d1, ρ1⟩, h1, e⟩ := Option.bind_eq_some_iff.mp (show (frz ρ r).bind (fun p => (tlR (s :: rs) p.2).map fun q => (p.1 :: q.1, q.2)) = some (ds, d, ρ') from e)
    obtain ⟨⟨ds', d', ρ2⟩, h2, e⟩ := Option.map_eq_some_iff.mp e
    cases e
    obtain ⟨Z1, fp1, g1, R1, P1⟩ := frz_ok g h (fun p hp => n p (List.mem_append_left _ hp)) h1
    obtain ⟨hr1, n1⟩ := RRs.stay hr (fun p hp z => z.elim (n p (List.mem_append_right _ hp)) fun w => nd p w hp) P1
    obtain ⟨Z2, fp2, ws, q, rfl, g2, R2, zq, ow, nq, P2⟩ := tlR_ok g1 hr1 n1 h2
    refine ⟨Z2, fp2, _ :: ws, q, rfl, g2, .cons (R1.mono P2.zz) R2, zq, ow, nq, ?_⟩
    have P1' : Post Z H (fun p => E fp p ∨ p ∈ l1 ++ ls) Z1 H (fun p => E fp1 p ∨ p ∈ ls) := P1.wide (fun p q => q.imp_right (List.mem_append_left _)) fun p q => q.elim .inl fun z => .inr (.inr (List.mem_append_right _ z))
    exact P1'.trans P2
end
def tlF (Fs : List Sm) : Sm := fun ρ => (seqs Fs ρ).bind fun p => (tlR p.1 p.2).bind fun q => if q.1.length < 100 then some (.nw (.tl q.1 q.2.1), q.2.2) else none
def tlX (i : Int) (Fa : Sm) : Sm := fun ρ => (Fa ρ).bind fun p => match p.1 with
  | .nw (.tl ds d) => if i = ds.length then some (.nw (.ow d), p.2) else none
  | _ => none
section
variable {X : Cx} {es : List Expr} {Fs : List Sm} {Fa : Sm} {a b : Expr} {pos : Pos}
theorem se_tl {k : Nat} (h : PA X es (tA X.K Fs)) : PE X (.Tuple es k pos) (tE X.K (tlF Fs)) := pe_weak (pe_tup h) fun σ H Q q => by
  obtain ⟨Z, ρ, fp, r, ρ3, g, e, k⟩ := q
  obtain ⟨⟨rs, ρ1⟩, h1, e⟩ := Option.bind_eq_some_iff.mp e
  obtain ⟨⟨ds, d, ρ2⟩, h2, e⟩ := Option.bind_eq_some_iff.mp e
  have e' : (if ds.length < 100 then some (R.nw (.tl ds d), ρ2) else none) = some (r, ρ3) := e
  by_cases hl : ds.length < 100
  · rw [if_pos hl] at e'
    cases e'
    refine ⟨Z, ρ, fp, rs, ρ1, g, h1, fun Z1 H1 vs fp1 l g1 R1 n1 P1 => ?_⟩
    obtain ⟨Z2, fp2, ws, q, rfl, g2, R2, zq, ow, nq, P2⟩ := tlR_ok g1 R1 n1 h2
    refine ⟨by rw [List.length_append, R2.length]; exact Nat.le_trans (Nat.succ_le_of_lt hl) (by decide), fun p hp => ?_⟩
    have hz := g2.sub.none hp
    have hqp : q ≠ p := fun z => by
      obtain ⟨o, ho, _⟩ := ow.there
      rw [z, hp] at ho; cases ho
    have kz : Same Z2 (upd Z2 p (.tup (ws ++ [V.ref q]))) := upd_keep hz
    refine k (upd Z2 p (.tup (ws ++ [V.ref q]))) (upd H1 p (.tup (ws ++ [V.ref q]))) (.ref p) fp2 [q] (g2.newZ hp fun ps z => by cases z) ?_ (fun y hy => by rw [List.mem_singleton.mp hy]; exact nq) ((P1.trans P2).trans (Post.newZ hz hp))
    exact ⟨p, ws, q, rfl, rfl, upd_same, R2.mono kz, by rw [upd_ne hqp]; exact zq, ow.mono kz fun o ho => by rw [upd_ne hqp]; exact ho⟩
  · rw [if_neg hl] at e'; cases e'
theorem atI_last {α : Type} (xs : List α) (x : α) {i : Int} (h : i = xs.length) : atI (xs ++ [x]) i = some x := by
  subst h
  unfold atI ixN
  simp
  rw [if_pos (by omega)]
  simp
theorem se_tlX {i : Int} (ha : PE X a (tE X.K Fa)) (hb : PE X b (tE X.K (cst (.int i)))) (hs : notSlice b = true) : PE X (.Subscript a b pos) (tE X.K (tlX i Fa)) := by
  refine pe_weak (pe_ix ix_tup ha hb (plainIx hs)) ?_
  rintro σ H Q ⟨Z, ρ, fp, r, ρ2, g, e, k⟩
  obtain ⟨⟨r1, ρ1⟩, e1, e⟩ := Option.bind_eq_some_iff.mp e
  cases r1 with
  | nw t =>
    cases t with
    | tl ds d =>
      have e' : (if i = ds.length then some (R.nw (.ow d), ρ1) else none) = some (r, ρ2) := e
      by_cases hi : i = ds.length
      · rw [if_pos hi] at e'
        cases e'
        refine ⟨Z, ρ, fp, .nw (.tl ds d), _, g, e1, fun Z1 H1 v fp1 l g1 R1 n1 P1 => ?_⟩
        refine ⟨Z1, _, fp1, .fz (.int i), _, g1, rfl, fun Z2 H2 y fp2 l2 g2 R2 n2 P2 => ?_⟩
        obtain ⟨R1', n1'⟩ := R1.stay n1 P2
        obtain ⟨a', vs, q, rfl, rfl, hz, rl, zq, ow⟩ := (show ∃ a vs q, v = V.ref a ∧ l = [q] ∧ Z2 a = some (.tup (vs ++ [V.ref q])) ∧ RepL X.K Z2 vs ds ∧ Z2 q = none ∧ OwTop X.K Z2 H2 q d from R1')
        have R2' : Rep X.K Z2 y (.int i) ∧ l2 = [] := R2
        obtain ⟨R3, rfl⟩ := R2'
        have hy : y = V.int i := by cases R3; rfl
        have ht : H2 a' = some (.tup (vs ++ [V.ref q])) := (g2.sub _ _ hz).elim id fun z => z.2.elim
        refine ⟨a', vs ++ [V.ref q], i, V.ref q, rfl, hy, SqT.of ht, atI_last vs _ (by rw [rl.length]; exact hi), ?_⟩
        refine k Z2 H2 (V.ref q) fp2 [q] g2 ⟨q, rfl, rfl, zq, ow⟩ (fun p hp z => n1' p hp (.inl z)) (P1.trans (P2.wide (fun p q => .inl q) fun p q => ?_))
        rcases q with q | q
        · exact .inl (.inl q)
        · exact .inr (.inr q)
      · rw [if_neg hi] at e'; cases e'
    | _ => cases e
  | _ => cases e
end
@[simp] theorem tlR_one {r : R} {ρ : En} : tlR [r] ρ = (giv ρ r).bind fun p => match p.1 with
    | .ow d => some ([], d, p.2)
    | _ => none := rfl
@[simp] theorem tlR_two {r s : R} {rs : List R} {ρ : En} : tlR (r :: s :: rs) ρ = (frz ρ r).bind fun p => (tlR (s :: rs) p.2).map fun q => (p.1 :: q.1, q.2) := rfl
@[simp] theorem tlF_ev {Fs : List Sm} {ρ : En} : tlF Fs ρ = (seqs Fs ρ).bind fun p => (tlR p.1 p.2).bind fun q => if q.1.length < 100 then some (.nw (.tl q.1 q.2.1), q.2.2) else none := rfl
theorem tlX_ev {i : Int} {Fa : Sm} {ρ ρ1 : En} {ds : List D} {d : D} (h : Fa ρ = some (.nw (.tl ds d), ρ1)) (e : i = ds.length) : tlX i Fa ρ = some (.nw (.ow d), ρ1) := by
  show (Fa ρ).bind _ = _
  rw [h]
  show (if i = ds.length then _ else _) = _
  rw [if_pos e]

/-! ### a call whose arguments are frozen while it runs, and whose answer is no thing -/
def scal : D → Bool
  | .non => true
  | .bl _ => true
  | .int _ => true
  | .str _ => true
  | _ => false
theorem scal_rep {K : PySem.W.Frag} {Z Z' : Hp} {v : V} : ∀ {d : D}, scal d = true → Rep K Z v d → Rep K Z' v d
  | .non, _, h => by cases h; exact .non
  | .bl b, _, h => by cases h; exact .bl b
  | .int i, _, h => by cases h; exact .int i
  | .str x, _, h => by cases h; exact .str x
  | .lst _, e, _ => by cases e
  | .tup _, e, _ => by cases e
  | .dic _, e, _ => by cases e
  | .dit _, e, _ => by cases e
def cllB (Fs : List Sm) (ds : List D) (fn : Fn) : Sm := fun ρ => (seqs Fs ρ).bind fun p => (frzs p.1 p.2).bind fun q => (fn ((q.1 ++ ds).map .fz)).bind fun z => match z.1 with
  | .fz d => if scal d = true then some (.fz d, p.2) else none
  | _ => none
section
variable {K : PySem.W.Frag} {H : Hp} {σ : St} {fn : Fn} {ws : List V} {Q : VK}
theorem cllB_go {Fs : List Sm} {ds : List D} (hw : ∀ Z, RepL K Z ws ds) (h : tE K (cllB Fs ds fn) σ H Q) : tA K Fs σ H fun vs H1 => spOf K fn (vs ++ ws) H1 Q E0 := by
  obtain ⟨Z, ρ, fp, r, ρ3, g, e, k⟩ := h
  obtain ⟨⟨rs, ρ1⟩, e1, e⟩ := Option.bind_eq_some_iff.mp e
  obtain ⟨⟨es, ρ2⟩, e2, e⟩ := Option.bind_eq_some_iff.mp e
  obtain ⟨⟨r1, ts'⟩, e3, e⟩ := Option.bind_eq_some_iff.mp e
  cases r1 with
  | fz d =>
    have e' : (if scal d = true then some (R.fz d, ρ1) else none) = some (r, ρ3) := e
    by_cases hs : scal d = true
    · rw [if_pos hs] at e'
      cases e'
      refine ⟨Z, ρ, fp, rs, _, g, e1, fun Z1 H1 vs fp1 l g1 R1 n1 P1 => ?_⟩
      obtain ⟨Z2, fp2, g2, R2, P2⟩ := frzs_ok g1 R1 n1 e2
      refine ⟨Z2, _, [], _, ts', g2.sub, g2.tz, OwnL.fzs (R2.append (hw Z2)), e3, fun Z' H' v lr l' s' nz rn ol dj P => ?_⟩
      have keep : ∀ q u, H1 q = some u → (∀ ps, u ≠ .tbl ps) → H' q = some u := fun q u e t => P.fr q u e (fun z => by cases z) t
      have sub : Sub Z1 H' := fun a u hz => by
        rcases g1.sub a u hz with y | ⟨⟨o, y⟩, m⟩
        · exact .inl (keep a u y fun ps z => g1.tz.no a ps (z ▸ hz))
        · exact .inr ⟨⟨o, keep a _ y fun ps z => by cases z⟩, m⟩
      have g3 : Good K Z1 H' σ _ fp1 := g1.mono (Same.refl _) sub P.tb g1.tz.no (fun q u hq e => keep q u e (by
        obtain ⟨⟨o, e2, m⟩, _⟩ := g1.there hq
        rw [e] at e2; cases e2
        exact m.tbl)) fun q hq => (g1.there hq).2
      have rn' : Rep K Z' v d ∧ lr = [] := rn
      refine k Z1 H' v fp1 [] g3 ⟨scal_rep hs rn'.1, rfl⟩ (fun p hp => by cases hp) (P1.trans ?_)
      exact ⟨Same.refl _, fun p o h n t => keep p o h t, fun p hp => .inl (hp.elim .inl fun z => by cases z), fun p o h => .inl h, P.ic, P.tb⟩
    · rw [if_neg hs] at e'; cases e'
  | _ => cases e
end
section
variable {X : Cx} {k j : Nat} {x : Str} {fn : Fn} {ds : List D} {p pos : Pos} {e : Expr} {es : List Expr} {Fs : List Sm}
theorem se_bor (c : CalG X.prog X.w X.K X.mg X.base k x fn ds) (hr : Room j X.A) (hg : X.A.guards = some []) (hk : Nat.ble k j = true) (hx : Gl X x) (ha : PA X (e :: es) (tA X.K Fs)) (hdb : (x == ("__debug__" : Str)) = false) (hs : (e :: es).all notStar = true) :
    PE X (.Call (.Name x p) (e :: es) [] pos) (tE X.K (cllB Fs ds fn)) := by
  obtain ⟨f, fd, ps, dvs, dvals, F, hm, kp, hb, hd, hrep⟩ := c.ex
  rw [List.all_cons, Bool.and_eq_true] at hs
  exact pe_weak (gpe_call F (hr.mono (Nat.le_of_ble_eq_true hk)) hg hx hm kp hb hd ha hdb (star_ok hs.1) (plain_back hs.2)) fun σ H Q h => cllB_go hrep h
end
@[simp] theorem scal_bl {b : Bool} : scal (.bl b) = true := rfl
@[simp] theorem scal_int {i : Int} : scal (.int i) = true := rfl
@[simp] theorem cllB_ev {Fs : List Sm} {ds : List D} {fn : Fn} {ρ : En} : cllB Fs ds fn ρ = (seqs Fs ρ).bind fun p => (frzs p.1 p.2).bind fun q => (fn ((q.1 ++ ds).map .fz)).bind fun z => match z.1 with
  | .fz d => if scal d = true then some (.fz d, p.2) else none
  | _ => none := rfl
end FL

set_option Elab.async false
set_option maxRecDepth 100000
set_option maxHeartbeats 4000000
namespace FL
open PySem PySem.Spec L2

/-! ### xs.extend(ys), xs += ys: ys a fresh list -/
def exR (pl : Pl) (q : R × En) : Option (R × En) := match q.1 with
  | .nw (.ow (.lst ds)) => (plGet q.2 pl).bind fun cur => match cur with
    | .lst xs => if xs.length + ds.length ≤ sizeLine then some (.fz .non, plSet q.2 (.lst (xs ++ ds)) pl) else none
    | _ => none
  | _ => none
def extF (Fo Fa : Sm) : Sm := fun ρ => (Fo ρ).bind fun p => (plOf p.1).bind fun pl => (plGet p.2 pl).bind fun c0 => if isLst c0 = true then (Fa p.2).bind (exR pl) else none
theorem extF_go {K : PySem.W.Frag} {Fo Fa : Sm} {σ : St} {H : Hp} {Q : VK} (h : tE K (extF Fo Fa) σ H Q) :
    tE K Fo σ H fun x H1 => tyV K "list" x H1 ∧ tA K [Fa] σ H1 fun vs H2 => rExtend x vs H2 Q := by
  obtain ⟨Z, ρ, fp, r0, ρ', g, e, k⟩ := h
  obtain ⟨⟨ro, ρ1⟩, e1, e⟩ := Option.bind_eq_some_iff.mp e
  obtain ⟨pl, e2, e⟩ := Option.bind_eq_some_iff.mp e
  obtain ⟨c0, e3, e⟩ := Option.bind_eq_some_iff.mp e
  by_cases hl : isLst c0 = true
  · rw [if_pos hl] at e
    obtain ⟨⟨rs, ρ2⟩, e4, e⟩ := Option.bind_eq_some_iff.mp e
    cases rs with
    | nw t =>
      cases t with
      | ow dd =>
        cases dd with
        | lst ds =>
          obtain ⟨cur, e6, e⟩ := Option.bind_eq_some_iff.mp (show (plGet ρ2 pl).bind (fun cur => match cur with
            | .lst xs => if xs.length + ds.length ≤ sizeLine then some (R.fz .non, plSet ρ2 (.lst (xs ++ ds)) pl) else none
            | _ => none) = some (r0, ρ') from e)
          cases cur with
          | lst xs =>
            have e' : (if xs.length + ds.length ≤ sizeLine then some (R.fz .non, plSet ρ2 (.lst (xs ++ ds)) pl) else none) = some (r0, ρ') := e
            by_cases hz : xs.length + ds.length ≤ sizeLine
            · rw [if_pos hz] at e'
              cases e'
              refine ⟨Z, ρ, fp, ro, _, g, e1, fun Z1 H1 v fp1 l g1 R1 n1 P1 => ?_⟩
              obtain ⟨a, rfl, hza, ot, _, _⟩ := place_at g1 R1 e2 e3
              refine ⟨?_, Z1, _, fp1, [.nw (.ow (.lst ds))], _, g1, (show (Fa ρ1).bind (fun p => (seqs [] p.2).bind fun q => some (p.1 :: q.1, q.2)) = _ by rw [e4]; rfl), fun Z2 H2 vs fp2 l2 g2 R2 n2 P2 => ?_⟩
              · cases c0 with
                | lst ds => obtain ⟨vs, h1, h2⟩ := ot; exact .inl ⟨rfl, vs, SqL.of h1⟩
                | _ => cases hl
              · obtain ⟨Ra, na⟩ := R1.stay n1 P2
                obtain ⟨b, hb, hz', ot', eb, wr⟩ := place_at g2 Ra e2 e6
                cases hb
                cases R2 with
                | cons hr hn nd =>
                  cases hn
                  obtain ⟨c, rfl, rfl, zc, oc⟩ := (show ∃ a, _ = V.ref a ∧ _ = [a] ∧ Z2 a = none ∧ OwTop K Z2 H2 a (.lst ds) from hr)
                  obtain ⟨ws, h1, h2⟩ := ot'
                  obtain ⟨zs, h3, h4⟩ := oc
                  refine ⟨a, c, ws, zs, rfl, rfl, h1, h3, by rw [h2.length, h4.length]; exact hz, ?_⟩
                  obtain ⟨g4, P4⟩ := wr (.lst (ws ++ zs)) (.lst (xs ++ ds)) ⟨_, upd_same, h2.append h4⟩
                  have P12 : Post Z H (E fp) Z2 H2 (E fp2) := ((P1.weak fun p q => .inl q).trans P2).weak fun p q => .inl q
                  exact k Z2 _ .non fp2 [] g4 ⟨.non, rfl⟩ (fun p hp => by cases hp) ((P12.trans P4).weak fun p q => q.elim id fun z => by cases z)
            · rw [if_neg hz] at e'; cases e'
          | _ => cases e
        | _ => cases e
      | _ => cases e
    | _ => cases e
  · rw [if_neg hl] at e; cases e
section
variable {X : Cx} {o e : Expr} {Fo Fa : Sm} {apos cpos pos : Pos}
theorem se_ext (ho : PE X o (tE X.K Fo)) (ha : PA X [e] (tA X.K [Fa])) (hbase : attributeBase o "extend" X.env (eval o X.env) = eval o X.env)
    (hfew : ((backTo cpos (starEach [e] X.env)).all (fun x => !x.1) && (backToKw cpos (keywordEach [] X.env)).all (fun x => x.1.isSome)
      && decide (([e] : List Expr).length + ([] : List Keyword).length + (if ([] : List Keyword).isEmpty then 0 else 1) < 30)) = true)
    (hline : (apos.endLine == cpos.line) = true) (hs : starEach [e] X.env = (false, eval e X.env) :: starEach [] X.env) (hplain : (backTo cpos (starEach ([] : List Expr) X.env)).any (·.1) = false) :
    PE X (.Call (.Attribute o "extend" apos) [e] [] cpos) (tE X.K (extF Fo Fa)) :=
  pe_weak (pe_bm PySem.F.plainAttrs_list PySem.F.slot_list_extend PySem.F.type_list_extend mt_extend ho ha hbase hfew hline hs hplain) fun σ H Q q => extF_go q
/-- name += a fresh list -/
def augF (i : Nat) (Fa : Sm) : Ss := fun ρ => (plGet ρ (.s i)).bind fun _ => (Fa ρ).bind fun q => (exR (.s i) q).map fun z => (.nx, z.2)
theorem set_self {α : Type} : ∀ {l : List α} {i : Nat} {x : α}, l[i]? = some x → l.set i x = l
  | [], _, _, h => by cases h
  | _ :: _, 0, _, h => by cases h; rfl
  | y :: l, i + 1, x, h => by
    show y :: l.set i x = _
    rw [set_self (l := l) (i := i) (x := x) h]
theorem ss_augL {x : Str} {i : Nat} {kp : Nat → Bool} {pos' : Pos} (hN : X.N.Nodup) (hi : X.N[i]? = some x) (hx : Loc X.env.scope x) (hf : X.fn x = true ∨ X.env.scope.names.lookup x = some .local) (he : PE X e (tE X.K Fa)) :
    PS X (.AugAssign (.Name x pos') .Add e pos) (tS X.K kp (augF i Fa)) := by
  refine ps_weak (ps_aug hN hi hx he (op := .Add) (ti := rExt2) iop_ext hf) ?_
  rintro D σ H ⟨Z, ρ, fp, fl, ρ', g, e, k⟩
  obtain ⟨c0, e0, e⟩ := Option.bind_eq_some_iff.mp e
  obtain ⟨⟨r, ρ1⟩, e1, e⟩ := Option.bind_eq_some_iff.mp e
  obtain ⟨⟨r2, ρ2⟩, e2, e⟩ := Option.map_eq_some_iff.mp e
  cases e
  have hs : ∃ v, σ.getD i none = some v := by
    cases q : ρ.getD i none with
    | none =>
      have e0' : (match ρ.getD i none with
        | some (.ow d) => some d
        | _ => none) = some c0 := e0
      rw [q] at e0'; cases e0'
    | some t =>
      obtain ⟨v, hv, _⟩ := g.at q
      exact ⟨v, hv⟩
  obtain ⟨v, hv⟩ := hs
  obtain ⟨a, rfl, hza, ot, ea, _⟩ := place_at (pl := .s i) g (show RR X.K Z H σ v (.sl i) [] from ⟨hv, rfl⟩) rfl e0
  have hg := getD_get hv
  cases r with
  | nw t =>
    cases t with
    | ow dd =>
      cases dd with
      | lst ds =>
        obtain ⟨cur, e6, e⟩ := Option.bind_eq_some_iff.mp (show (plGet ρ1 (.s i)).bind (fun cur => match cur with
          | .lst xs => if xs.length + ds.length ≤ sizeLine then some (R.fz .non, plSet ρ1 (.lst (xs ++ ds)) (.s i)) else none
          | _ => none) = some (r2, ρ2) from e2)
        cases cur with
        | lst xs =>
          have e' : (if xs.length + ds.length ≤ sizeLine then some (R.fz .non, plSet ρ1 (.lst (xs ++ ds)) (.s i)) else none) = some (r2, ρ2) := e
          by_cases hz : xs.length + ds.length ≤ sizeLine
          · rw [if_pos hz] at e'
            cases e'
            refine ⟨V.ref a, hg, Z, ρ, fp, _, _, g, e1, fun Z2 H2 y fp2 l2 g2 R2 n2 P2 => ?_⟩
            obtain ⟨b, hb, hz', ot', eb, wr⟩ := place_at (pl := .s i) g2 (show RR X.K Z2 H2 σ (V.ref a) (.sl i) [] from ⟨hv, rfl⟩) rfl e6
            cases hb
            obtain ⟨c, rfl, rfl, zc, oc⟩ := (show ∃ a, y = V.ref a ∧ l2 = [a] ∧ Z2 a = none ∧ OwTop X.K Z2 H2 a (.lst ds) from R2)
            obtain ⟨ws, h1, h2⟩ := ot'
            obtain ⟨zs, h3, h4⟩ := oc
            refine ⟨a, c, ws, zs, rfl, rfl, h1, h3, by rw [h2.length, h4.length]; exact hz, ?_⟩
            obtain ⟨g4, P4⟩ := wr (.lst (ws ++ zs)) (.lst (xs ++ ds)) ⟨_, upd_same, h2.append h4⟩
            show D.nx (σ.set i (some (V.ref a))) _
            rw [set_self hg]
            exact (show Ke X.K Z H fp σ kp _ D.nx from k) Z2 _ σ fp2 g4 keepS.refl ((P2.weak fun p q => .inl q).trans P4)
          · rw [if_neg hz] at e'; cases e'
        | _ => cases e
      | _ => cases e2
    | _ => cases e2
  | _ => cases e2
end
/-! ### xs != [], whatever the items are -/
def neE : D → D → Option R
  | .lst xs, .lst [] => some (.fz (.bl (!xs.isEmpty)))
  | _, _ => none
theorem opd_neE {X : Cx} (hu : X.A.units + 200 < cLine) : OpD X (compareOp .NotEq) neE := by
  intro pins s σ H x y v u Q Z dx dy r I rx ry sb hx hy e q
  cases dx with
  | lst xs =>
    cases dy with
    | lst ys =>
      cases ys with
      | cons _ _ => cases e
      | nil =>
        cases e
        obtain ⟨a, vs, rfl, h1, h2⟩ := hx
        obtain ⟨b, ws, rfl, h3, h4⟩ := hy
        cases h4
        cases rx
        cases ry
        obtain ⟨i1, r1, p1, _⟩ := I.list h1
        obtain ⟨i2, r2, p2, _⟩ := I.list h3
        cases r2
        have l1 := r1.length
        have l2 := h2.length
        cases xs with
        | nil =>
          have hn : i1 = [] := List.length_eq_zero_iff.mp (by rw [← l1, l2]; rfl)
          subst hn
          refine SeqAt.RcNeAt.lists (e := fun _ => true) p1.isList p2.isList rfl (by omega) (fun j h => ?_) X.prog X.w _ _ ?_
          · exact absurd h (Nat.not_lt_zero _)
          · exact ⟨.bl false, H, I, rfl, q _ _ (.same (.bl _))⟩
        | cons x xs =>
          refine SeqAt.RcNeAt.lists_lengths p1.isList p2.isList ?_ (by omega) X.prog X.w _ _ ?_
          · have : i1.toArray.size = xs.length + 1 := by rw [List.size_toArray, ← l1, l2]; rfl
            rw [this]
            rfl
          · exact ⟨.bl true, H, I, rfl, q _ _ (.same (.bl _))⟩
    | _ => cases e
  | _ => cases e
end FL

set_option Elab.async false
set_option maxRecDepth 100000
set_option maxHeartbeats 4000000
/-! sorted(d.items()), the keys texts -/
namespace SrtSV
open PySem PyProof.Rows Srt SrtO
def IsQ (h : Heap) (v : Value) (x : Str) : Prop := ∃ a o t u n, v = .ref a ∧ h.get? a = some o ∧ o.cls = .type "tuple" ∧ o.data = .seq #[.str x t, u] n
theorem IsQ.keeps {h h' : Heap} {v : Value} {x : Str} (p : IsQ h v x) (kk : ∀ b o, h.get? b = some o → o.cls = .type "tuple" → h'.get? b = some o) : IsQ h' v x := by
  obtain ⟨a, o, t, u, n, e, ho, hc, hd⟩ := p
  exact ⟨a, o, t, u, n, e, kk a o ho hc, hc, hd⟩
def ltS (x y : Str) : Bool := decide (x.cps.toList < y.cps.toList)
theorem swo_ltS {α : Type} (k : α → Str) : Swo fun v u => ltS (k v) (k u) := by
  unfold ltS
  refine ⟨fun x y h => ?_, fun x y z h1 h2 => ?_⟩
  · exact decide_eq_false (List.not_lt.mpr (List.le_of_lt (of_decide_eq_true h)))
  · have a := List.not_lt.mp (of_decide_eq_false h1)
    have b := List.not_lt.mp (of_decide_eq_false h2)
    exact decide_eq_false (List.not_lt.mpr (List.le_trans a b))
section
variable {prog : Program} {w : World} {A : Around} {E : Value → Shared → Prop} {s : Shared}
theorem eq_same {v : Value} {Q : Bool → Shared → Prop} (h : Q true s) : wpAny (model prog w) A (eqBool v v) Q E s := by
  unfold eqBool
  refine wpAny_holding ?_
  rw [if_pos (beq_self_eq_true v)]
  exact wpAny_bind (wpAny_rule (wpAny_pure h))
theorem name_cmp {vs : List Value} {k : Value → Str} (hp : ∀ v ∈ vs, IsQ s.heap v (k v)) (inj : ∀ v ∈ vs, ∀ u ∈ vs, k v = k u → v = u) : Cmp prog w A s (tuples' true) (fun p => p.1 ∈ vs) (lt2 fun v u => ltS (k v) (k u)) := by
  intro p q hm hm'
  have h1 := hp _ hm
  have h2 := hp _ hm'
  have hi := inj _ hm _ hm'
  show wpAny (model prog w) A (keyLt' (tuples' true) p.1 q.1) (fun r s' => s' = s ∧ r = ltS (k p.1) (k q.1)) (fun _ _ => False) s
  generalize k p.1 = x at *
  generalize k q.1 = y at *
  obtain ⟨a, o, t, u, n, e, ho, hc, hd⟩ := h1
  obtain ⟨b, o2, t2, u2, n2, e2, ho2, hc2, hd2⟩ := h2
  rw [e, e2]
  rw [e, e2] at hi
  refine PySem.W.kat_lt ho hd ho2 hd2 ?_
  show PySem.W.KatLex prog w A true (decide (2 < 2)) _ [(.str x t, .str y t2), (u, u2)] 0 s
  refine PySem.W.kat_cons (wpAny_eqBool_str ?_)
  refine PySem.W.kat_go (fun c => ?_) (fun c => ?_)
  · have ex : x = y := by simpa using c
    have er := hi ex
    cases er
    rw [ho] at ho2
    cases ho2
    rw [hd] at hd2
    cases hd2
    have no : ltS x x = false := by unfold ltS; exact decide_eq_false (List.lt_irrefl _)
    refine PySem.W.kat_yes (PySem.W.kat_cons (eq_same (PySem.W.kat_yes (PySem.W.kat_nil ⟨rfl, ?_⟩))))
    rw [no]
    rfl
  · exact PySem.W.kat_no (oneLt_str ⟨rfl, rfl⟩)
theorem heads {h : Heap} {k : Value → Str} : ∀ {vs : List Value}, (∀ v ∈ vs, IsQ h v (k v)) → ∃ fs : List Value, PySem.W.KatTups h vs fs ∧ fs.length = vs.length ∧ ∀ f ∈ fs, ∃ x t, f = Value.str x t
  | [], _ => ⟨[], PySem.W.KatTups.nil, rfl, fun f hf => by cases hf⟩
  | v :: vs, hp => by
    obtain ⟨a, o, t, u, n, e, ho, hc, hd⟩ := hp v List.mem_cons_self
    obtain ⟨fs, g1, g2, g3⟩ := heads (vs := vs) fun y hy => hp y (List.mem_cons_of_mem _ hy)
    subst e
    refine ⟨.str (k (.ref a)) t :: fs, PySem.W.KatTups.cons ho hc hd rfl g1, congrArg (· + 1) g2, fun f hf => ?_⟩
    rcases List.mem_cons.mp hf with z | z
    · exact ⟨_, t, z⟩
    · exact g3 f z
theorem can_sort {a : Addr} {vs : List Value} {k : Value → Str} (h0 : 0 < vs.length) (hp : ∀ v ∈ vs, IsQ s.heap v (k v)) (inj : ∀ v ∈ vs, ∀ u ∈ vs, k v = k u → v = u) (ha : ∀ o, s.heap.get? a = some o → o.cls ≠ .type "tuple") : SortableO prog w A s a vs fun v u => ltS (k v) (k u) := by
  intro h2 kp
  have hq : ∀ v ∈ vs, IsQ h2 v (k v) := fun v hv => (hp v hv).keeps fun b o e c => kp b o (fun z => ha o (z ▸ e) c) e
  obtain ⟨fs, g1, g2, g3⟩ := heads hq
  refine ⟨tuples' true, fun Q E hQ => ?_, name_cmp hq inj⟩
  refine PySem.W.kat_kind (T := .type "str") g1 (by omega) (fun f hf => ?_) (by rfl) ?_
  · obtain ⟨x, t, rfl⟩ := g3 f hf
    exact PySem.W.Looks.now
  · have e : (Value.type "str" != Value.type "tuple") = true := by first | decide +kernel | rfl | decide
    rw [e]
    exact hQ
end
end SrtSV
namespace FL
open PySem PySem.Spec L2
/-- the name in front of a tuple -/
def nmJ (J : Hp) (t : Addr) : Str := match J t with
  | some (.tup (.str x :: _)) => x
  | _ => ""
def tSItm (te : TE) : TE := fun σ H Q => te σ H fun x H1 => ∃ (d : Addr) (kvs : List (Key × V)), x = .ref d ∧ Rd H1 d (.dK kvs) ∧ (∃ ns : List Str, kvs.map (·.1) = ns.map Sum.inr ∧ ns.Nodup) ∧
  ∀ (J : Hp) (p : Addr) (as ts : List Addr), (∀ b o, H1 b = some o → J b = some o) → H1 p = none → (∀ t ∈ as, H1 t = none) → p ∉ as → J p = some (.lst (ts.map V.ref)) → Paired (fun (t : Addr) (q : Key × V) => J t = some (.tup [kV q.1, q.2])) as kvs →
    ts.Perm as → ts.Pairwise (fun a b => SrtSV.ltS (nmJ J b) (nmJ J a) = false) → Q (.ref p) J
section
variable {X : Cx} {e : Expr} {te : TE} {p apos cpos pos : Pos} {F : Sm}
/-- the tuples of the items, told at their places -/
theorem tups_laid {pins : List (Addr × Obj)} {σ : L2.St} {H : Hp} {s : Shared} {h' : Heap} {tk : Nat} {kvs : List (Key × V)} {vs : List (Key × Value)} {as : List Addr} (I : Inv X pins σ H s) (kv : KV kvs vs)
    (hk : ∀ b o, s.heap.get? b = some o → h'.get? b = some o) (hl : as.length = vs.length) (hG : PySem.W.KdxG (mixKind X.prog X.w) vs s.heap.objs.size h' as) :
    (∀ b u, H b = some u → LiI.putT H as kvs b = some u) ∧ (∀ t ∈ as, H t = none) ∧ as.Nodup ∧ Paired (fun (t : Addr) (q : Key × V) => LiI.putT H as kvs t = some (.tup [kV q.1, q.2])) as kvs ∧ Inv X pins σ (LiI.putT H as kvs) { s with heap := h', toks := tk } := by
  have nd : as.Nodup := hG.rise.imp fun {a b} (h : a < b) => Nat.ne_of_lt h
  have new : ∀ t ∈ as, H t = none := fun t ht => I.hok.fresh (Nat.le_of_lt (hG.above t ht))
  have len : as.length = kvs.length := hl.trans (Paired.length kv).symm
  have atP := LiI.putT_at as kvs H len nd
  have kp : ∀ b u, H b = some u → LiI.putT H as kvs b = some u := fun b u e => by
    have nb : b ∉ as := fun z => by rw [new b z] at e; cases e
    rw [LiI.putT_off as kvs H nb]
    exact e
  refine ⟨kp, new, nd, atP, ?_⟩
  have un : Un (frs X.stack) [] H (LiI.putT H as kvs) s.heap h' := ⟨fun b o q _ _ _ => hk b o q, fun b o q _ _ _ => ⟨o.slots, hk b o q⟩, fun b o q n _ => by
    have nb : b ∉ as := fun z => absurd (Heap.lt_size q) (Nat.not_lt.mpr (Nat.le_of_lt (hG.above b z)))
    rw [LiI.putT_off as kvs H nb]
    exact n, fun b o q _ => ⟨o, hk b o q⟩, fun b xs q => kp b _ q, fun b o u q => kp b _ q, fun b ps q => ⟨#[], by rw [kp b _ q]; simp⟩⟩
  refine I.call' (ch := []) rfl un (fun b u q => ?_) I.bare fun b z => by cases z
  by_cases hb : b ∈ as
  · obtain ⟨j, pk, e1, e2, e3⟩ := LiI.paired_ix atP hb
    rw [e3] at q
    cases q
    obtain ⟨key, kk, y, f1, f2, f3⟩ := hG.pairs j b e1
    obtain ⟨qv, g1, g2, g3⟩ := LiI.paired_get kv e2
    rw [f1] at g1
    cases g1
    have rk : RelV (kV pk.1) key := by
      rw [g2]
      exact relV_key (show keyIs kk key = true from f2)
    refine ⟨?_, [key, y], .cons rk (.cons g3 .nil), ⟨_, f3, rfl, _, rfl⟩⟩
    show 2 ≤ sizeLine
    decide
  · rw [LiI.putT_off as kvs H hb] at q
    exact (I.hok b u q).stay (fun d v _ y => hk d v y) (fun d y => kp d _ y) fun d xs y => kp d _ y
theorem pe_sortItm (hc : X.calm = true) (he : PE X e te) (hg : Gl X "sorted") (hm : X.mg "sorted" = none) (hb : attributeBase e "items" X.env (eval e X.env) = eval e X.env) (hl : (apos.endLine == cpos.line) = true) :
    PE X (.Call (.Name "sorted" p) [.Call (.Attribute e "items" apos) [] [] cpos] [] pos) (tSItm te) := by
  constructor
  intro pins s σ H Q I hq
  apply wpAny_Call_Name_kw
  refine ld_blt I hg hm PyProof.Rows.boot_sorted ?_
  refine PyProof.Rows.callWith_builtin1 ?_ (star_ok rfl) rfl
  rw [star_ok rfl]
  show wpAny (model X.prog X.w) X.A (spliced ((false, eval (.Call (.Attribute e "items" apos) [] [] cpos) X.env) :: backTo pos (starEach [] X.env))) _ _ s
  refine Calls.spliced_cons ?_
  have step := he.run pins s σ H _ I hq
  refine wpAny_Call_method (T := "dict") (id := "dict.items") hb rfl hl F.plainAttrs_dict F.slot_dict_items F.type_dict_items (thn step ?_)
  rintro u s1 ⟨x, H1, I1, rx, d, kvs, rfl, hd, ⟨ns, hns, hnd⟩, q⟩
  cases (show u = Value.ref d from rx)
  obtain ⟨sz, nsm, vs, kv, hdo⟩ := dk_rd I1.hok hd
  obtain ⟨ep, hat⟩ := hdo.dictAt
  have len : kvs.length = vs.length := Paired.length kv
  have J2 : Inv X pins σ H1 { s1 with heap := s1.heap.push { cls := .type "dict_items", data := .fields #[.ref d] } } := I1.kept (t' := s1.toks) fun b ob z => Heap.get?_push_of_some _ z
  refine ⟨hdo.typeIs, hdo.mapOf.noDict, ?_⟩
  show wpAny (model X.prog X.w) X.A (callWith cpos (.builtin "dict.items") [.ref d] [] []) _ X.xe s1
  refine method_meetsIn F.slot_dict_items F.entry_dict_items rfl (PySem.evalArgs_none ⟨rfl, hdo.typeIs, F.args_dict_items_1 _, _, meets_dict_items (mixKind X.prog X.w) d nsm, ⟨vs, hdo⟩, ?_⟩)
  refine Calls.spliced_nil ?_
  refine Calls.call_function_entry PyProof.Rows.kind_sorted PyProof.Rows.plain_sorted PyProof.Rows.entry_sorted (PyProof.Rows.args_sorted1 _) ?_
  unfold Builtin.«sorted»
  refine wpAny_bind (m := checkCount "sorted" 1 1 _) (wpAny_pure ?_)
  refine wpAny_bind (PySem.W.kdx_collect (A := X.A.in1) (knd := mixKind X.prog X.w) (kvs := vs) (ep := ep) (I1.ok.hd hc) ⟨_, Heap.get?_push_size _ rfl, rfl, rfl⟩ (hat.push _) (by omega) fun h' tk as hk hln hG => ?_)
  obtain ⟨k1, k2, nd, atP, I3⟩ := tups_laid (tk := tk) J2 kv hk hln hG
  generalize LiI.putT H1 as kvs = J at *
  have hal : (as.map Value.ref).length = kvs.length := by rw [List.length_map, hln, len]
  refine wpAny_bind (wpAny_newList ?_ (by rw [hal]; exact sz))
  have hoL : (h'.push (PyProof.Rows.seqObj "list" (as.map Value.ref).toArray 0)).get? h'.objs.size = some (PyProof.Rows.seqObj "list" (as.map Value.ref).toArray 0) := Heap.get?_push_size _ rfl
  show wpAny _ _ _ _ _ { s1 with heap := h'.push (PyProof.Rows.seqObj "list" (as.map Value.ref).toArray 0), toks := tk }
  -- the names
  have nm : ∀ t ∈ as, ∃ x, J t = some (.tup [V.str x, (match J t with
      | some (.tup [_, v]) => v
      | _ => .non)]) ∧ nmJ J t = x := fun t ht => by
    obtain ⟨j, pk, e1, e2, e3⟩ := LiI.paired_ix atP ht
    have : pk.1 ∈ kvs.map (·.1) := List.mem_map.mpr ⟨pk, List.mem_of_getElem? e2, rfl⟩
    rw [hns] at this
    obtain ⟨x, _, hx⟩ := List.mem_map.mp this
    rw [← hx] at e3
    refine ⟨x, ?_, ?_⟩
    · rw [e3]; rfl
    · unfold nmJ; rw [e3]; rfl
  have ninj : ∀ t ∈ as, ∀ t' ∈ as, nmJ J t = nmJ J t' → t = t' := by
    have gen : ∀ {as : List Addr} {kvs : List (Key × V)} {ns : List Str}, Paired (fun (t : Addr) (q : Key × V) => J t = some (.tup [kV q.1, q.2])) as kvs → kvs.map (·.1) = ns.map Sum.inr → as.map (nmJ J) = ns := by
      intro as kvs ns hp
      induction hp generalizing ns with
      | nil => intro e; cases ns with
        | nil => rfl
        | cons _ _ => cases e
      | cons h r ih =>
        intro e
        cases ns with
        | nil => cases e
        | cons n ns =>
          rw [List.map_cons, List.map_cons] at e
          obtain ⟨e1, e2⟩ := List.cons.inj e
          rw [List.map_cons, ih e2]
          congr 1
          rw [e1] at h
          unfold nmJ; rw [h]; rfl
    have e := gen atP hns
    rw [← e] at hnd
    have pw := List.pairwise_map.mp hnd
    intro t ht t' ht' en
    exact Classical.byContradiction fun ne => by
      have : ∀ {l : List Addr}, l.Pairwise (fun a b => nmJ J a ≠ nmJ J b) → t ∈ l → t' ∈ l → False := by
        intro l pl m1 m2
        induction l with
        | nil => cases m1
        | cons a l ih =>
          obtain ⟨p1, p2⟩ := List.pairwise_cons.mp pl
          rcases List.mem_cons.mp m1 with a1 | a1 <;> rcases List.mem_cons.mp m2 with a2 | a2
          · exact ne (a1.trans a2.symm)
          · exact p1 t' a2 (a1 ▸ en)
          · exact p1 t a1 (a2 ▸ en.symm)
          · exact ih p2 a1 a2
      exact this pw ht ht'
  have isq : ∀ (hh : Heap), (∀ b o, h'.get? b = some o → hh.get? b = some o) → ∀ v ∈ as.map Value.ref, SrtSV.IsQ hh v (nmJ J (match v with
      | .ref a => a
      | _ => 0)) := fun hh kk v hv => by
    obtain ⟨t, ht, rfl⟩ := List.mem_map.mp hv
    obtain ⟨x, e1, e2⟩ := nm t ht
    obtain ⟨_, its2, r2, o, ho, hc2, n, hd2⟩ := I3.hok t _ e1
    obtain ⟨u1, u2, rfl, ri, rj⟩ := vals2 r2
    obtain ⟨t1, rfl⟩ := ri
    show SrtSV.IsQ hh (.ref t) (nmJ J t)
    rw [e2]
    exact ⟨t, o, t1, u2, n, rfl, kk _ _ ho, hc2, hd2⟩
  have inj : ∀ v ∈ as.map Value.ref, ∀ u ∈ as.map Value.ref, nmJ J (match v with
      | .ref a => a
      | _ => 0) = nmJ J (match u with
      | .ref a => a
      | _ => 0) → v = u := fun v hv u hu en => by
    obtain ⟨t, ht, rfl⟩ := List.mem_map.mp hv
    obtain ⟨t', ht', rfl⟩ := List.mem_map.mp hu
    rw [ninj t ht t' ht' en]
  refine wpAny_bind (wpAny_holding (wpAny_call_entry PyProof.Rows.slot_list_sort ⟨_, hoL, rfl⟩ PyProof.Rows.entry_list_sort
    (SrtO.list_sort_ord (s := { s1 with heap := h'.push (PyProof.Rows.seqObj "list" (as.map Value.ref).toArray 0), toks := tk }) (SrtSV.swo_ltS fun v => nmJ J (match v with
      | .ref a => a
      | _ => 0)) hoL (by rw [hal]; exact sz) (fun h2 => SrtSV.can_sort (by omega) (isq _ fun b o z => Heap.get?_push_of_some _ z) inj fun o e c => ?_) fun out g1 g2 => ⟨_, rfl, ?_⟩) (PyProof.Rows.args_list_sort _)))
  · have e' := hoL.symm.trans e
    cases e'
    exact absurd (Value.type.inj c) (by decide)
  · obtain ⟨nn, hnn⟩ := PyProof.Rows.sortedHeap_at (vs := as.map Value.ref) (out := out.toArray) hoL
    have outs : ∀ v ∈ out, ∃ t, v = Value.ref t := fun v hv => by
      obtain ⟨t, _, e⟩ := List.mem_map.mp (g2.perm.mem_iff.mp hv)
      exact ⟨t, e.symm⟩
    obtain ⟨ts, rfl⟩ : ∃ ts : List Addr, out = ts.map Value.ref := by
      have : ∀ {l : List Value}, (∀ v ∈ l, ∃ t, v = Value.ref t) → ∃ ts : List Addr, l = ts.map Value.ref := by
        intro l
        induction l with
        | nil => exact fun _ => ⟨[], rfl⟩
        | cons v l ih =>
          intro h
          obtain ⟨t, rfl⟩ := h v List.mem_cons_self
          obtain ⟨ts, rfl⟩ := ih fun y hy => h y (List.mem_cons_of_mem _ hy)
          exact ⟨t :: ts, rfl⟩
      exact this outs
    have perm : ts.Perm as := by
      have := g2.perm.map (fun v : Value => match v with
        | .ref a => a
        | _ => 0)
      rw [List.map_map, List.map_map] at this
      simpa [Function.comp_def] using this
    have nP : J h'.objs.size = none := I3.hok.fresh (Nat.le_refl _)
    have nP1 : H1 h'.objs.size = none := by
      cases z : H1 h'.objs.size with
      | none => rfl
      | some u => rw [k1 _ _ z] at nP; cases nP
    have npa : h'.objs.size ∉ as := fun z => by
      obtain ⟨x, e1, _⟩ := nm _ z
      rw [nP] at e1; cases e1
    have ju : ∀ t ∈ as, upd J h'.objs.size (.lst (ts.map V.ref)) t = J t := fun t ht => upd_ne fun z => npa (z ▸ ht)
    have nmu : ∀ t ∈ as, nmJ (upd J h'.objs.size (.lst (ts.map V.ref))) t = nmJ J t := fun t ht => by unfold nmJ; rw [ju t ht]
    refine wpAny_pure ⟨_, rfl, .ref h'.objs.size, upd J h'.objs.size (.lst (ts.map V.ref)), I3.laid (t' := tk) (fun b u e => ?_) (Nat.le_refl _)
      (show ObjOk X.prog X.w _ _ _ (.lst (ts.map V.ref)) from ⟨by rw [List.length_map, perm.length_eq, hln, ← len]; exact sz, ts.map Value.ref, nn, LiI.vals_refs ts, hnn⟩), rfl,
      q _ _ as ts (fun b o z => by rw [upd_ne (fun y => by rw [y, nP1] at z; cases z)]; exact k1 b o z) nP1 (fun t ht => ?_) npa upd_same ?_ perm ?_⟩
    · have hb2 : b < h'.objs.size := Heap.lt_size e
      rw [PyProof.Rows.sortedHeap_old (Nat.ne_of_lt hb2) (by rw [Heap.size_push]; exact Nat.lt_succ_of_lt hb2)]
      exact Heap.get?_push_of_some _ e
    · exact k2 t ht
    · have gen : ∀ {as' : List Addr} {kvs' : List (Key × V)}, (∀ t ∈ as', t ∈ as) → Paired (fun (t : Addr) (q : Key × V) => J t = some (.tup [kV q.1, q.2])) as' kvs' → Paired (fun (t : Addr) (q : Key × V) => upd J h'.objs.size (.lst (ts.map V.ref)) t = some (.tup [kV q.1, q.2])) as' kvs' := by
        intro as' kvs' hs hp
        induction hp with
        | nil => exact .nil
        | cons h r ih => exact .cons ((ju _ (hs _ List.mem_cons_self)).trans h) (ih fun t ht => hs t (List.mem_cons_of_mem _ ht))
      exact gen (fun t ht => ht) atP
    · have pw := List.pairwise_map.mp g1
      refine List.Pairwise.imp_of_mem (fun {a b} ha hb h => ?_) pw
      rw [nmu a (perm.mem_iff.mp ha), nmu b (perm.mem_iff.mp hb)]
      exact h
end
end FL

set_option Elab.async false
set_option maxRecDepth 100000
set_option maxHeartbeats 4000000
namespace FL
open PySem PySem.Spec L2
def namesOf : List Key → Option (List Str)
  | [] => some []
  | .inr x :: ks => (namesOf ks).map (x :: ·)
  | .inl _ :: _ => none
theorem namesOf_eq : ∀ {ks : List Key} {ns : List Str}, namesOf ks = some ns → ks = ns.map Sum.inr
  | [], _, h => by cases h; rfl
  | .inr x :: ks, ns, h => by
    obtain ⟨r, h1, rfl⟩ := Option.map_eq_some_iff.mp h
    rw [namesOf_eq h1]; rfl
  | .inl _ :: _, _, h => by cases h
theorem namesOf_map : ∀ ns : List Str, namesOf (ns.map Sum.inr) = some ns
  | [] => rfl
  | n :: ns => by
    show (namesOf (ns.map Sum.inr)).map (n :: ·) = _
    rw [namesOf_map ns]; rfl
def siD : D → Option R
  | .dic kds => (namesOf (kds.map fun p => p.1)).bind fun ns => if ns.Nodup then some (.nw (.ow (.lst ((sortS ns).map fun x => .tup [.str x, (dfind kds (.inr x)).getD .non])))) else none
  | _ => none
theorem repK_keys {K : PySem.W.Frag} {Z : Hp} : ∀ {kvs : List (Key × V)} {kds : List (Key × D)}, RepK K Z kvs kds → kvs.map (·.1) = kds.map fun p => p.1
  | _, _, .nil => rfl
  | _, _, .cons h r => by rw [List.map_cons, List.map_cons, repK_keys r]
theorem repK_find {K : PySem.W.Frag} {Z J : Hp} : ∀ {as : List Addr} {kvs : List (Key × V)} {kds : List (Key × D)}, Paired (fun (t : Addr) (q : Key × V) => J t = some (.tup [kV q.1, q.2])) as kvs → RepK K Z kvs kds → (kds.map fun p => p.1).Nodup →
    ∀ t ∈ as, ∃ (k : Key) (v : V) (d : D), J t = some (.tup [kV k, v]) ∧ Rep K Z v d ∧ dfind kds k = some d ∧ k ∈ kds.map fun p => p.1
  | [], _, _, .nil, _, _, t, h => by cases h
  | a :: as, (k, v) :: kvs, (_, d) :: kds, .cons h1 r1, .cons h2 r2, nd, t, ht => by
    rw [List.map_cons, List.nodup_cons] at nd
    rcases List.mem_cons.mp ht with e | ht
    · subst e
      refine ⟨k, v, d, h1, h2, ?_, List.mem_cons_self⟩
      unfold dfind
      rw [List.find?_cons_of_pos (by simp)]
      rfl
    · obtain ⟨k', v', d', e1, e2, e3, e4⟩ := repK_find r1 r2 nd.2 t ht
      refine ⟨k', v', d', e1, e2, ?_, List.mem_cons_of_mem _ e4⟩
      unfold dfind at e3 ⊢
      rw [List.find?_cons_of_neg (by
        simp only [decide_eq_true_eq]
        intro z
        exact nd.1 (z ▸ e4))]
      exact e3
section
variable {X : Cx} {e : Expr} {p apos cpos pos : Pos} {F : Sm}
theorem se_sortItems (hc : X.calm = true) (hg : Gl X "sorted") (hm : X.mg "sorted" = none) (he : PE X e (tE X.K F)) (hb : attributeBase e "items" X.env (eval e X.env) = eval e X.env) (hl : (apos.endLine == cpos.line) = true) :
    PE X (.Call (.Name "sorted" p) [.Call (.Attribute e "items" apos) [] [] cpos] [] pos) (tE X.K (uno siD F)) := by
  refine pe_weak (pe_sortItm hc he hg hm hb hl) ?_
  rintro σ H Q ⟨Z, ρ, fp, r, ρ3, g, e, kt⟩
  obtain ⟨⟨r0, ρ1⟩, e1, e⟩ := Option.bind_eq_some_iff.mp e
  obtain ⟨d, e2, e⟩ := Option.bind_eq_some_iff.mp e
  obtain ⟨r', e3, e⟩ := Option.map_eq_some_iff.mp e
  cases e
  refine ⟨Z, ρ, fp, r0, ρ1, g, e1, fun Z1 H1 v fp1 l g1 R1 n1 P1 => ?_⟩
  have hd := peek_ok g1 R1 e2
  cases d with
  | dic kds =>
    obtain ⟨ns, f1, f2⟩ := Option.bind_eq_some_iff.mp (show (namesOf (kds.map fun p => p.1)).bind (fun ns => if ns.Nodup then some (R.nw (.ow (.lst ((sortS ns).map fun x => .tup [.str x, (dfind kds (.inr x)).getD .non])))) else none) = some _ from e3)
    by_cases hn : ns.Nodup
    · rw [if_pos hn] at f2
      cases f2
      obtain ⟨a, kvs, rfl, h1, h2⟩ := hd
      have hk := namesOf_eq f1
      refine ⟨a, kvs, rfl, h1, ⟨ns, (repK_keys h2).trans hk, hn⟩, fun J p as ts k1 k2 k3 k4 k5 k6 k7 k8 => ?_⟩
      have nk : (kds.map fun p => p.1).Nodup := by
        rw [hk]
        exact List.pairwise_map.mpr (hn.imp fun ne z => ne (Sum.inr.inj z))
      have fd := repK_find k6 h2 nk
      have zt : ∀ t ∈ as, Z1 t = none := fun t ht => g1.sub.none (k3 t ht)
      have out : ∀ q, E fp1 q → q ∉ as := fun q hq z => by
        obtain ⟨⟨o, eo, _⟩, _⟩ := g1.there hq
        rw [k3 q z] at eo; cases eo
      have sm : Same Z1 (fun b => if b ∈ as then J b else Z1 b) := fun b u hu => by
        show (if b ∈ as then J b else Z1 b) = some u
        by_cases c : b ∈ as
        · rw [zt b c] at hu; cases hu
        · rw [if_neg c]; exact hu
      have sb : Sub (fun b => if b ∈ as then J b else Z1 b) J := fun b u hu => by
        have hu' : (if b ∈ as then J b else Z1 b) = some u := hu
        by_cases c : b ∈ as
        · rw [if_pos c] at hu'; exact .inl hu'
        · rw [if_neg c] at hu'
          rcases g1.sub b u hu' with z | ⟨⟨o, z⟩, m⟩
          · exact .inl (k1 _ _ z)
          · exact .inr ⟨⟨o, k1 _ _ z⟩, m⟩
      have nz : NoT (fun b => if b ∈ as then J b else Z1 b) := fun b us hu => by
        have hu' : (if b ∈ as then J b else Z1 b) = some (.tbl us) := hu
        by_cases c : b ∈ as
        · rw [if_pos c] at hu'
          obtain ⟨k, v, d, z, _⟩ := fd b c
          rw [z] at hu'; cases hu'
        · rw [if_neg c] at hu'; exact g1.tz.no b us hu'
      have g2 : Good X.K (fun b => if b ∈ as then J b else Z1 b) J σ _ fp1 := g1.mono sm sb (.ext k1) nz (fun q u _ eq => k1 q u eq) fun q hq => by
        show (if q ∈ as then J q else Z1 q) = none
        rw [if_neg (out q hq)]
        exact (g1.there hq).2
      have zp : (if p ∈ as then J p else Z1 p) = none := by
        rw [if_neg k4]
        exact g1.sub.none k2
      -- the sorted names
      have nme : ∀ t ∈ as, ∃ (x : Str) (v : V) (d : D), J t = some (.tup [.str x, v]) ∧ Rep X.K Z1 v d ∧ dfind kds (.inr x) = some d ∧ nmJ J t = x ∧ x ∈ ns := fun t ht => by
        obtain ⟨k, v, d, z1, z2, z3, z4⟩ := fd t ht
        rw [hk] at z4
        obtain ⟨x, hx, rfl⟩ := List.mem_map.mp z4
        exact ⟨x, v, d, z1, z2, z3, by unfold nmJ; rw [z1]; rfl, hx⟩
      have gen : ∀ {as : List Addr} {kvs : List (Key × V)} {ns : List Str}, Paired (fun (t : Addr) (q : Key × V) => J t = some (.tup [kV q.1, q.2])) as kvs → kvs.map (·.1) = ns.map Sum.inr → as.map (nmJ J) = ns := by
        intro as kvs ns hp
        induction hp generalizing ns with
        | nil =>
          intro e
          cases ns with
          | nil => rfl
          | cons _ _ => cases e
        | cons h r ih =>
          intro e
          cases ns with
          | nil => cases e
          | cons n ns =>
            rw [List.map_cons, List.map_cons] at e
            obtain ⟨e1, e2⟩ := List.cons.inj e
            rw [List.map_cons, ih e2]
            congr 1
            rw [e1] at h
            unfold nmJ; rw [h]; rfl
      have en : as.map (nmJ J) = ns := gen k6 ((repK_keys h2).trans hk)
      have es : ts.map (nmJ J) = sortS ns := by
        refine List.Perm.eq_of_pairwise (le := fun a b => leS a b = true) (fun x y _ _ h1 h2 => leS_anti h1 h2) ?_ (sortS_pw ns) ?_
        · refine List.pairwise_map.mpr (k8.imp fun {a b} h => ?_)
          have h : decide ((nmJ J b).cps.toList < (nmJ J a).cps.toList) = false := h
          exact leS_iff.mpr (List.not_lt.mp (of_decide_eq_false h))
        · refine (k7.map (nmJ J)).trans ?_
          rw [en]
          exact (sortS_perm ns).symm
      have rp : ∀ {ts : List Addr}, (∀ t ∈ ts, t ∈ as) → RepL X.K (fun b => if b ∈ as then J b else Z1 b) (ts.map V.ref) ((ts.map (nmJ J)).map fun x => .tup [.str x, (dfind kds (.inr x)).getD .non]) := by
        intro ts
        induction ts with
        | nil => exact fun _ => .nil
        | cons t ts ih =>
          intro h
          obtain ⟨x, v, d, z1, z2, z3, z4, _⟩ := nme t (h t List.mem_cons_self)
          rw [List.map_cons, List.map_cons, List.map_cons, z4, z3]
          refine .cons (.tup (vs := [.str x, v]) ?_ (.cons (.str x) (.cons (z2.mono sm) .nil))) (ih fun y hy => h y (List.mem_cons_of_mem _ hy))
          show (if t ∈ as then J t else Z1 t) = _
          rw [if_pos (h t List.mem_cons_self)]
          exact z1
      have rp2 := rp (ts := ts) fun t ht => k7.mem_iff.mp ht
      rw [es] at rp2
      refine kt _ J (.ref p) fp1 [p] g2 ⟨p, rfl, rfl, zp, ts.map V.ref, k5, rp2⟩ (fun q hq z => ?_) ?_
      · have : q = p := by simpa using hq
        subst this
        obtain ⟨⟨o, eo, _⟩, _⟩ := g1.there z
        rw [k2] at eo; cases eo
      · refine P1.trans ⟨sm, fun b o eo _ _ => k1 b o eo, fun b hb => ?_, fun b u hu => ?_, Grow.same k1, .ext k1⟩
        · rcases hb with hb | hb
          · exact .inl (.inl hb)
          · rw [List.mem_singleton] at hb; subst hb; exact .inr k2
        · have hu' : (if b ∈ as then J b else Z1 b) = some u := hu
          by_cases c : b ∈ as
          · exact .inr (.inr (k3 b c))
          · rw [if_neg c] at hu'; exact .inl hu'
    · rw [if_neg hn] at f2; cases f2
  | _ => cases e3
end
end FL

set_option Elab.async false
set_option maxRecDepth 100000
namespace FL
open PySem
@[simp] theorem extF_ev {Fo Fa : Sm} {ρ : En} : extF Fo Fa ρ = (Fo ρ).bind fun p => (plOf p.1).bind fun pl => (plGet p.2 pl).bind fun c0 => if isLst c0 = true then (Fa p.2).bind (exR pl) else none := rfl
@[simp] theorem augF_ev {i : Nat} {Fa : Sm} {ρ : En} : augF i Fa ρ = (plGet ρ (.s i)).bind fun _ => (Fa ρ).bind fun q => (exR (.s i) q).map fun z => (.nx, z.2) := rfl
def exL (pl : Pl) (ds : List D) (ρ : En) : D → Option (R × En)
  | .lst xs => if xs.length + ds.length ≤ sizeLine then some (.fz .non, plSet ρ (.lst (xs ++ ds)) pl) else none
  | _ => none
@[simp] theorem exR_lst {pl : Pl} {ds : List D} {ρ : En} : exR pl (.nw (.ow (.lst ds)), ρ) = (plGet ρ pl).bind (exL pl ds ρ) := by
  show (plGet ρ pl).bind _ = _
  congr 1
@[simp] theorem exL_lst {pl : Pl} {ds xs : List D} {ρ : En} : exL pl ds ρ (.lst xs) = if xs.length + ds.length ≤ sizeLine then some (.fz .non, plSet ρ (.lst (xs ++ ds)) pl) else none := rfl
@[simp] theorem neE_nil {xs : List D} : neE (.lst xs) (.lst []) = some (.fz (.bl (!xs.isEmpty))) := rfl
end FL

set_option Elab.async false
set_option maxRecDepth 100000
set_option maxHeartbeats 2000000
namespace FL
open PySem PySem.Spec L2

/-! ### methods of texts with one argument -/
def sbn (g : Str → D → Option R) (Fa Fb : Sm) : Sm := fun ρ => (Fa ρ).bind fun p => match peek p.2 p.1 with
  | some (.str a) => (Fb p.2).bind fun q => (peek q.2 q.1).bind fun y => (g a y).map fun r => (r, q.2)
  | _ => none
theorem sbn_go {K : PySem.W.Frag} {g : Str → D → Option R} {Fa Fb : Sm} {σ : St} {H : Hp} {Q : VK} {r : V → List V → Hp → VK → Prop}
    (w : ∀ Z H a y dy r0 Q, Sub Z H → RdD K Z H y dy → g a dy = some r0 → (∀ z H', Out K Z H r0 z H' → Q z H') → r (.str a) [y] H Q) (h : tE K (sbn g Fa Fb) σ H Q) : tM1 r (tE K Fa) (tE K Fb) σ H Q := by
  obtain ⟨Z, ρ, fp, r0, ρ', gd, e, k⟩ := h
  obtain ⟨⟨r1, ρ1⟩, e1, e⟩ := Option.bind_eq_some_iff.mp e
  have hx : ∃ a, peek ρ1 r1 = some (.str a) ∧ ((Fb ρ1).bind fun q => (peek q.2 q.1).bind fun y => (g a y).map fun r => (r, q.2)) = some (r0, ρ') := by
    cases ep : peek ρ1 r1 with
    | none => simp only [ep] at e; cases e
    | some d =>
      simp only [ep] at e
      cases d with
      | str a => exact ⟨a, rfl, e⟩
      | _ => cases e
  obtain ⟨a, ea, e⟩ := hx
  obtain ⟨⟨r2, ρ2⟩, e2, e⟩ := Option.bind_eq_some_iff.mp e
  obtain ⟨y, e3, e⟩ := Option.bind_eq_some_iff.mp e
  obtain ⟨r', e4, e5⟩ := Option.map_eq_some_iff.mp e
  cases e5
  refine ⟨Z, ρ, fp, r1, ρ1, gd, e1, fun Z1 H1 v fp1 l g1 R1 n1 P1 => ?_⟩
  have hv : v = .str a := peek_ok g1 R1 ea
  subst hv
  refine ⟨⟨a, rfl⟩, Z1, ρ1, fp1, r2, ρ2, g1, e2, fun Z2 H2 z fp2 l2 g2 R2 n2 P2 => ?_⟩
  exact w Z2 H2 a z y _ Q g2.sub (peek_ok g2 R2 e3) e4 fun z H' o => kt_out k g2 ((P1.weak fun p q => .inl q).trans P2) (fun p q => .inl q) o
def partG (a : Str) : D → Option R
  | .str b => if (b.length == 0) = false ∧ a.length ≤ sizeLine then some (.fz (.tup [.str (Txt.partition a b).1, .str (Txt.partition a b).2.1, .str (Txt.partition a b).2.2])) else none
  | _ => none
def splitG (a : Str) : D → Option R
  | .str b => if (b.length == 0) = false ∧ a.length + 2 ≤ sizeLine then some (.nw (.ow (.lst ((Txt.split a b).map .str)))) else none
  | _ => none
def joinG (a : Str) : D → Option R
  | .lst ds => (strsOf ds).bind fun ys => if (ys.map (·.length)).sum + ys.length * a.length ≤ 16777216 then some (.fz (.str (Txt.join a ys))) else none
  | _ => none
def rmpG (a : Str) : D → Option R
  | .str b => if a.length ≤ sizeLine then some (.fz (.str (Txt.removeprefix a b))) else none
  | _ => none
theorem rep_strZ {K : PySem.W.Frag} {Z : Hp} : ∀ ys : List Str, RepL K Z (ys.map V.str) (ys.map D.str)
  | [] => .nil
  | y :: ys => .cons (.str y) (rep_strZ ys)
theorem strZ_rep {K : PySem.W.Frag} {Z : Hp} : ∀ {vs : List V} {ys : List Str}, RepL K Z vs (ys.map D.str) → vs = ys.map V.str
  | _, [], .nil => rfl
  | _, y :: ys, .cons h r => by
    cases h
    rw [strZ_rep r]; rfl
theorem ite_any {α : Type} {c : Prop} [Decidable c] {x : Option α} {y : α} (h : (if c then x else none) = some y) : c ∧ x = some y := by
  by_cases hc : c
  · rw [if_pos hc] at h; exact ⟨hc, h⟩
  · rw [if_neg hc] at h; cases h
section
variable {X : Cx} {o e : Expr} {Fo Fe : Sm} {apos pos : Pos}
theorem se_partition (ho : PE X o (tE X.K Fo)) (he : PE X e (tE X.K Fe)) (hs : starEach [e] X.env = [(false, eval e X.env)]) (hbase : attributeBase o "partition" X.env (eval o X.env) = eval o X.env) (hline : (apos.endLine == pos.line) = true) :
    PE X (.Call (.Attribute o "partition" apos) [e] [] pos) (tE X.K (sbn partG Fo Fe)) := pe_weak (pe_partition ho he hs hbase hline) fun σ H Q h => sbn_go (fun Z H a y dy r0 Q sb hd e k => by
  cases dy with
  | str b =>
    have hy : y = .str b := hd
    obtain ⟨c, e'⟩ := ite_some (show (if (b.length == 0) = false ∧ a.length ≤ sizeLine then some (R.fz (.tup [.str (Txt.partition a b).1, .str (Txt.partition a b).2.1, .str (Txt.partition a b).2.2])) else none) = some r0 from e)
    cases e'
    exact ⟨a, b, rfl, by rw [hy], c.1, c.2, fun p hp => k _ _ (.tup hp (.cons (.str _) (.cons (.str _) (.cons (.str _) .nil))))⟩
  | _ => cases e) h
theorem se_split (ho : PE X o (tE X.K Fo)) (he : PE X e (tE X.K Fe)) (hs : starEach [e] X.env = [(false, eval e X.env)]) (hbase : attributeBase o "split" X.env (eval o X.env) = eval o X.env) (hline : (apos.endLine == pos.line) = true) :
    PE X (.Call (.Attribute o "split" apos) [e] [] pos) (tE X.K (sbn splitG Fo Fe)) := pe_weak (pe_split ho he hs hbase hline) fun σ H Q h => sbn_go (fun Z H a y dy r0 Q sb hd e k => by
  cases dy with
  | str b =>
    have hy : y = .str b := hd
    obtain ⟨c, e'⟩ := ite_some (show (if (b.length == 0) = false ∧ a.length + 2 ≤ sizeLine then some (R.nw (.ow (.lst ((Txt.split a b).map .str)))) else none) = some r0 from e)
    cases e'
    exact ⟨a, b, rfl, by rw [hy], c.1, c.2, fun p hp => k _ _ (.new (o := .lst _) (d := .lst _) hp ⟨_, upd_same, rep_strZ _⟩)⟩
  | _ => cases e) h
theorem se_join (ho : PE X o (tE X.K Fo)) (he : PE X e (tE X.K Fe)) (hs : starEach [e] X.env = [(false, eval e X.env)]) (hbase : attributeBase o "join" X.env (eval o X.env) = eval o X.env) (hline : (apos.endLine == pos.line) = true) :
    PE X (.Call (.Attribute o "join" apos) [e] [] pos) (tE X.K (sbn joinG Fo Fe)) := pe_weak (pe_join ho he hs hbase hline) fun σ H Q h => sbn_go (fun Z H a y dy r0 Q sb hd e k => by
  cases dy with
  | lst ds =>
    obtain ⟨ys, e1, e2⟩ := Option.bind_eq_some_iff.mp (show ((strsOf ds).bind fun ys => if (ys.map (·.length)).sum + ys.length * a.length ≤ 16777216 then some (R.fz (.str (Txt.join a ys))) else none) = some r0 from e)
    obtain ⟨c, e'⟩ := ite_some e2
    cases e'
    obtain ⟨p, vs, hy, h1, h2⟩ := hd
    rw [strsOf_eq e1] at h2
    have hv := strZ_rep h2
    subst hv
    exact ⟨a, p, ys, rfl, by rw [hy], .inl h1, c, k _ _ (.same (.str _))⟩
  | _ => cases e) h
theorem se_rmprefix (ho : PE X o (tE X.K Fo)) (he : PE X e (tE X.K Fe)) (hs : starEach [e] X.env = [(false, eval e X.env)]) (hbase : attributeBase o "removeprefix" X.env (eval o X.env) = eval o X.env) (hline : (apos.endLine == pos.line) = true) :
    PE X (.Call (.Attribute o "removeprefix" apos) [e] [] pos) (tE X.K (sbn rmpG Fo Fe)) := pe_weak (pe_m1 F.slot_str_removeprefix F.type_str_removeprefix mt_removeprefix ho he hs hbase hline) fun σ H Q h => sbn_go (fun Z H a y dy r0 Q sb hd e k => by
  cases dy with
  | str b =>
    have hy : y = .str b := hd
    obtain ⟨c, e'⟩ := ite_some (show (if a.length ≤ sizeLine then some (R.fz (.str (Txt.removeprefix a b))) else none) = some r0 from e)
    cases e'
    exact ⟨a, b, rfl, by rw [hy], c, k _ _ (.same (.str _))⟩
  | _ => cases e) h
end

/-! ### str(int), int(str), text * int -/
def strF : D → Option R
  | .int i => if i.natAbs.log2 < 1920 then some (.fz (.str (toString i))) else none
  | _ => none
def intSF : D → Option R
  | .str a => if a.length ≤ 640 then (PySem.intText? a).map fun n => .fz (.int n) else none
  | _ => none
def mulSF : D → D → Option R
  | .str x, .int n => if 1 ≤ n ∧ n ≤ 1000 ∧ x.length ≤ 1000 then some (.fz (.str (Txt.mul x n))) else none
  | _, _ => none
section
variable {X : Cx}
theorem cd_str : CallD X (.type "str") (d1 strF) := by
  intro pins s σ H vs us Q Z ds r I rv sb hd e q
  obtain ⟨d, rfl, e⟩ := d1_some e
  cases hd with
  | cons h t =>
    cases t
    cases d with
    | int i =>
      have h' : _ = V.int i := h
      subst h'
      obtain ⟨c, e'⟩ := ite_some (show (if i.natAbs.log2 < 1920 then some (R.fz (.str (toString i))) else none) = some r from e)
      cases e'
      exact call_str_int pins s σ H _ us Q I rv ⟨i, rfl, c, q _ _ (.same (.str _))⟩
    | _ => cases e
theorem cd_intS : CallD X (.type "int") (d1 intSF) := by
  intro pins s σ H vs us Q Z ds r I rv sb hd e q
  obtain ⟨d, rfl, e⟩ := d1_some e
  cases hd with
  | cons h t =>
    cases t
    cases d with
    | str a =>
      have h' : _ = V.str a := h
      subst h'
      obtain ⟨c, e'⟩ := ite_any (show (if a.length ≤ 640 then (PySem.intText? a).map fun n => R.fz (.int n) else none) = some r from e)
      obtain ⟨n, e1, e2⟩ := Option.map_eq_some_iff.mp e'
      cases e2
      exact call_int_str pins s σ H _ us Q I rv ⟨a, n, rfl, e1, c, q _ _ (.same (.int _))⟩
    | _ => cases e
theorem mul_okS {x : Str} {n : Int} (h1 : 1 ≤ n) (h2 : n ≤ 1000) (h3 : x.length ≤ 1000) : MulOk x n := by
  refine ⟨?_, fun _ _ => ?_, fun _ _ => ?_⟩
  · have a : decide (n < -(2 ^ 63 : Int)) = false := decide_eq_false (by omega)
    have b : decide (n ≥ 2 ^ 63) = false := decide_eq_false (by omega)
    rw [a, b]; rfl
  · have z : (x.length : Int) ≤ (2 ^ 63 - 1) / n := by
      refine Int.le_ediv_of_mul_le (by omega) ?_
      have hx : (x.length : Int) ≤ 1000 := by omega
      have : (x.length : Int) * n ≤ 1000 * 1000 := Int.mul_le_mul hx h2 (by omega) (by omega)
      omega
    omega
  · have hn : n.toNat ≤ 1000 := by omega
    have : x.length * n.toNat ≤ 1000 * 1000 := Nat.mul_le_mul h3 hn
    unfold Builtin.Str.tooLong
    refine decide_eq_false ?_
    have hs : 1000 * 1000 ≤ sizeLine := by decide
    omega
theorem opd_mulS : OpD X (binaryOp .Mult) mulSF := by
  intro pins s σ H x y v u Q Z dx dy r I rx ry sb hx hy e q
  cases dx <;> cases dy <;> try (cases e; done)
  rename_i a n
  have hx' : x = .str a := hx
  have hy' : y = .int n := hy
  subst hx' hy'
  obtain ⟨c, e'⟩ := ite_some (show (if 1 ≤ n ∧ n ≤ 1000 ∧ a.length ≤ 1000 then some (R.fz (.str (Txt.mul a n))) else none) = some r from e)
  cases e'
  obtain ⟨t, rfl⟩ := rx
  obtain ⟨t2, rfl⟩ := ry
  exact PySem.SB.mul (mul_okS c.1 c.2.1 c.2.2) fun t' k => ⟨.str _, H, I.tok k, ⟨t', rfl⟩, q _ _ (.same (.str _))⟩
end

/-! ### a sign of a text -/
def sxD : D → D → Option R
  | .str z, .int i => if z.length ≤ sizeLine then (atI z.cps.toList i).map fun c => .fz (.str ⟨#[c]⟩) else none
  | _, _ => none
theorem se_sx {X : Cx} {a b : Expr} {Fa Fb : Sm} {pos : Pos} (ha : PE X a (tE X.K Fa)) (hb : PE X b (tE X.K Fb)) (hs : notSlice b = true) : PE X (.Subscript a b pos) (tE X.K (bin sxD Fa Fb)) := by
  refine pe_weak (pe_ix ix_str ha hb (plainIx hs)) ?_
  rintro σ H Q ⟨Z, ρ, fp, r, ρ2, g, h, k⟩
  obtain ⟨r1, r2, x, y, h1, h2, h3, h4⟩ := bin_some h
  refine two_go g h1 fun Z' H' v1 v2 fp' l1 l2 g' R1 R2 n1 n2 P => ?_
  have q1 := peek_ok g' R1 h2
  have q2 := peek_ok g' R2 h3
  cases x with
  | str z =>
    cases y with
    | int i =>
      obtain ⟨c, e⟩ := ite_any (show (if z.length ≤ sizeLine then (atI z.cps.toList i).map fun c => R.fz (.str ⟨#[c]⟩) else none) = some r from h4)
      obtain ⟨ch, e1, e2⟩ := Option.map_eq_some_iff.mp e
      cases e2
      exact ⟨z, i, ch, q1, q2, c, e1, kt_out k g' P (fun p q => .inl (.inl q)) (.same (.str _))⟩
    | _ => cases h4
  | _ => cases y <;> cases h4

/-! ### f-strings -/
def fmtD : D → Option Str
  | .str y => if y.length ≤ sizeLine then some y else none
  | .int i => if i.natAbs.log2 < 1920 then some (toString i) else none
  | _ => none
def fmtF (F : Sm) : Sm := fun ρ => (F ρ).bind fun p => (peek p.2 p.1).bind fun d => (fmtD d).map fun x => (.fz (.str x), p.2)
def jnF : List Sm → Str → En → Option (Str × En)
  | [], acc, ρ => some (acc, ρ)
  | F :: Fs, acc, ρ => (F ρ).bind fun p => match peek p.2 p.1 with
    | some (.str y) => if (acc ++ y).length ≤ sizeLine then jnF Fs (acc ++ y) p.2 else none
    | _ => none
def sjF (Fs : List Sm) : Sm := fun ρ => (jnF Fs Str.empty ρ).map fun p => (.fz (.str p.1), p.2)
section
variable {X : Cx} {e : Expr} {es : List Expr} {F : Sm} {Fs : List Sm} {pos : Pos}
theorem se_fmt (he : PE X e (tE X.K F)) : PE X (.FormattedValue e (-1) none pos) (tE X.K (fmtF F)) := pe_weak (pe_fmt he) fun σ H Q h => by
  obtain ⟨Z, ρ, fp, r, ρ', g, e, k⟩ := h
  obtain ⟨⟨r0, ρ1⟩, e1, e⟩ := Option.bind_eq_some_iff.mp e
  obtain ⟨d, e2, e⟩ := Option.bind_eq_some_iff.mp e
  obtain ⟨x, e3, e4⟩ := Option.map_eq_some_iff.mp e
  cases e4
  refine ⟨Z, ρ, fp, r0, ρ1, g, e1, fun Z1 H1 v fp1 l g1 R1 n1 P1 => ?_⟩
  have hd := peek_ok g1 R1 e2
  have out : Q (.str x) H1 := kt_out k g1 P1 (fun p q => .inl q) (.same (.str x))
  cases d with
  | str y =>
    obtain ⟨c, e'⟩ := ite_some (show (if y.length ≤ sizeLine then some y else none) = some x from e3)
    cases e'
    exact .inl ⟨_, hd, c, out⟩
  | int i =>
    obtain ⟨c, e'⟩ := ite_some (show (if i.natAbs.log2 < 1920 then some (toString i : Str) else none) = some x from e3)
    cases e'
    exact .inr ⟨i, hd, c, out⟩
  | _ => cases e3
theorem sj_nil : PJ X [] (([] : List Sm).map fun F => tE X.K F) := .nil
theorem sj_cons (h : PE X e (tE X.K F)) (r : PJ X es (Fs.map fun F => tE X.K F)) : PJ X (e :: es) ((F :: Fs).map fun F => tE X.K F) := .cons h r
theorem jn_go {K : PySem.W.Frag} {σ : St} {Q : Str → Hp → Prop} : ∀ {Fs : List Sm} {acc x : Str} {ρ ρ' : En} {Z H : Hp} {fp : Nat → List Addr}, Good K Z H σ ρ fp → jnF Fs acc ρ = some (x, ρ') → (∀ Z' H' fp', Good K Z' H' σ ρ' fp' → Post Z H (E fp) Z' H' (E fp') → Q x H') → tJs (Fs.map fun F => tE K F) acc σ H Q
  | [], acc, x, ρ, ρ', Z, H, fp, g, e, k => by
    cases e
    exact k Z H fp g Post.refl
  | F :: Fs, acc, x, ρ, ρ', Z, H, fp, g, e, k => by
    obtain ⟨⟨r0, ρ1⟩, e1, e⟩ := Option.bind_eq_some_iff.mp e
    refine ⟨Z, ρ, fp, r0, ρ1, g, e1, fun Z1 H1 v fp1 l g1 R1 n1 P1 => ?_⟩
    cases ep : peek ρ1 r0 with
    | none => simp only [ep] at e; cases e
    | some d =>
      simp only [ep] at e
      cases d with
      | str y =>
        obtain ⟨c, e'⟩ := ite_any (show (if (acc ++ y).length ≤ sizeLine then jnF Fs (acc ++ y) ρ1 else none) = some (x, ρ') from e)
        have P1' : Post Z H (E fp) Z1 H1 (E fp1) := P1.weak fun p q => .inl q
        exact ⟨y, peek_ok g1 R1 ep, c, jn_go g1 e' fun Z' H' fp' g' P' => k Z' H' fp' g' (P1'.trans P')⟩
      | _ => cases e
theorem se_joined {v1 v2 : Expr} {rest : List Expr} (h : PJ X (v1 :: v2 :: rest) (Fs.map fun F => tE X.K F)) : PE X (.JoinedStr (v1 :: v2 :: rest) pos) (tE X.K (sjF Fs)) := pe_weak (pe_joined h) fun σ H Q h => by
  obtain ⟨Z, ρ, fp, r, ρ', g, e, k⟩ := h
  obtain ⟨⟨x, ρ1⟩, e1, e2⟩ := Option.map_eq_some_iff.mp e
  cases e2
  exact jn_go g e1 fun Z' H' fp' g' P' => kt_out k g' P' (fun p q => q) (.same (.str x))
end
end FL

set_option Elab.async false
set_option maxRecDepth 100000
set_option maxHeartbeats 2000000
namespace FL
open PySem PySem.Spec L2

/-! ### an owned dict that is frozen while an expression runs only -/
def flatD : D → Bool
  | .lst ds => ds.all scal
  | .tup ds => ds.all scal
  | d => scal d
def flatT : Option T → Bool
  | none => true
  | some (.fz d) => flatD d
  | some (.ow d) => flatD d
  | some .mv => true
  | _ => false
def flatR : R → Bool
  | .fz d => flatD d
  | .nw (.ow d) => flatD d
  | _ => false
def borF (i : Nat) (F : Sm) : Sm := fun ρ => match ρ.getD i none with
  | some (.ow (.dic kds)) => (F (ρ.set i (some (.fz (.dic kds))))).bind fun p => match p.2.getD i none with
    | some (.fz (.dic _)) => if flatR p.1 = true ∧ (p.2.set i none).all flatT = true then some (p.1, p.2.set i (some (.ow (.dic kds)))) else none
    | _ => none
  | _ => none
section
variable {K : PySem.W.Frag} {Z Z' H H' : Hp} {a : Addr}
theorem rep_scalL : ∀ {vs : List V} {ds : List D}, ds.all scal = true → RepL K Z vs ds → RepL K Z' vs ds
  | _, _, _, .nil => .nil
  | _, _, e, .cons h r => by
    rw [List.all_cons, Bool.and_eq_true] at e
    exact .cons (scal_rep e.1 h) (rep_scalL e.2 r)
/-- all but a -/
def but (Z : Hp) (a : Addr) : Hp := fun b => if b = a then none else Z b
theorem but_at : but Z a a = none := if_pos rfl
theorem but_ne {b : Addr} (h : b ≠ a) : but Z a b = Z b := if_neg h
theorem rep_but {v : V} {d : D} {kvs : List (Key × V)} (ha : Z a = some (.dK kvs)) (f : flatD d = true) (h : Rep K Z v d) : Rep K (but Z a) v d := by
  cases h with
  | non => exact .non
  | bl b => exact .bl b
  | int i => exact .int i
  | str x => exact .str x
  | @lst b vs ds h r =>
    refine .lst ?_ (rep_scalL f r)
    rcases h with (h | ⟨o, h⟩) | h
    · refine .inl (.inl ?_)
      rw [but_ne (fun e => by rw [e, ha] at h; cases h)]; exact h
    · refine .inl (.inr ⟨o, ?_⟩)
      rw [but_ne (fun e => by rw [e, ha] at h; cases h)]; exact h
    · exact .inr h
  | @tup b vs ds h r =>
    refine .tup ?_ (rep_scalL f r)
    rw [but_ne (fun e => by rw [e, ha] at h; cases h)]; exact h
  | dic h r => cases f
  | dit h r => cases f
theorem owtop_but {b : Addr} {d : D} (f : flatD d = true) (h : OwTop K Z H b d) : OwTop K Z' H b d := by
  cases d with
  | lst ds => obtain ⟨vs, h1, h2⟩ := h; exact ⟨vs, h1, rep_scalL f h2⟩
  | dic ds => cases f
  | dit ds => cases f
  | _ => exact h.elim
theorem but_none {b : Addr} (h : Z b = none) : but Z a b = none := by
  unfold but
  split
  · rfl
  · exact h
theorem ownT_but {v : V} {t : T} {l : List Addr} {kvs : List (Key × V)} (ha : Z a = some (.dK kvs)) (f : flatT (some t) = true) (h : OwnT K Z H v t l) : OwnT K (but Z a) H v t l := by
  cases t with
  | fz d => exact ⟨rep_but ha f h.1, h.2⟩
  | ow d =>
    obtain ⟨b, e1, e2, e3, e4⟩ := (show ∃ a, v = .ref a ∧ l = [a] ∧ Z a = none ∧ OwTop K Z H a d from h)
    exact ⟨b, e1, e2, but_none e3, owtop_but f e4⟩
  | mv => exact (show l = [] from h)
  | _ => cases f
theorem rr_but {σ : St} {v : V} {r : R} {l : List Addr} {kvs : List (Key × V)} (ha : Z a = some (.dK kvs)) (f : flatR r = true) (h : RR K Z H σ v r l) : RR K (but Z a) H σ v r l := by
  cases r with
  | fz d => exact ⟨rep_but ha f h.1, h.2⟩
  | nw t =>
    cases t with
    | ow d => exact ownT_but ha (t := .ow d) f h
    | _ => cases f
  | _ => cases f
theorem bor_go {F : Sm} {i : Nat} {σ : St} {Q : VK} (h : tE K (borF i F) σ H Q) :
    ∃ Z ρ fp kds a kvs r ρ', Good K Z H σ ρ fp ∧ F ρ = some (r, ρ') ∧ Kt K Z H fp σ ρ' r Q ∧ ρ.getD i none = some (.fz (.dic kds)) ∧ σ.getD i none = some (.ref a) ∧ Z a = some (.dK kvs) ∧ RepK K Z kvs kds ∧ H a = some (.dK kvs) ∧ ¬ E fp a := by
  obtain ⟨Z, ρ, fp, r, ρ3, g, e, k⟩ := h
  unfold borF at e
  cases q : ρ.getD i none with
  | none => rw [q] at e; cases e
  | some t =>
    rw [q] at e
    cases t with
    | ow d =>
      cases d with
      | dic kds =>
        obtain ⟨⟨r1, ρ1⟩, e1, e⟩ := Option.bind_eq_some_iff.mp e
        obtain ⟨v, hv, ow⟩ := g.at q
        obtain ⟨a, rfl, hl, za, kvs, ha, rk⟩ := (show ∃ a, v = .ref a ∧ fp i = [a] ∧ Z a = none ∧ ∃ kvs, H a = some (.dK kvs) ∧ RepK K Z kvs kds from ow)
        have hi := lt_of_getD q
        have s01 : Same Z (upd Z a (.dK kvs)) := upd_keep za
        have hai : a ∈ fp i := by rw [hl]; exact List.mem_cons_self
        have E1 : ∀ p, E (fun j => if j = i then [] else fp j) p → E fp p ∧ p ≠ a := fun p ⟨j, hj⟩ => by
          have hj : p ∈ (if j = i then [] else fp j) := hj
          by_cases c : j = i
          · rw [if_pos c] at hj; cases hj
          · rw [if_neg c] at hj
            exact ⟨⟨j, hj⟩, fun z => c (g.disj j i a (by rw [← z]; exact hj) hai)⟩
        have g1 : Good K (upd Z a (.dK kvs)) H σ (ρ.set i (some (.fz (.dic kds)))) (fun j => if j = i then [] else fp j) := by
          refine ⟨by rw [List.length_set]; exact g.len, fun b u hb => ?_, fun j => ?_, fun j j' p h1 h2 => ?_, ⟨g.tz.ts, g.tz.no.upd fun ps z => by cases z⟩⟩
          · by_cases c : b = a
            · rw [c, upd_same] at hb; cases hb; rw [c]; exact .inl ha
            · rw [upd_ne c] at hb; exact g.sub b u hb
          · rw [getD_set]
            by_cases ej : i = j
            · rw [if_pos ⟨ej, hi⟩, ← ej, hv, if_pos rfl]
              exact ⟨.dic upd_same (rk.mono s01), rfl⟩
            · rw [if_neg (fun z => ej z.1), if_neg (fun z => ej z.symm)]
              have sl := g.slot j
              cases h1 : σ.getD j none with
              | none =>
                rw [h1] at sl
                cases h2 : ρ.getD j none with
                | none => rw [h2] at sl; exact sl
                | some t => rw [h2] at sl; exact sl.elim
              | some x =>
                rw [h1] at sl
                cases h2 : ρ.getD j none with
                | none => rw [h2] at sl; exact sl.elim
                | some t =>
                  rw [h2] at sl
                  refine OwnT.mono s01 (fun p hp o e => e) (fun p hp => ?_) sl
                  rw [upd_ne (fun z => ej (g.disj i j a hai (by rw [← z]; exact hp)))]
                  exact (OwnT.there sl p hp).2
          · have h1' : p ∈ (if j = i then [] else fp j) := h1
            have h2' : p ∈ (if j' = i then [] else fp j') := h2
            by_cases c : j = i
            · rw [if_pos c] at h1'; cases h1'
            · by_cases c' : j' = i
              · rw [if_pos c'] at h2'; cases h2'
              · rw [if_neg c] at h1'; rw [if_neg c'] at h2'; exact g.disj j j' p h1' h2'
        refine ⟨_, _, _, kds, a, kvs, r1, ρ1, g1, e1, ?_, by rw [getD_set, if_pos ⟨rfl, hi⟩], hv, upd_same, rk.mono s01, ha, fun z => (E1 a z).2 rfl⟩
        intro Z2 H2 v fp2 l g2 R2 n2 P2
        have e' : (match ρ1.getD i none with
          | some (.fz (.dic _)) => if flatR r1 = true ∧ (ρ1.set i none).all flatT = true then some (r1, ρ1.set i (some (.ow (.dic kds)))) else none
          | _ => none) = some (r, ρ3) := e
        cases q1 : ρ1.getD i none with
        | none => rw [q1] at e'; cases e'
        | some t1 =>
          rw [q1] at e'
          cases t1 with
          | fz d1 =>
            cases d1 with
            | dic kds1 =>
              obtain ⟨⟨fr, ft⟩, e2⟩ := ite_any (show (if flatR r1 = true ∧ (ρ1.set i none).all flatT = true then some (r1, ρ1.set i (some (.ow (.dic kds)))) else none) = some (r, ρ3) from e')
              cases e2
              have z2a : Z2 a = some (.dK kvs) := P2.zz _ _ upd_same
              have h2a : H2 a = some (.dK kvs) := P2.fr a _ ha (fun z => (E1 a z).2 rfl) fun ps z => by cases z
              have nf : ¬ E fp2 a := fun z => by
                have y := (g2.there z).2
                rw [z2a] at y; cases y
              have nl : a ∉ l := fun z => by
                have y := (R2.there a z).2
                rw [z2a] at y; cases y
              have hi1 := lt_of_getD q1
              have s02 : Same Z (but Z2 a) := fun b u hb => by
                rw [but_ne (fun z => by rw [z, za] at hb; cases hb)]
                exact P2.zz _ _ (s01 _ _ hb)
              have g3 : Good K (but Z2 a) H2 σ (ρ1.set i (some (.ow (.dic kds)))) (fun j => if j = i then [a] else fp2 j) := by
                refine ⟨by rw [List.length_set]; exact g2.len, fun b u hb => ?_, fun j => ?_, fun j j' p h1 h2 => ?_, ⟨g2.tz.ts, fun b ps hb => ?_⟩⟩
                · by_cases c : b = a
                  · rw [c, but_at] at hb; cases hb
                  · rw [but_ne c] at hb; exact g2.sub b u hb
                · rw [getD_set]
                  by_cases ej : i = j
                  · rw [if_pos ⟨ej, hi1⟩, ← ej, hv, if_pos rfl]
                    exact ⟨a, rfl, rfl, but_at, kvs, h2a, rk.mono s02⟩
                  · rw [if_neg (fun z => ej z.1), if_neg (fun z => ej z.symm)]
                    have sl := g2.slot j
                    cases h1 : σ.getD j none with
                    | none =>
                      rw [h1] at sl
                      cases h2 : ρ1.getD j none with
                      | none => rw [h2] at sl; exact sl
                      | some t => rw [h2] at sl; exact sl.elim
                    | some x =>
                      rw [h1] at sl
                      cases h2 : ρ1.getD j none with
                      | none => rw [h2] at sl; exact sl.elim
                      | some t =>
                        rw [h2] at sl
                        refine ownT_but z2a ?_ sl
                        have hm : (some t) ∈ ρ1.set i none := by
                          have hj : (ρ1.set i none).getD j none = some t := by
                            rw [getD_set, if_neg (fun z => ej z.1)]; exact h2
                          have hlt := lt_of_getD hj
                          rw [List.getD_eq_getElem?_getD, List.getElem?_eq_getElem hlt] at hj
                          have hj' : (ρ1.set i none)[j] = some t := hj
                          rw [← hj']
                          exact List.getElem_mem hlt
                        exact List.all_eq_true.mp ft _ hm
                · have h1' : p ∈ (if j = i then [a] else fp2 j) := h1
                  have h2' : p ∈ (if j' = i then [a] else fp2 j') := h2
                  by_cases c : j = i
                  · by_cases c' : j' = i
                    · rw [c, c']
                    · rw [if_pos c] at h1'; rw [if_neg c'] at h2'
                      rw [List.mem_singleton.mp h1'] at h2'
                      exact (nf ⟨j', h2'⟩).elim
                  · by_cases c' : j' = i
                    · rw [if_neg c] at h1'; rw [if_pos c'] at h2'
                      rw [List.mem_singleton.mp h2'] at h1'
                      exact (nf ⟨j, h1'⟩).elim
                    · rw [if_neg c] at h1'; rw [if_neg c'] at h2'; exact g2.disj j j' p h1' h2'
                · by_cases c : b = a
                  · rw [c, but_at] at hb; cases hb
                  · rw [but_ne c] at hb; exact g2.tz.no b ps hb
              have E3 : ∀ p, E (fun j => if j = i then [a] else fp2 j) p → p = a ∨ E fp2 p := fun p ⟨j, hj⟩ => by
                have hj : p ∈ (if j = i then [a] else fp2 j) := hj
                by_cases c : j = i
                · rw [if_pos c] at hj; exact .inl (List.mem_singleton.mp hj)
                · rw [if_neg c] at hj; exact .inr ⟨j, hj⟩
              refine k (but Z2 a) H2 v _ l g3 (rr_but z2a fr R2) (fun p hp z => ?_) ⟨s02, fun p o h n t => P2.fr p o h (fun z => n (E1 p z).1) t, fun p q => ?_, fun p o h => ?_, P2.ic, P2.tb⟩
              · rcases E3 p z with y | y
                · rw [y] at hp; exact nl hp
                · exact n2 p hp y
              · rcases q with q | q
                · rcases E3 p q with y | y
                  · exact .inl ⟨i, by rw [y]; exact hai⟩
                  · exact (P2.nw p (.inl y)).imp_left fun z => (E1 p z).1
                · exact (P2.nw p (.inr q)).imp_left fun z => (E1 p z).1
              · by_cases c : p = a
                · rw [c, but_at] at h; cases h
                · rw [but_ne c] at h
                  rcases P2.zn p o h with y | y | y
                  · rw [upd_ne c] at y; exact .inl y
                  · exact .inr (.inl (E1 p y).1)
                  · exact .inr (.inr y)
            | _ => cases e'
          | _ => cases e'
      | _ => cases e
    | _ => cases e
end
section
variable {X : Cx} {elt tg : Expr} {ifs : List Expr} {scope : Scope} {own : List (Str × Nat)} {pos p : Pos} {g : Tg} {Ft : Option Sm} {Fe : Sm} {kp : Nat → Bool}
/-- name = [.. for .. in a dict], the dict as it was behind it -/
theorem ss_setLcB {i j : Nat} {x y : Str} {py spos : Pos} (hc : X.calm = true) (hN : X.N.Nodup) (hy : X.N[j]? = some y) (hyl : X.env.scope.names.lookup y = some .local) (kj : kp j = false)
    (hsw : swapsWith (.ListComp elt [⟨tg, .Name x p, ifs, 0⟩] scope pos) (some (.Name y py)) spos.line X.env = pure true) (hv : PE X (.Name x p) (tVar i)) (ok : blkC X.N X.env.scope scope own = true)
    (hg : InBlk X scope fun Y => PG Y tg (tGd X.K (kpv (own.map (·.2))) g)) (ht : InBlk X scope fun Y => PTs Y ifs (tTo X.K Ft)) (he : InBlk X scope fun Y => PE Y elt (tE X.K Fe)) :
    PS X (.Assign [.Name y py] (.ListComp elt [⟨tg, .Name x p, ifs, 0⟩] scope pos) spos) (tS X.K kp (setF j (borF i (lcF (own.map (·.2)) (itN .keys i) g Ft Fe)))) := by
  have h := ps_setLc hc hN hy hyl hsw (pi_keys hv) (blkOk_by ok) hg ht he (hs := fun _ => rfl)
  refine ps_weak (ps_lock h) fun D σ H q => ?_
  obtain ⟨Z1, ρ1, fp1, kds, a, kvs, r, ρ', g1, e2, k1, er, ev, ez, rk, hH, na⟩ := bor_go (set_go kj q)
  refine ⟨a, _, hH, True.intro, fun od => ?_⟩
  refine lcD_go (w := .keys) (i := i) (lock_in g1 ez mu_dK) e2 ?_ ⟨a, od, kvs, kds, er, ev, ez, rk, upd_same⟩
  have hni : ∀ C dx fs, HO.dK kvs ≠ .ins C dx fs := fun C dx fs z => by cases z
  intro Z' H' v fp' l g' R' n' P'
  have zz := P'.zz _ _ ez
  have hl : H' a = some (.frz od (.dK kvs)) := P'.fr _ _ upd_same na (fun ps z => by cases z)
  exact ⟨hl, k1 Z' _ v fp' l (lock_out g' zz mu_dK.2) (lock_rr R' zz fun C dx fs z => by rw [hl] at z; cases z) n' (lock_post P' hH hni mu_dK.2 na)⟩
end
end FL

set_option Elab.async false
set_option maxRecDepth 100000
set_option maxHeartbeats 2000000
namespace FL
open PySem PySem.Spec L2

/-! ### a list of new lists and dicts -/
def owsR : List R → Option (List D)
  | [] => some []
  | .nw (.ow d) :: rs => (owsR rs).map (d :: ·)
  | _ :: _ => none
def lsF (Fs : List Sm) : Sm := fun ρ => (seqs Fs ρ).bind fun p => (owsR p.1).bind fun ds => if ds.length < 100 then some (.nw (.ls ds), p.2) else none
section
variable {K : PySem.W.Frag} {Z Z' H H' : Hp} {σ : St} {ρ ρ' : En} {fp fp' : Nat → List Addr}
theorem owsR_own : ∀ {rs : List R} {vs : List V} {l : List Addr} {ds : List D}, RRs K Z H σ vs rs l → owsR rs = some ds → OwnI K Z H vs ds l
  | [], _, _, _, .nil, e => by cases e; exact .nil
  | r :: rs, _, _, ds, .cons (l := l1) (ls := ls) h hr nd, e => by
    cases r with
    | nw t =>
      cases t with
      | ow d =>
        obtain ⟨ds', e1, e2⟩ := Option.map_eq_some_iff.mp (show (owsR rs).map (d :: ·) = some ds from e)
        cases e2
        obtain ⟨a, rfl, rfl, za, ow⟩ := (show ∃ a, _ = V.ref a ∧ l1 = [a] ∧ Z a = none ∧ OwTop K Z H a d from h)
        exact .cons za ow (nd a List.mem_cons_self) (owsR_own hr e1)
      | _ => cases e
    | _ => cases e
theorem OwnI.length : ∀ {vs : List V} {ds : List D} {l : List Addr}, OwnI K Z H vs ds l → vs.length = ds.length
  | _, _, _, .nil => rfl
  | _, _, _, .cons _ _ _ r => congrArg (· + 1) (OwnI.length r)
/-- an item, and what it may become -/
theorem OwnI.at : ∀ {vs : List V} {ds : List D} {l : List Addr} {c : Nat} {d : D}, OwnI K Z H vs ds l → ds[c]? = some d → ∃ q, vs[c]? = some (V.ref q) ∧ q ∈ l ∧ Z q = none ∧ OwTop K Z H q d ∧ ∀ ho new, OwTop K Z (upd H q ho) q new → OwnI K Z (upd H q ho) vs (ds.set c new) l
  | _, _, _, _, _, .nil, e => by simp at e
  | _, _, _, 0, d, .cons (q := q) (ls := ls) zq h n r, e => by
    simp at e
    subst e
    refine ⟨q, rfl, List.mem_cons_self, zq, h, fun ho new on => .cons zq on n (r.mono (Same.refl _) (fun p hp o e => ?_) fun p hp => (r.there p hp).2)⟩
    rw [upd_ne (fun z => n (by rw [← z]; exact hp))]; exact e
  | _, _, _, c + 1, d, .cons (q := q0) (ls := ls) zq h n r, e => by
    obtain ⟨q, h1, h2, h3, h4, h5⟩ := OwnI.at (c := c) r (by simpa using e)
    refine ⟨q, by simpa using h1, List.mem_cons_of_mem _ h2, h3, h4, fun ho new on => .cons zq (h.mono (Same.refl _) fun o eo => ?_) n (h5 ho new on)⟩
    rw [upd_ne (fun z => n (by rw [z]; exact h2))]; exact eo
/-- read as frozen -/
theorem OwnI.rep {l : List Addr} (hz : ∀ b, b ∈ l → Z' b = H b) (s : Same Z Z') {vs : List V} {ds : List D} {m : List Addr} (h : OwnI K Z H vs ds m) : (∀ b ∈ m, b ∈ l) → RepL K Z' vs ds := by
  induction h with
  | nil => exact fun _ => .nil
  | @cons q d vs ds ls zq h n r ih =>
    intro hm
    have eq := hz q (hm q List.mem_cons_self)
    refine .cons ?_ (ih fun b hb => hm b (List.mem_cons_of_mem _ hb))
    cases d with
    | lst ds => obtain ⟨vs, h1, h2⟩ := h; exact .lst (SqL.of (eq.trans h1)) (h2.mono s)
    | dic ds => obtain ⟨vs, h1, h2⟩ := h; exact .dic (eq.trans h1) (h2.mono s)
    | dit ds => obtain ⟨vs, h1, h2⟩ := h; exact .dit (eq.trans h1) (h2.mono s)
    | _ => exact h.elim
end
section
variable {X : Cx} {es : List Expr} {Fs : List Sm} {pos : Pos}
theorem se_ls (h : PA X es (tA X.K Fs)) : PE X (.List es pos) (tE X.K (lsF Fs)) := pe_weak (pe_lst h) fun σ H Q q => by
  obtain ⟨Z, ρ, fp, r, ρ3, g, e, k⟩ := q
  obtain ⟨⟨rs, ρ1⟩, h1, e⟩ := Option.bind_eq_some_iff.mp e
  obtain ⟨ds, h2, e⟩ := Option.bind_eq_some_iff.mp e
  obtain ⟨hl, e'⟩ := ite_some (show (if ds.length < 100 then some (R.nw (.ls ds), ρ1) else none) = some (r, ρ3) from e)
  cases e'
  refine ⟨Z, ρ, fp, rs, _, g, h1, fun Z1 H1 vs fp1 l g1 R1 n1 P1 => ?_⟩
  have ow := owsR_own R1 h2
  refine ⟨by rw [ow.length]; exact Nat.le_trans (Nat.le_of_lt hl) (by decide), fun p hp => ?_⟩
  have hz := g1.sub.none hp
  have npl : p ∉ l := fun z => by
    obtain ⟨⟨o, ho, _⟩, _⟩ := ow.there p z
    rw [hp] at ho; cases ho
  refine k Z1 (upd H1 p (.lst vs)) (.ref p) fp1 (p :: l) (g1.new hp) ⟨p, vs, l, rfl, rfl, hz, npl, upd_same, ow.mono (Same.refl _) (fun q hq o e => upd_keep hp _ _ e) fun q hq => (ow.there q hq).2⟩ (fun y hy => ?_) ?_
  · rcases List.mem_cons.mp hy with e | hy
    · intro z
      obtain ⟨⟨o, ho, _⟩, _⟩ := g1.there z
      rw [e, hp] at ho; cases ho
    · exact n1 y hy
  · refine (P1.trans (Post.new hp)).weak fun y q => ?_
    rcases q with q | q
    · exact .inl (.inl q)
    · rcases List.mem_cons.mp q with q | q
      · exact .inr (by rw [q]; exact List.mem_cons_self)
      · exact .inl (.inr q)

/-! its repr -/
def rpL (i : Nat) : Sm := fun ρ => match ρ.getD i none with
  | some (.ls ds) => (reprF (.lst ds)).map fun r => (r, ρ)
  | _ => none
theorem se_reprLs {x : Str} {i : Nat} {p px pos : Pos} (hgd : X.A.guards = some []) (hu : X.A.units + 200 < cLine) (hg : Gl X "repr") (hm : X.mg "repr" = none) (hv : bootBuiltins "repr" = some (.builtin "repr")) (hx : PE X (.Name x px) (tVar i)) :
    PE X (.Call (.Name "repr" p) [.Name x px] [] pos) (tE X.K (rpL i)) := by
  refine pe_weak (pe_callB (r := fun vs H Q => ∃ Z ds r, Sub Z H ∧ RdL X.K Z H vs ds ∧ d1 reprF ds = some r ∧ ∀ z H', Out X.K Z H r z H' → Q z H') (fun pins s σ H vs us Q I rv ⟨Z, ds, r, q1, q2, q3, q4⟩ => cd_repr hgd hu pins s σ H vs us Q Z ds r I rv q1 q2 q3 q4) hg hm hv (pa_cons hx pa_nil rfl) (by decide) (by decide) rfl rfl) ?_
  rintro σ H Q ⟨Z, ρ, fp, r, ρ3, g, e, k⟩
  unfold rpL at e
  cases q : ρ.getD i none with
  | none => rw [q] at e; cases e
  | some t =>
    rw [q] at e
    cases t with
    | ls ds =>
      obtain ⟨r', e1, e2⟩ := Option.map_eq_some_iff.mp (show (reprF (.lst ds)).map (fun r => (r, ρ)) = some (r, ρ3) from e)
      cases e2
      obtain ⟨ok, e3⟩ := ite_some (show (if shOk (.lst ds) = true then some (R.fz (.str (shD (.lst ds)))) else none) = some r from e1)
      cases e3
      obtain ⟨v, hv1, ow⟩ := g.at q
      obtain ⟨a, vs, ls, rfl, hl, za, na, ha1, oi⟩ := (show ∃ a vs ls, v = V.ref a ∧ fp i = a :: ls ∧ Z a = none ∧ a ∉ ls ∧ H a = some (.lst vs) ∧ OwnI X.K Z H vs ds ls from ow)
      have sm : Same Z (fun b => if b ∈ ls then H b else Z b) := fun b u hb => by
        show (if b ∈ ls then H b else Z b) = some u
        rw [if_neg (fun z => by rw [(oi.there b z).2] at hb; cases hb)]; exact hb
      refine ⟨.ref a, getD_get hv1, fun b => if b ∈ ls then H b else Z b, [.lst ds], _, fun b u hb => ?_, .cons ⟨a, vs, rfl, SqL.of ha1, OwnI.rep (l := ls) (fun b hb => if_pos hb) sm oi (fun b hb => hb)⟩ .nil, e1, fun z H' o => ?_⟩
      · have hb' : (if b ∈ ls then H b else Z b) = some u := hb
        by_cases c : b ∈ ls
        · rw [if_pos c] at hb'; exact .inl hb'
        · rw [if_neg c] at hb'; exact g.sub b u hb'
      · cases o with
        | same h =>
          cases h
          exact kt_out k g Post.refl (fun p q => q) (.same (.str _))
    | _ => cases e

/-! an item's method -/
def itF (i c : Nat) (f : D → Option D) : Sm := fun ρ => match ρ.getD i none with
  | some (.ls ds) => (ds[c]?).bind fun d => (f d).map fun new => (.fz .non, ρ.set i (some (.ls (ds.set c new))))
  | _ => none
theorem put_ls {K : PySem.W.Frag} {Z H : Hp} {σ : St} {ρ : En} {fp : Nat → List Addr} {i : Nat} {ds ds' : List D} {a q : Addr} {vs : List V} {ls : List Addr} {ho : HO} (g : Good K Z H σ ρ fp) (ei : ρ.getD i none = some (.ls ds)) (es : σ.getD i none = some (.ref a)) (hl : fp i = a :: ls) (za : Z a = none) (na : a ∉ ls) (ha : H a = some (.lst vs)) (hq : q ∈ ls) (zq : Z q = none) (ni : ∀ C dx fs, H q ≠ some (.ins C dx fs)) (on : OwnI K Z (upd H q ho) vs ds' ls) :
    Good K Z (upd H q ho) σ (ρ.set i (some (.ls ds'))) fp ∧ Post Z H (E fp) Z (upd H q ho) (E fp) := by
  have hq1 : q ∈ fp i := by rw [hl]; exact List.mem_cons_of_mem _ hq
  have tk : TbK H (upd H q ho) := by
    obtain ⟨⟨o, e, m⟩, _⟩ := g.there ⟨i, hq1⟩
    exact .at e m.2
  refine ⟨⟨by rw [List.length_set]; exact g.len, fun b u hb => ?_, fun j => ?_, g.disj, ⟨tk.ts _ g.tz.ts, g.tz.no⟩⟩, ⟨Same.refl _, fun p o hp n _ => ?_, fun p q => .inl q, fun p o q => .inl q, fun b C dx fv hb => ?_, tk⟩⟩
  · have nb : b ≠ q := fun y => by rw [y, zq] at hb; cases hb
    rcases g.sub b u hb with z | ⟨⟨o, z⟩, m⟩
    · exact .inl (by rw [upd_ne nb]; exact z)
    · exact .inr ⟨⟨o, by rw [upd_ne nb]; exact z⟩, m⟩
  · rw [getD_set]
    by_cases ej : i = j
    · rw [if_pos ⟨ej, lt_of_getD ei⟩, ← ej, es]
      exact ⟨a, vs, ls, rfl, hl, za, na, by rw [upd_ne (fun z => na (by rw [z]; exact hq))]; exact ha, on⟩
    · rw [if_neg (fun q => ej q.1)]
      have sl := g.slot j
      have nq : q ∉ fp j := fun y => ej (g.disj i j q hq1 y)
      cases h1 : σ.getD j none with
      | none =>
        rw [h1] at sl
        cases h2 : ρ.getD j none with
        | none => rw [h2] at sl; exact sl
        | some t => rw [h2] at sl; exact sl.elim
      | some x =>
        rw [h1] at sl
        cases h2 : ρ.getD j none with
        | none => rw [h2] at sl; exact sl.elim
        | some t =>
          rw [h2] at sl
          exact OwnT.mono (Same.refl _) (fun p hp o e => by rw [upd_ne (fun y => nq (by rw [← y]; exact hp))]; exact e) (fun p hp => (OwnT.there sl p hp).2) sl
  · rw [upd_ne (fun y => n ⟨i, by rw [y]; exact hq1⟩)]; exact hp
  · have nb : b ≠ q := fun y => by rw [y] at hb; exact ni _ _ _ hb
    exact ⟨fv, by rw [upd_ne nb]; exact hb, fun f v q => q⟩
/-- the item's place in the heap -/
theorem ls_at {K : PySem.W.Frag} {Z H : Hp} {σ : St} {ρ : En} {fp : Nat → List Addr} {i c : Nat} {ds : List D} {d : D} (g : Good K Z H σ ρ fp) (ei : ρ.getD i none = some (.ls ds)) (ec : ds[c]? = some d) :
    ∃ a vs q, σ.getD i none = some (.ref a) ∧ H a = some (.lst vs) ∧ vs[c]? = some (.ref q) ∧ OwTop K Z H q d ∧ ∀ ho new, OwTop K Z (upd H q ho) q new → Good K Z (upd H q ho) σ (ρ.set i (some (.ls (ds.set c new)))) fp ∧ Post Z H (E fp) Z (upd H q ho) (E fp) := by
  obtain ⟨v, hv, ow⟩ := g.at ei
  obtain ⟨a, vs, ls, rfl, hl, za, na, ha, oi⟩ := (show ∃ a vs ls, v = V.ref a ∧ fp i = a :: ls ∧ Z a = none ∧ a ∉ ls ∧ H a = some (.lst vs) ∧ OwnI K Z H vs ds ls from ow)
  obtain ⟨q, h1, h2, h3, h4, h5⟩ := oi.at ec
  refine ⟨a, vs, q, hv, ha, h1, h4, fun ho new on => put_ls g ei hv hl za na ha h2 h3 (fun C dx fs z => ?_) (h5 ho new on)⟩
  obtain ⟨ob, hob, _⟩ := h4.there
  have := h4.mut hob
  rw [hob] at z
  cases z
  exact this _ _ _ rfl
theorem atI_nat {α : Type} {xs : List α} {c : Nat} {x : α} (h : xs[c]? = some x) : atI xs (c : Int) = some x := by
  have hl : c < xs.length := (List.getElem?_eq_some_iff.mp h).1
  unfold atI ixN
  simp
  rw [if_pos (by omega)]
  simpa using h
def clrD : D → Option D
  | .dic _ => some (.dic [])
  | _ => none
def clrL : D → Option D
  | .lst _ => some (.lst [])
  | _ => none
def appN : D → Option D
  | .lst xs => if xs.length < sizeLine then some (.lst (xs ++ [.non])) else none
  | _ => none
theorem it_go {K : PySem.W.Frag} {i c : Nat} {f : D → Option D} {σ : St} {H : Hp} {Q : VK} {T : V → Hp → Prop} (h : tE K (itF i c f) σ H Q)
    (w : ∀ Z q d new, f d = some new → OwTop K Z H q d → (∀ ho, OwTop K Z (upd H q ho) q new → Q .non (upd H q ho)) → T (.ref q) H) :
    tOp (rIxL K) (tVar i) (tC (.int c)) σ H T := by
  obtain ⟨Z, ρ, fp, r, ρ3, g, e, k⟩ := h
  unfold itF at e
  cases q : ρ.getD i none with
  | none => rw [q] at e; cases e
  | some t =>
    rw [q] at e
    cases t with
    | ls ds =>
      obtain ⟨d, e1, e⟩ := Option.bind_eq_some_iff.mp (show ((ds[c]?).bind fun d => (f d).map fun new => (R.fz .non, ρ.set i (some (.ls (ds.set c new))))) = some (r, ρ3) from e)
      obtain ⟨new, e2, e3⟩ := Option.map_eq_some_iff.mp e
      cases e3
      obtain ⟨a, vs, b, s1, s2, s3, s4, s5⟩ := ls_at g q e1
      refine ⟨.ref a, getD_get s1, a, vs, c, .ref b, rfl, rfl, SqL.of s2, atI_nat s3, w Z b d new e2 s4 fun ho on => ?_⟩
      obtain ⟨g3, P3⟩ := s5 ho new on
      exact k Z _ .non fp [] g3 ⟨.non, rfl⟩ (fun p hp => by cases hp) (P3.weak fun p q => q.elim id fun z => by cases z)
    | _ => cases e
section
variable {X : Cx} {x : Str} {i c : Nat} {px pi ps apos cpos : Pos} {j : Nat}
theorem se_itClrD (hx : PE X (.Name x px) (tVar i)) (hbase : attributeBase (.Subscript (.Name x px) (.Constant (.int c) j pi) ps) "clear" X.env (eval (.Subscript (.Name x px) (.Constant (.int c) j pi) ps) X.env) = eval (.Subscript (.Name x px) (.Constant (.int c) j pi) ps) X.env) (hline : (apos.endLine == cpos.line) = true) :
    PE X (.Call (.Attribute (.Subscript (.Name x px) (.Constant (.int c) j pi) ps) "clear" apos) [] [] cpos) (tE X.K (itF i c clrD)) :=
  pe_weak (pe_bm0 PySem.F.plainAttrs_dict PySem.F.slot_dict_clear PySem.F.type_dict_clear mtd_clear (pe_ix ix_list hx pe_int (plainIx rfl)) hbase hline) fun σ H Q h => it_go h fun Z q d new ef ow k => by
    cases d with
    | dic kds =>
      cases ef
      obtain ⟨kvs, h1, h2⟩ := ow
      exact ⟨.inr (.inr (.inl ⟨rfl, .inl ⟨kvs, h1⟩⟩)), q, kvs, rfl, rfl, h1, k _ ⟨[], upd_same, .nil⟩⟩
    | _ => cases ef
theorem se_itClrL (hx : PE X (.Name x px) (tVar i)) (hbase : attributeBase (.Subscript (.Name x px) (.Constant (.int c) j pi) ps) "clear" X.env (eval (.Subscript (.Name x px) (.Constant (.int c) j pi) ps) X.env) = eval (.Subscript (.Name x px) (.Constant (.int c) j pi) ps) X.env) (hline : (apos.endLine == cpos.line) = true) :
    PE X (.Call (.Attribute (.Subscript (.Name x px) (.Constant (.int c) j pi) ps) "clear" apos) [] [] cpos) (tE X.K (itF i c clrL)) :=
  pe_weak (pe_bm0 PySem.F.plainAttrs_list PySem.F.slot_list_clear PySem.F.type_list_clear mt_clear (pe_ix ix_list hx pe_int (plainIx rfl)) hbase hline) fun σ H Q h => it_go h fun Z q d new ef ow k => by
    cases d with
    | lst kds =>
      cases ef
      obtain ⟨kvs, h1, h2⟩ := ow
      exact ⟨.inl ⟨rfl, kvs, SqL.of h1⟩, q, kvs, rfl, rfl, h1, k _ ⟨[], upd_same, .nil⟩⟩
    | _ => cases ef
theorem se_itApp {pn : Pos} {jn : Nat} (hx : PE X (.Name x px) (tVar i)) (hbase : attributeBase (.Subscript (.Name x px) (.Constant (.int c) j pi) ps) "append" X.env (eval (.Subscript (.Name x px) (.Constant (.int c) j pi) ps) X.env) = eval (.Subscript (.Name x px) (.Constant (.int c) j pi) ps) X.env) (hline : (apos.endLine == cpos.line) = true) :
    PE X (.Call (.Attribute (.Subscript (.Name x px) (.Constant (.int c) j pi) ps) "append" apos) [.Constant .none jn pn] [] cpos) (tE X.K (itF i c appN)) :=
  pe_weak (pe_bm PySem.F.plainAttrs_list PySem.F.slot_list_append PySem.F.type_list_append mt_append (pe_ix ix_list hx pe_int (plainIx rfl)) (pa_cons pe_non pa_nil rfl) hbase rfl hline rfl rfl) fun σ H Q h => it_go h fun Z q d new ef ow k => by
    cases d with
    | lst xs =>
      obtain ⟨hl, ef⟩ := ite_some (show (if xs.length < sizeLine then some (D.lst (xs ++ [.non])) else none) = some new from ef)
      cases ef
      obtain ⟨vs, h1, h2⟩ := ow
      exact ⟨.inl ⟨rfl, vs, SqL.of h1⟩, q, vs, .non, rfl, rfl, h1, by rw [h2.length]; exact hl, k _ ⟨vs ++ [.non], upd_same, h2.append (.cons .non .nil)⟩⟩
    | _ => cases ef
end
end
end FL

set_option Elab.async false
set_option maxRecDepth 100000
namespace FL
open PySem
/-- a text's method, its text known -/
def sbnT (g : Str → D → Option R) (Fb : Sm) (ρ : En) : Option D → Option (R × En)
  | some (.str a) => (Fb ρ).bind fun q => (peek q.2 q.1).bind fun y => (g a y).map fun r => (r, q.2)
  | _ => none
@[simp] theorem sbn_ev {g : Str → D → Option R} {Fa Fb : Sm} {ρ : En} : sbn g Fa Fb ρ = (Fa ρ).bind fun p => sbnT g Fb p.2 (peek p.2 p.1) := by
  unfold sbn
  congr 1
@[simp] theorem sbnT_str {g : Str → D → Option R} {Fb : Sm} {ρ : En} {a : Str} : sbnT g Fb ρ (some (.str a)) = (Fb ρ).bind fun q => (peek q.2 q.1).bind fun y => (g a y).map fun r => (r, q.2) := rfl
@[simp] theorem fmtF_ev {F : Sm} {ρ : En} : fmtF F ρ = (F ρ).bind fun p => (peek p.2 p.1).bind fun d => (fmtD d).map fun x => (.fz (.str x), p.2) := rfl
def jnT (Fs : List Sm) (acc : Str) (ρ : En) : Option D → Option (Str × En)
  | some (.str y) => if (acc ++ y).length ≤ sizeLine then jnF Fs (acc ++ y) ρ else none
  | _ => none
@[simp] theorem jnF_nil {acc : Str} {ρ : En} : jnF [] acc ρ = some (acc, ρ) := rfl
@[simp] theorem jnF_cons {F : Sm} {Fs : List Sm} {acc : Str} {ρ : En} : jnF (F :: Fs) acc ρ = (F ρ).bind fun p => jnT Fs acc p.2 (peek p.2 p.1) := by
  show (F ρ).bind _ = _
  congr 1
@[simp] theorem jnT_str {Fs : List Sm} {acc y : Str} {ρ : En} : jnT Fs acc ρ (some (.str y)) = if (acc ++ y).length ≤ sizeLine then jnF Fs (acc ++ y) ρ else none := rfl
@[simp] theorem sjF_ev {Fs : List Sm} {ρ : En} : sjF Fs ρ = (jnF Fs Str.empty ρ).map fun p => (.fz (.str p.1), p.2) := rfl
@[simp] theorem lsF_ev {Fs : List Sm} {ρ : En} : lsF Fs ρ = (seqs Fs ρ).bind fun p => (owsR p.1).bind fun ds => if ds.length < 100 then some (.nw (.ls ds), p.2) else none := rfl
@[simp] theorem owsR_nil : owsR [] = some [] := rfl
@[simp] theorem owsR_cons {d : D} {rs : List R} : owsR (.nw (.ow d) :: rs) = (owsR rs).map (d :: ·) := rfl
def rpT (ρ : En) : Option T → Option (R × En)
  | some (.ls ds) => (reprF (.lst ds)).map fun r => (r, ρ)
  | _ => none
@[simp] theorem rpL_ev {i : Nat} {ρ : En} : rpL i ρ = rpT ρ (ρ.getD i none) := by
  unfold rpL rpT
  rfl
@[simp] theorem rpT_ls {ρ : En} {ds : List D} : rpT ρ (some (.ls ds)) = (reprF (.lst ds)).map fun r => (r, ρ) := rfl
def itT (i c : Nat) (f : D → Option D) (ρ : En) : Option T → Option (R × En)
  | some (.ls ds) => (ds[c]?).bind fun d => (f d).map fun new => (.fz .non, ρ.set i (some (.ls (ds.set c new))))
  | _ => none
@[simp] theorem itF_ev {i c : Nat} {f : D → Option D} {ρ : En} : itF i c f ρ = itT i c f ρ (ρ.getD i none) := by
  unfold itF itT
  rfl
@[simp] theorem itT_ls {i c : Nat} {f : D → Option D} {ρ : En} {ds : List D} : itT i c f ρ (some (.ls ds)) = (ds[c]?).bind fun d => (f d).map fun new => (.fz .non, ρ.set i (some (.ls (ds.set c new)))) := rfl
@[simp] theorem clrD_ev {k : List (L2.Key × D)} : clrD (.dic k) = some (.dic []) := rfl
@[simp] theorem clrL_ev {k : List D} : clrL (.lst k) = some (.lst []) := rfl
@[simp] theorem appN_ev {xs : List D} : appN (.lst xs) = if xs.length < sizeLine then some (.lst (xs ++ [.non])) else none := rfl
theorem borF_ev {i : Nat} {F : Sm} {ρ ρ1 : En} {kds k2 : List (L2.Key × D)} {r : R} (h0 : ρ.getD i none = some (.ow (.dic kds))) (h1 : F (ρ.set i (some (.fz (.dic kds)))) = some (r, ρ1)) (h2 : ρ1.getD i none = some (.fz (.dic k2))) (h3 : flatR r = true) (h4 : (ρ1.set i none).all flatT = true) :
    borF i F ρ = some (r, ρ1.set i (some (.ow (.dic kds)))) := by
  unfold borF
  rw [h0]
  show (F _).bind _ = _
  rw [h1]
  show (match ρ1.getD i none with
    | some (.fz (.dic _)) => if flatR r = true ∧ (ρ1.set i none).all flatT = true then some (r, ρ1.set i (some (.ow (.dic kds)))) else none
    | _ => none) = _
  rw [h2]
  show (if _ then _ else _) = _
  rw [if_pos ⟨h3, h4⟩]
@[simp] theorem partG_ev {a b : Str} : partG a (.str b) = if (b.length == 0) = false ∧ a.length ≤ sizeLine then some (.fz (.tup [.str (Txt.partition a b).1, .str (Txt.partition a b).2.1, .str (Txt.partition a b).2.2])) else none := rfl
@[simp] theorem splitG_ev {a b : Str} : splitG a (.str b) = if (b.length == 0) = false ∧ a.length + 2 ≤ sizeLine then some (.nw (.ow (.lst ((Txt.split a b).map .str)))) else none := rfl
@[simp] theorem rmpG_ev {a b : Str} : rmpG a (.str b) = if a.length ≤ sizeLine then some (.fz (.str (Txt.removeprefix a b))) else none := rfl
theorem joinG_ev {a : Str} {ys : List Str} (h : (ys.map (·.length)).sum + ys.length * a.length ≤ 16777216) : joinG a (.lst (ys.map .str)) = some (.fz (.str (Txt.join a ys))) := by
  show (strsOf _).bind _ = _
  rw [strsOf_map]
  show (if _ then _ else _) = _
  rw [if_pos h]
theorem sum_le {α : Type} (f : α → Nat) (n : Nat) : ∀ (xs : List α), (∀ x ∈ xs, f x ≤ n) → (xs.map f).sum ≤ xs.length * n
  | [], _ => by simp
  | x :: xs, h => by
    have h1 := h x List.mem_cons_self
    have h2 := sum_le f n xs fun y hy => h y (List.mem_cons_of_mem _ hy)
    rw [List.map_cons, List.sum_cons, List.length_cons, Nat.add_mul]
    omega
end FL

set_option Elab.async false
set_option maxRecDepth 100000
set_option maxHeartbeats 2000000
namespace FL
open PySem PySem.Spec L2

/-! ### a frozen dict of dicts that nobody else holds -/
def setE : List (Key × D) → Key → D → List (Key × D)
  | [], _, _ => []
  | p :: r, k, d => if p.1 = k then (p.1, d) :: r else p :: setE r k d
def ddT (k : Key) : Option T → Option D
  | some (.dd es) => dfind es k
  | _ => none
def isDd : Option T → Bool
  | some (.dd _) => true
  | _ => false
theorem isDd_some {t : Option T} (h : isDd t = true) : ∃ es, t = some (.dd es) := by
  cases t with
  | none => cases h
  | some t =>
    cases t with
    | dd es => exact ⟨es, rfl⟩
    | _ => cases h
theorem ddT_some {t : Option T} {k : Key} {d : D} (h : ddT k t = some d) : ∃ es, t = some (.dd es) ∧ dfind es k = some d := by
  cases t with
  | none => cases h
  | some t =>
    cases t with
    | dd es => exact ⟨es, rfl, h⟩
    | _ => cases h
section
variable {K : PySem.W.Frag} {Z Z' H H' : Hp}
theorem OwnE.at : ∀ {kvs : List (Key × V)} {es : List (Key × D)} {l : List Addr} {k : Key} {d : D}, OwnE K Z H kvs es l → dfind es k = some d → ∃ q, valV kvs k = some (V.ref q) ∧ q ∈ l ∧ Z q = none ∧ OwTop K Z H q d ∧ ∀ ho new, OwTop K Z (upd H q ho) q new → OwnE K Z (upd H q ho) kvs (setE es k new) l
  | _, _, _, _, _, .nil, e => by cases e
  | (j, _) :: kvs, (_, d0) :: es, _, k, d, .cons (q := q) (ls := ls) zq h n r, e => by
    by_cases c : j = k
    · have e' : some d0 = some d := by
        unfold dfind at e
        rw [List.find?_cons_of_pos (by simp [c])] at e
        exact e
      cases e'
      refine ⟨q, ?_, List.mem_cons_self, zq, h, fun ho new on => ?_⟩
      · unfold valV
        rw [List.find?_cons_of_pos (by simp [c])]
        rfl
      · show OwnE K Z (upd H q ho) _ (if j = k then (j, new) :: es else (j, d0) :: setE es k new) _
        rw [if_pos c]
        refine .cons zq on n (r.mono (Same.refl _) (fun p hp o e => ?_) fun p hp => (r.there p hp).2)
        rw [upd_ne (fun z => n (by rw [← z]; exact hp))]; exact e
    · have e' : dfind es k = some d := by
        unfold dfind at e ⊢
        rw [List.find?_cons_of_neg (by simp [c])] at e
        exact e
      obtain ⟨q', h1, h2, h3, h4, h5⟩ := OwnE.at r e'
      refine ⟨q', ?_, List.mem_cons_of_mem _ h2, h3, h4, fun ho new on => ?_⟩
      · unfold valV at h1 ⊢
        rw [List.find?_cons_of_neg (by simp [c])]
        exact h1
      · show OwnE K Z (upd H q' ho) _ (if j = k then (j, new) :: es else (j, d0) :: setE es k new) _
        rw [if_neg c]
        refine .cons zq (h.mono (Same.refl _) fun o eo => ?_) n (h5 ho new on)
        rw [upd_ne (fun z => n (by rw [z]; exact h2))]; exact eo
theorem OwnE.keys : ∀ {kvs : List (Key × V)} {es : List (Key × D)} {l : List Addr}, OwnE K Z H kvs es l → kvs.map (·.1) = es.map (·.1)
  | _, _, _, .nil => rfl
  | _, _, _, .cons _ _ _ r => by rw [List.map_cons, List.map_cons, OwnE.keys r]
theorem put_own {σ : St} {ρ : En} {fp : Nat → List Addr} {i : Nat} {t t' : T} {a : V} {q : Addr} {ho : HO} (g : Good K Z H σ ρ fp) (ei : ρ.getD i none = some t) (es : σ.getD i none = some a) (hq1 : q ∈ fp i) (zq : Z q = none) (ni : ∀ C dx fs, H q ≠ some (.ins C dx fs)) (on : OwnT K Z (upd H q ho) a t' (fp i)) :
    Good K Z (upd H q ho) σ (ρ.set i (some t')) fp ∧ Post Z H (E fp) Z (upd H q ho) (E fp) := by
  have tk : TbK H (upd H q ho) := by
    obtain ⟨⟨o, e, m⟩, _⟩ := g.there ⟨i, hq1⟩
    exact .at e m.2
  refine ⟨⟨by rw [List.length_set]; exact g.len, fun b u hb => ?_, fun j => ?_, g.disj, ⟨tk.ts _ g.tz.ts, g.tz.no⟩⟩, ⟨Same.refl _, fun p o hp n _ => ?_, fun p q => .inl q, fun p o q => .inl q, fun b C dx fv hb => ?_, tk⟩⟩
  · have nb : b ≠ q := fun y => by rw [y, zq] at hb; cases hb
    rcases g.sub b u hb with z | ⟨⟨o, z⟩, m⟩
    · exact .inl (by rw [upd_ne nb]; exact z)
    · exact .inr ⟨⟨o, by rw [upd_ne nb]; exact z⟩, m⟩
  · rw [getD_set]
    by_cases ej : i = j
    · rw [if_pos ⟨ej, lt_of_getD ei⟩, ← ej, es]
      exact on
    · rw [if_neg (fun q => ej q.1)]
      have sl := g.slot j
      have nq : q ∉ fp j := fun y => ej (g.disj i j q hq1 y)
      cases h1 : σ.getD j none with
      | none =>
        rw [h1] at sl
        cases h2 : ρ.getD j none with
        | none => rw [h2] at sl; exact sl
        | some t => rw [h2] at sl; exact sl.elim
      | some x =>
        rw [h1] at sl
        cases h2 : ρ.getD j none with
        | none => rw [h2] at sl; exact sl.elim
        | some t =>
          rw [h2] at sl
          exact OwnT.mono (Same.refl _) (fun p hp o e => by rw [upd_ne (fun y => nq (by rw [← y]; exact hp))]; exact e) (fun p hp => (OwnT.there sl p hp).2) sl
  · rw [upd_ne (fun y => n ⟨i, by rw [y]; exact hq1⟩)]; exact hp
  · have nb : b ≠ q := fun y => by rw [y] at hb; exact ni _ _ _ hb
    exact ⟨fv, by rw [upd_ne nb]; exact hb, fun f v q => q⟩
theorem dd_at {σ : St} {ρ : En} {fp : Nat → List Addr} {i : Nat} {es : List (Key × D)} {k : Key} {d : D} (g : Good K Z H σ ρ fp) (ei : ρ.getD i none = some (.dd es)) (ec : dfind es k = some d) :
    ∃ a kvs q, σ.getD i none = some (.ref a) ∧ Rd H a (.dK kvs) ∧ valV kvs k = some (.ref q) ∧ OwTop K Z H q d ∧ ∀ ho new, OwTop K Z (upd H q ho) q new → Good K Z (upd H q ho) σ (ρ.set i (some (.dd (setE es k new)))) fp ∧ Post Z H (E fp) Z (upd H q ho) (E fp) := by
  obtain ⟨v, hv, ow⟩ := g.at ei
  obtain ⟨a, kvs, rfl, za, oi⟩ := (show ∃ a kvs, v = V.ref a ∧ Z a = some (.dK kvs) ∧ OwnE K Z H kvs es (fp i) from ow)
  obtain ⟨q, h1, h2, h3, h4, h5⟩ := oi.at ec
  refine ⟨a, kvs, q, hv, sub_r g.sub za, h1, h4, fun ho new on => put_own (t' := .dd (setE es k new)) g ei hv h2 h3 (fun C dx fs z => ?_) ⟨a, kvs, rfl, za, h5 ho new on⟩⟩
  obtain ⟨ob, hob, _⟩ := h4.there
  have := h4.mut hob
  rw [hob] at z
  cases z
  exact this _ _ _ rfl
end
theorem peek_var {K : PySem.W.Frag} {Z H : Hp} {σ : St} {ρ : En} {fp : Nat → List Addr} {j : Nat} {d : D} {k : Key} (g : Good K Z H σ ρ fp) (e : peek ρ (.sl j) = some d) (ek : keyOf d = some k) : σ[j]? = some (some (kV k)) := by
  have e' : (ρ.getD j none).bind T.dat = some d := e
  cases q : ρ.getD j none with
  | none => rw [q] at e'; cases e'
  | some t =>
    obtain ⟨v, hv, _⟩ := g.at q
    have hk := keyOf_v (peek_ok g (show RR K Z H σ v (.sl j) [] from ⟨hv, rfl⟩) e) ek
    subst hk
    exact getD_get hv
def rIxK : R2 := fun x y H Q => ∃ a v, x = .ref a ∧ DGet H a y (some v) ∧ Q v H
section
variable {X : Cx}
theorem ix_kd (hu : X.A.units + 200 < cLine) : IxR X rIxK := by
  intro value slice pins s σ H x y v u Q I rx ry ⟨a, w, ex, g, q⟩ hs
  subst ex
  cases rx
  exact PyProof.Rows.tail_any (dict_typeIs I g) PySem.F.slot_dict_getitem.lookup (d_getItem (by omega) I g ry fun w' s' I' rw' => ⟨w, H, I', rw', q⟩) hs
variable {t x : Str} {i j : Nat} {e ex : Expr} {Fe Fx Fv : Sm} {pt ps pos apos cpos pe px pos' : Pos}

/-! x in tables[e] -/
def ddIn (Fx : Sm) (i : Nat) (Fe : Sm) : Sm := fun ρ => (Fx ρ).bind fun p1 => if isDd (p1.2.getD i none) = true then (Fe p1.2).bind fun p2 => (peek p2.2 p2.1).bind fun ke => (keyOf ke).bind fun k => (ddT k (p2.2.getD i none)).bind fun d => (peek p2.2 p1.1).bind fun dx => (op2 .isin dx d).map fun r => (r, p2.2) else none
theorem ddIn_go {K : PySem.W.Frag} {Z H : Hp} {σ : St} {ρ ρ' : En} {fp : Nat → List Addr} {r : R} {T : V → V → Hp → Prop} (g : Good K Z H σ ρ fp) (h : ddIn Fx i Fe ρ = some (r, ρ'))
    (c : ∀ Z' H' fp' dx d x q, Good K Z' H' σ ρ' fp' → RdD K Z' H' x dx → RdD K Z' H' (.ref q) d → op2 .isin dx d = some r → Post Z H (E fp) Z' H' (E fp') → T x (.ref q) H') :
    tE K Fx σ H fun x H1 => tOp rIxK (tVar i) (tE K Fe) σ H1 fun y H2 => T x y H2 := by
  obtain ⟨⟨r1, ρ1⟩, e1, h⟩ := Option.bind_eq_some_iff.mp h
  obtain ⟨c1, h⟩ := ite_any h
  obtain ⟨⟨r2, ρ2⟩, e2, h⟩ := Option.bind_eq_some_iff.mp h
  obtain ⟨ke, e3, h⟩ := Option.bind_eq_some_iff.mp h
  obtain ⟨k, e4, h⟩ := Option.bind_eq_some_iff.mp h
  obtain ⟨d, e5, h⟩ := Option.bind_eq_some_iff.mp h
  obtain ⟨dx, e6, h⟩ := Option.bind_eq_some_iff.mp h
  obtain ⟨r', e7, h⟩ := Option.map_eq_some_iff.mp h
  cases h
  obtain ⟨es1, c1⟩ := isDd_some c1
  obtain ⟨es, c2, e5⟩ := ddT_some e5
  refine ⟨Z, ρ, fp, r1, ρ1, g, e1, fun Z1 H1 v fp1 l g1 R1 n1 P1 => ?_⟩
  obtain ⟨w, hw, _⟩ := g1.at c1
  refine ⟨w, getD_get hw, Z1, ρ1, fp1, r2, ρ2, g1, e2, fun Z2 H2 y fp2 l2 g2 R2 n2 P2 => ?_⟩
  obtain ⟨a, kvs, q, s1, s2, s3, s4, _⟩ := dd_at g2 c2 e5
  rw [hw] at s1
  cases s1
  have hy := keyOf_v (peek_ok g2 R2 e3) e4
  obtain ⟨R1', _⟩ := R1.stay n1 P2
  refine ⟨a, .ref q, rfl, .inl ⟨kvs, k, s2, hy, s3.symm⟩, c Z2 H2 fp2 dx d v q g2 (peek_ok g2 R1' e6) s4.rd e7 ?_⟩
  exact (P1.weak fun p q => .inl q).trans (P2.weak fun p q => .inl q)
theorem se_ddIn (hu : X.A.units + 200 < cLine) (ha : PE X ex (tE X.K Fx)) (ht : PE X (.Name t pt) (tVar i)) (he : PE X e (tE X.K Fe)) (hs : notSlice e = true) (hm : behindInMarks .In (.Subscript (.Name t pt) e ps) = false) : PE X (.Compare ex [.In] [.Subscript (.Name t pt) e ps] pos) (tE X.K (ddIn Fx i Fe)) := by
  refine pe_weak (pe_cmpR (r := fun x y H Q => ∃ Z dx dy r, Sub Z H ∧ RdD X.K Z H x dx ∧ RdD X.K Z H y dy ∧ op2 .isin dx dy = some r ∧ ∀ z H', Out X.K Z H r z H' → Q z H') (fun pins s σ H x y v u Q I rx ry ⟨Z, dx, dy, r, q1, q2, q3, q4, q5⟩ => opd_in hu pins s σ H x y v u Q Z dx dy r I rx ry q1 q2 q3 q4 q5) ha (pe_ix (ix_kd hu) ht he (plainIx hs)) hm) ?_
  rintro σ H Q ⟨Z, ρ, fp, r, ρ2, g, h, k⟩
  exact ddIn_go g h fun Z' H' fp' dx d x q g' rx rq e P => ⟨Z', dx, d, r, g'.sub, rx, rq, e, fun z H'' o => kt_out k g' P (fun p q => q) o⟩
theorem st_ddIn (hu : X.A.units + 200 < cLine) (ha : PE X ex (tE X.K Fx)) (ht : PE X (.Name t pt) (tVar i)) (he : PE X e (tE X.K Fe)) (hs : notSlice e = true) (hm : behindInMarks .In (.Subscript (.Name t pt) e ps) = false) : PT X (.Compare ex [.In] [.Subscript (.Name t pt) e ps] pos) (tT X.K (ddIn Fx i Fe)) := by
  refine pt_weak (pt_cmpR (r := fun x y H Q => ∃ Z dx dy r, Sub Z H ∧ RdD X.K Z H x dx ∧ RdD X.K Z H y dy ∧ op2 .isin dx dy = some r ∧ ∀ z H', Out X.K Z H r z H' → Q z H') (fun pins s σ H x y v u Q I rx ry ⟨Z, dx, dy, r, q1, q2, q3, q4, q5⟩ => opd_in hu pins s σ H x y v u Q Z dx dy r I rx ry q1 q2 q3 q4 q5) ha (pe_ix (ix_kd hu) ht he (plainIx hs)) hm) ?_
  rintro σ H Q ⟨Z, ρ, fp, b, ρ2, g, h, k⟩
  refine ddIn_go g h fun Z' H' fp' dx d x q g' rx rq e P => ⟨Z', dx, d, _, g'.sub, rx, rq, e, fun z H'' o => ?_⟩
  cases o with
  | same hr =>
    cases hr
    exact ⟨b, rfl, k Z' H' fp' g' P⟩

/-! tables[e].get(x) -/
def ddGet (i : Nat) (Fe : Sm) (j : Nat) : Sm := fun ρ => if isDd (ρ.getD i none) = true then (Fe ρ).bind fun p2 => (peek p2.2 p2.1).bind fun ke => (keyOf ke).bind fun k => (ddT k (p2.2.getD i none)).bind fun d => (peek p2.2 (.sl j)).bind fun dx => (keyOf dx).bind fun kx => match d with
  | .dic kds => some (.fz ((dfind kds kx).getD .non), p2.2)
  | _ => none
  else none
theorem se_ddGet (hu : X.A.units + 200 < cLine) (ht : PE X (.Name t pt) (tVar i)) (he : PE X e (tE X.K Fe)) (hs : notSlice e = true) (hx : PE X (.Name x px) (tVar j)) (m : M1 X (.Subscript (.Name t pt) e ps) "get" apos (.Name x px) cpos) :
    PE X (.Call (.Attribute (.Subscript (.Name t pt) e ps) "get" apos) [.Name x px] [] cpos) (tE X.K (ddGet i Fe j)) := by
  refine pe_weak (pe_dget1 (by omega) (pe_ix (ix_kd hu) ht he (plainIx hs)) hx m) ?_
  rintro σ H Q ⟨Z, ρ, fp, r, ρ3, g, h, kt⟩
  obtain ⟨c1, h⟩ := ite_any h
  obtain ⟨⟨r2, ρ2⟩, e2, h⟩ := Option.bind_eq_some_iff.mp h
  obtain ⟨ke, e3, h⟩ := Option.bind_eq_some_iff.mp h
  obtain ⟨k, e4, h⟩ := Option.bind_eq_some_iff.mp h
  obtain ⟨d, e5, h⟩ := Option.bind_eq_some_iff.mp h
  obtain ⟨dx, e6, h⟩ := Option.bind_eq_some_iff.mp h
  obtain ⟨kx, e7, h⟩ := Option.bind_eq_some_iff.mp h
  obtain ⟨es1, c1⟩ := isDd_some c1
  obtain ⟨es, c2, e5⟩ := ddT_some e5
  obtain ⟨w, hw, _⟩ := g.at c1
  refine ⟨w, getD_get hw, Z, ρ, fp, r2, ρ2, g, e2, fun Z2 H2 y fp2 l2 g2 R2 n2 P2 => ?_⟩
  obtain ⟨a, kvs, q, s1, s2, s3, s4, _⟩ := dd_at g2 c2 e5
  rw [hw] at s1
  cases s1
  have hy := keyOf_v (peek_ok g2 R2 e3) e4
  refine ⟨a, .ref q, rfl, .inl ⟨kvs, k, s2, hy, s3.symm⟩, ?_⟩
  cases d with
  | dic kds =>
    cases h
    obtain ⟨vs, q1, q2⟩ := (show ∃ kvs, H2 q = some (.dK kvs) ∧ RepK X.K Z2 kvs kds from s4)
    refine ⟨q, rfl, .inl ⟨vs, .inl q1⟩, kV kx, peek_var g2 e6 e7, valV vs kx, DGet.k q1, ?_⟩
    have P2' : Post Z H (E fp) Z2 H2 (E fp2) := P2.weak fun p q => .inl q
    rcases dfind_val q2 kx with ⟨n1, n2⟩ | ⟨w, d', m1, m2, m3⟩
    · rw [n1]
      rw [n2] at kt
      exact kt_out kt g2 P2' (fun p q => q) (.same .non)
    · rw [m1]
      rw [m2] at kt
      exact kt_out kt g2 P2' (fun p q => q) (.same m3)
  | _ => cases h

/-! tables[e][x] = v, e and x names -/
def ddSt (i je jx : Nat) (Fv : Sm) : Ss := fun ρ => (Fv ρ).bind fun p1 => (frz p1.2 p1.1).bind fun z => (peek z.2 (.sl je)).bind fun ke => (keyOf ke).bind fun k => (peek z.2 (.sl jx)).bind fun dx => (keyOf dx).bind fun kx => (ddT k (z.2.getD i none)).bind fun d => match d with
  | .dic kds => if kds.length < sizeLine then (match z.2.getD i none with
    | some (.dd es) => some (.nx, z.2.set i (some (.dd (setE es k (.dic (dput kds kx z.1))))))
    | _ => none) else none
  | _ => none
end
section
variable {X : Cx} {t x ne : Str} {i je jx : Nat} {e : Expr} {Fv : Sm} {kp : Nat → Bool} {pt ps pn px pos pos' : Pos}
theorem ss_ddSt (hu : X.A.units + 200 < cLine) (hv : PE X e (tE X.K Fv)) (ht : PE X (.Name t pt) (tVar i)) (he : PE X (.Name ne pn) (tVar je)) (hx : PE X (.Name x px) (tVar jx))
    (ha : ∀ v, assign (.Subscript (.Subscript (.Name t pt) (.Name ne pn) ps) (.Name x px) pos') X.env v = (do
      let ov ← holding [v] (eval (.Subscript (.Name t pt) (.Name ne pn) ps) X.env)
      let iv ← holding [v, ov] (eval (.Name x px) X.env)
      standAt pos'
      holding [v, ov, iv] (setItem ov iv v)
      release [v, ov, iv] []))
    (hs : swapsWithSole [.Subscript (.Subscript (.Name t pt) (.Name ne pn) ps) (.Name x px) pos'] e pos.line X.env = pure false) (hw : swappedStores [.Subscript (.Subscript (.Name t pt) (.Name ne pn) ps) (.Name x px) pos'] e X.env = pure none) (h1 : (assignEach [.Subscript (.Subscript (.Name t pt) (.Name ne pn) ps) (.Name x px) pos'] X.env).map (·.2) = [assign (.Subscript (.Subscript (.Name t pt) (.Name ne pn) ps) (.Name x px) pos') X.env]) :
    PS X (.Assign [.Subscript (.Subscript (.Name t pt) (.Name ne pn) ps) (.Name x px) pos'] e pos) (tS X.K kp (ddSt i je jx Fv)) := by
  refine ps_weak (ps_asg hv (pg_sub (pe_ix (ix_kd hu) ht he (plainIx rfl)) hx (set_st hu) ha) hs hw h1) ?_
  rintro D σ H ⟨Z, ρ, fp, fl, ρ', g, h, k⟩
  obtain ⟨⟨r1, ρ1⟩, e1, h⟩ := Option.bind_eq_some_iff.mp h
  obtain ⟨⟨dv, ρ2⟩, e2, h⟩ := Option.bind_eq_some_iff.mp h
  obtain ⟨ke, e3, h⟩ := Option.bind_eq_some_iff.mp h
  obtain ⟨ky, e4, h⟩ := Option.bind_eq_some_iff.mp h
  obtain ⟨dx, e5, h⟩ := Option.bind_eq_some_iff.mp h
  obtain ⟨kx, e6, h⟩ := Option.bind_eq_some_iff.mp h
  obtain ⟨d, e7, h⟩ := Option.bind_eq_some_iff.mp h
  obtain ⟨es, c2, e7⟩ := ddT_some e7
  cases d with
  | dic kds =>
    obtain ⟨hl, h⟩ := ite_any (show (if kds.length < sizeLine then (match ρ2.getD i none with
      | some (.dd es) => some (Fl.nx, ρ2.set i (some (.dd (setE es ky (.dic (dput kds kx dv))))))
      | _ => none) else none) = some (fl, ρ') from h)
    rw [c2] at h
    cases h
    refine ⟨Z, ρ, fp, r1, ρ1, g, e1, fun Z1 H1 w fp1 l1 g1 R1 n1 P1 => ?_⟩
    obtain ⟨Z2, fp2, g2, R2, P2⟩ := frz_ok g1 R1 n1 e2
    obtain ⟨a, kvs, q, s1, s2, s3, s4, s5⟩ := dd_at g2 c2 e7
    have v1 := peek_var g2 e3 e4
    have v2 := peek_var g2 e5 e6
    obtain ⟨vs, q1, q2⟩ := (show ∃ kvs, H1 q = some (.dK kvs) ∧ RepK X.K Z2 kvs kds from s4)
    refine ⟨.ref a, getD_get s1, kV ky, v1, a, .ref q, rfl, .inl ⟨kvs, ky, s2, rfl, s3.symm⟩, kV kx, v2, .inr ⟨q, _, rfl, DPut.k q1 (by rw [lenK q2]; exact hl), ?_⟩⟩
    obtain ⟨g3, P3⟩ := s5 (.dK (putK vs kx w)) (.dic (dput kds kx dv)) ⟨_, upd_same, dput_rep q2 R2⟩
    exact (show Ke X.K Z H fp σ kp _ D.nx from k) Z2 _ σ fp2 g3 keepS.refl ((P1.trans P2).trans P3)
  | _ => cases h
end
end FL

set_option Elab.async false
set_option maxRecDepth 100000
set_option maxHeartbeats 2000000
namespace FL
open PySem PySem.Spec L2

/-! ### a walk over the keys of such a dict -/
def itDD (i : Nat) : Im := fun ρ => match ρ.getD i none with
  | some (.dd es) => some (es.map fun p => dOf p.1, ρ)
  | _ => none
section
variable {K : PySem.W.Frag} {Z H : Hp} {A : Addr → Prop} {a : Addr} {o : Obj} {kvs : List (Key × V)}
theorem wk_keysK (hH : H a = some (.frz o (.dK kvs))) (ha : ¬ A a) : Wk K Z H A (Itk a o kvs) (kvs.map fun p => dOf p.1) where
  goes := fun Z' H' A' i P sb hi => walk_keys.goes i H' (by simpa using hi) (stay_lock P hH ha)
  stops := fun Z' H' A' P sb => by
    rw [List.length_map]
    exact walk_keys.stops H' (stay_lock P hH ha)
  yields := fun Z' H' A' i v H'' d P sb hd hy => by
    rw [List.getElem?_map] at hd
    obtain ⟨q, hq, ed⟩ := Option.map_eq_some_iff.mp hd
    obtain ⟨rfl, k, u, e1, e2⟩ := walk_keys.yields i H' v H'' (List.getElem?_eq_some_iff.mp hq).1 (stay_lock P hH ha) hy
    rw [hq] at e1
    cases e1
    rw [← ed, e2]
    exact .same rep_dOf
end
section
variable {X : Cx} {elt tg : Expr} {ifs : List Expr} {scope : Scope} {own : List (Str × Nat)} {pos p : Pos} {g : Tg} {Ft : Option Sm} {Fe : Sm} {x : Str} {i : Nat}
theorem lcDD_go {K : PySem.W.Frag} {vs : List Nat} {Z H : Hp} {σ : St} {ρ ρ' : En} {fp : Nat → List Addr} {r : R} {Q : VK} {a : Addr} {o : Obj} {kvs : List (Key × V)} {es : List (Key × D)} (gd : Good K Z H σ ρ fp) (e : lcF vs (itDD i) g Ft Fe ρ = some (r, ρ')) (k : Kt K Z H fp σ ρ' r Q)
    (e1 : ρ.getD i none = some (.dd es)) (e2 : σ.getD i none = some (.ref a)) (na : ¬ E fp a) (ek : kvs.map (·.1) = es.map (·.1)) (e4 : H a = some (.frz o (.dK kvs))) : tLc (iKeys (tVar i)) (tGd K (kpv vs) g) (tTo K Ft) (tE K Fe) vs σ H Q := by
  obtain ⟨⟨xs, ρ1⟩, h1, e⟩ := Option.bind_eq_some_iff.mp e
  have h1' : some (es.map fun p => dOf p.1, ρ) = some (xs, ρ1) := by
    rw [← h1]
    unfold itDD
    rw [e1]
  cases h1'
  by_cases ok : okW ρ vs = true
  · rw [if_pos ok] at e
    obtain ⟨⟨out, ρ2⟩, h2, e3⟩ := Option.map_eq_some_iff.mp e
    cases e3
    have hx : (es.map fun p => dOf p.1) = kvs.map fun p => dOf p.1 := by
      have : (es.map (·.1)).map dOf = (kvs.map (·.1)).map dOf := by rw [ek]
      rw [List.map_map, List.map_map] at this
      exact this
    have h2' : lcGo vs g Ft Fe (kvs.map fun p => dOf p.1) [] (wipeE ρ vs) = some (out, ρ2) := by rw [← hx]; exact h2
    exact ⟨.ref a, getD_get e2, a, o, rfl, .inl ⟨kvs, e4, lc_in gd ok (wk_keysK e4 na) h2' k⟩⟩
  · rw [if_neg ok] at e; cases e
theorem se_lcDD (hc : X.calm = true) (hN : X.N.Nodup) (hv : PE X (.Name x p) (tVar i)) (ok : blkC X.N X.env.scope scope own = true)
    (hg : InBlk X scope fun Y => PG Y tg (tGd X.K (kpv (own.map (·.2))) g)) (ht : InBlk X scope fun Y => PTs Y ifs (tTo X.K Ft)) (he : InBlk X scope fun Y => PE Y elt (tE X.K Fe)) :
    PE X (.ListComp elt [⟨tg, .Name x p, ifs, 0⟩] scope pos) (tE X.K (lcF (own.map (·.2)) (itDD i) g Ft Fe)) := by
  have h := pe_lc (pos := pos) hc hN (pi_keys hv) (blkOk_by ok) hg ht he (fun _ => rfl)
  have hor := fun (pins : List (Addr × Obj)) (s : Shared) (σ : St) (H : Hp) (Q : VK) (I : Inv X pins σ H s) q => Or.elim q (h.run pins s σ H Q I) ((pe_lock h).run pins s σ H Q I)
  refine ⟨fun pins s σ H Q I q => hor pins s σ H Q I ?_⟩
  obtain ⟨Z, ρ, fp, r, ρ', gd, e, k⟩ := q
  have hd : ∃ es, ρ.getD i none = some (.dd es) := by
    obtain ⟨⟨xs, ρ1⟩, h1, _⟩ := Option.bind_eq_some_iff.mp e
    unfold itDD at h1
    cases q : ρ.getD i none with
    | none => rw [q] at h1; cases h1
    | some t =>
      rw [q] at h1
      cases t with
      | dd es => exact ⟨es, rfl⟩
      | _ => cases h1
  obtain ⟨es, er⟩ := hd
  obtain ⟨v, ev, ow⟩ := gd.at er
  obtain ⟨a, kvs, rfl, ez, oi⟩ := (show ∃ a kvs, v = V.ref a ∧ Z a = some (.dK kvs) ∧ OwnE X.K Z H kvs es (fp i) from ow)
  have na : ¬ E fp a := fun z => by
    have y := (gd.there z).2
    rw [ez] at y; cases y
  rcases gd.sub a _ ez with hH | ⟨⟨o, hH⟩, _⟩
  · refine .inr ⟨a, _, hH, True.intro, fun od => ?_⟩
    refine lcDD_go (lock_in gd ez mu_dK) e ?_ er ev na oi.keys upd_same
    have hni : ∀ C dx fs, HO.dK kvs ≠ .ins C dx fs := fun C dx fs z => by cases z
    intro Z' H' v fp' l g' R' n' P'
    have zz := P'.zz _ _ ez
    have hl : H' a = some (.frz od (.dK kvs)) := P'.fr _ _ upd_same na (fun ps z => by cases z)
    exact ⟨hl, k Z' _ v fp' l (lock_out g' zz mu_dK.2) (lock_rr R' zz fun C dx fs z => by rw [hl] at z; cases z) n' (lock_post P' hH hni mu_dK.2 na)⟩
  · exact .inl (lcDD_go gd e k er ev na oi.keys hH)
end

/-! ### dict([(name, {}) for name in range(..)]) -/
def ddNew (j : Nat) (it : Im) : Sm := fun ρ => (it ρ).bind fun p => (intsOf p.1).bind fun ns => if ns.Nodup ∧ ns.length < 1000 ∧ j < p.2.length then some (.nw (.dd (ns.map fun n => (.inl n, .dic []))), p.2) else none
/-- what the turns made: number, tuple, dict -/
structure MadeD (H1 H : Hp) (D : Addr) (ps : List (Int × Addr × Addr)) : Prop where
  ext : ∀ b o, H1 b = some o → H b = some o
  lst : H D = some (.lst (ps.map fun p => V.ref p.2.1))
  at_ : ∀ p ∈ ps, H p.2.1 = some (.tup [.int p.1, .ref p.2.2]) ∧ H p.2.2 = some (.dK []) ∧ p.2.1 ≠ D ∧ p.2.2 ≠ D ∧ H1 p.2.2 = none
  nd : (ps.map fun p => p.2.2).Nodup
theorem ext_post {Z H1 H : Hp} {A : Addr → Prop} (e : ∀ b o, H1 b = some o → H b = some o) : Post Z H1 A Z H A := ⟨Same.refl _, fun p o h _ _ => e p o h, fun p q => .inl q, fun p o q => .inl q, Grow.same e, .ext e⟩
theorem Good.ext {K : PySem.W.Frag} {Z H1 H : Hp} {σ : St} {ρ : En} {fp : Nat → List Addr} (g : Good K Z H1 σ ρ fp) (e : ∀ b o, H1 b = some o → H b = some o) : Good K Z H σ ρ fp :=
  g.mono (Same.refl _) (fun a u h => (g.sub a u h).imp (fun z => e _ _ z) fun z => ⟨z.1.imp fun o w => e _ _ w, z.2⟩) (.ext e) g.tz.no (fun q u _ h => e q u h) fun q h => (g.there h).2
theorem put_nil : ∀ (more kvs : List (Key × V)), (kvs.map (·.1) ++ more.map (·.1)).Nodup → mergeK kvs more = kvs ++ more
  | [], kvs, _ => by simp [mergeK]
  | (k, v) :: more, kvs, h => by
    have hk : (kvs.any fun kv => decide (kv.1 = k)) = false := by
      rw [List.any_eq_false]
      intro x hx
      simp only [decide_eq_true_eq]
      intro e
      rw [List.nodup_append] at h
      exact h.2.2 x.1 (List.mem_map.mpr ⟨x, hx, rfl⟩) k (by simp) e
    have e : putK kvs k v = kvs ++ [(k, v)] := by
      unfold putK
      rw [if_neg (by rw [hk]; exact Bool.false_ne_true)]
    show mergeK (putK kvs k v) more = _
    rw [e, put_nil more (kvs ++ [(k, v)]) (by simpa using h), List.append_assoc]
    rfl
theorem made_own {K : PySem.W.Frag} {Z H1 H H' : Hp} {D : Addr} (hz : ∀ q, H1 q = none → Z q = none) (hk : ∀ q o, H q = some o → H' q = some o) : ∀ {ps : List (Int × Addr × Addr)}, (∀ p ∈ ps, H p.2.1 = some (.tup [.int p.1, .ref p.2.2]) ∧ H p.2.2 = some (.dK []) ∧ p.2.1 ≠ D ∧ p.2.2 ≠ D ∧ H1 p.2.2 = none) → (ps.map fun p => p.2.2).Nodup →
    OwnE K Z H' (ps.map fun p => ((.inl p.1 : Key), V.ref p.2.2)) (ps.map fun p => ((.inl p.1 : Key), FL.D.dic [])) (ps.map fun p => p.2.2)
  | [], _, _ => .nil
  | p :: ps, h, nd => by
    rw [List.map_cons, List.nodup_cons] at nd
    obtain ⟨_, h2, _, _, h5⟩ := h p List.mem_cons_self
    exact .cons (hz _ h5) ⟨[], hk _ _ h2, .nil⟩ nd.1 (made_own hz hk (fun q hq => h q (List.mem_cons_of_mem _ hq)) nd.2)
section
variable {X : Cx} {iter : Expr} {scope : Scope} {pos p px pc pt pd tpos : Pos} {it : Im} {x : Str} {j kk : Nat}
theorem se_ddNew (hc : X.calm = true) (hN : X.N.Nodup) (hi : PI X (.Name x px) iter (tI X.K it)) (ok : blkC X.N X.env.scope scope [(x, j)] = true)
    (hg : InBlk X scope fun Y => PG Y (.Name x px) (gName j)) (he : InBlk X scope fun Y => PE Y (.Name x pt) (tVar j)) (hs : ∀ v, foldedSetIterable iter X.env v = pure v)
    (hgl : Gl X "dict") (hm : X.mg "dict" = none) (hv : bootBuiltins "dict" = some (.type "dict")) (htr : ∀ s H C cl fp, starEach [.Name x pt, .Dict [] [] pd] (X.blk s H scope (compEnvC scope cl C X.env) fp).env = (false, eval (.Name x pt) (X.blk s H scope (compEnvC scope cl C X.env) fp).env) :: starEach [.Dict [] [] pd] (X.blk s H scope (compEnvC scope cl C X.env) fp).env) (htr2 : ∀ s H C cl fp, starEach [.Dict [] [] pd] (X.blk s H scope (compEnvC scope cl C X.env) fp).env = (false, eval (.Dict [] [] pd) (X.blk s H scope (compEnvC scope cl C X.env) fp).env) :: starEach [] (X.blk s H scope (compEnvC scope cl C X.env) fp).env)
    (hns : notStar (.ListComp (.Tuple [.Name x pt, .Dict [] [] pd] kk tpos) [⟨.Name x px, iter, [], 0⟩] scope p) = true) :
    PE X (.Call (.Name "dict" pc) [.ListComp (.Tuple [.Name x pt, .Dict [] [] pd] kk tpos) [⟨.Name x px, iter, [], 0⟩] scope p] [] pos) (tE X.K (ddNew j it)) := by
  have h := pe_lc (pos := p) (own := [(x, j)]) hc hN hi (blkOk_by ok) hg (fun s H C cl fp => pts_nil) (fun s H C cl fp => pe_tup (x1 := kk) (pos := tpos) (pa_cons (he s H C cl fp) (pa_cons pe_dnewK pa_nil (htr2 s H C cl fp)) (htr s H C cl fp))) hs
  refine pe_weak (pe_callTy (call_dictP hc) hgl hm hv (pa_cons h pa_nil (star_ok hns)) (by decide) (by decide) (star_ok hns) rfl) ?_
  rintro σ H Q ⟨Z, ρ, fp, r, ρ3, g, e, k⟩
  obtain ⟨⟨xs, ρ1⟩, e1, e⟩ := Option.bind_eq_some_iff.mp e
  obtain ⟨ns, e2, e⟩ := Option.bind_eq_some_iff.mp e
  obtain ⟨⟨nd, hl, hj⟩, e⟩ := ite_some e
  cases e
  have ex : xs = ns.map .int := intsOf_eq e2
  refine ⟨Z, ρ, fp, xs, ρ1, g, e1, fun Z1 H1 fp1 J g1 P1 wk => fun D hD => ?_⟩
  have hln : ns.length = xs.length := by rw [ex, List.length_map]
  refine ⟨fun i m H2 => i + m = xs.length ∧ ∃ ps, ps.map (·.1) = ns.take i ∧ MadeD H1 H2 D ps, ⟨xs.length, Nat.zero_add _, [], rfl, ⟨?_, upd_same, (fun p hp => nomatch hp), List.Pairwise.nil⟩⟩, ?_⟩
  · intro b o hb
    rw [upd_ne (fun z => by rw [z, hD] at hb; cases hb)]; exact hb
  rintro i m H2 ⟨hm2, ps, hps, M⟩
  have P2 : Post Z1 H1 (E fp1) Z1 H2 (E fp1) := ext_post M.ext
  have g2 := g1.ext M.ext
  have hlen : ps.length = (ns.take i).length := by rw [← hps, List.length_map]
  by_cases hi2 : i < xs.length
  · refine .inr ⟨wk.goes Z1 H2 _ i P2 g2.sub hi2, fun H3 => i + 1 + (m - 1) = xs.length ∧ ∃ ps, ps.map (·.1) = ns.take (i + 1) ∧ MadeD H1 H3 D ps, fun H3 q => ⟨m - 1, by omega, q⟩, fun v H3 hy => ?_⟩
    have hin : i < ns.length := by omega
    have hx : xs[i]? = some (.int ns[i]) := by rw [ex, List.getElem?_map, List.getElem?_eq_getElem hin]; rfl
    have o := wk.yields Z1 H2 _ i v H3 (.int ns[i]) P2 g2.sub hx hy
    cases o with
    | same hr =>
      cases hr
      have hjs : j < (wipe σ [j]).length := by rw [wipe_length, g1.len]; exact hj
      refine ⟨wipe_keep (vs := [j]) (keepS.set (by simp [kpv])), ?_⟩
      unfold tYes
      simp only [if_true]
      refine ⟨.int ns[i], List.getElem?_set_self (l := wipe σ [j]) hjs, fun q hq => ⟨Nat.le_trans (show 2 ≤ 16777216 by decide) (show 16777216 ≤ sizeLine by rw [sizeLine_eq]; decide), fun t ht => ?_⟩⟩
      have htq : t ≠ q := fun z => by rw [z, upd_same] at ht; cases ht
      have ht2 : H2 t = none := by rw [upd_ne htq] at ht; exact ht
      have hDq : D ≠ q := fun z => by rw [← z, M.lst] at hq; cases hq
      have hDt : D ≠ t := fun z => by rw [← z, M.lst] at ht2; cases ht2
      have keep : ∀ b o, H2 b = some o → b ≠ D → upd (upd (upd H2 q (.dK [])) t (.tup [.int ns[i], .ref q])) D (.lst ((ps.map fun p => V.ref p.2.1) ++ [.ref t])) b = some o := fun b o hb nb => by
        rw [upd_ne nb, upd_ne (fun z => by rw [z, ht2] at hb; cases hb), upd_ne (fun z => by rw [z, hq] at hb; cases hb)]
        exact hb
      have h1q : H1 q = none := by
        cases z : H1 q with
        | none => rfl
        | some o => rw [M.ext q o z] at hq; cases hq
      refine ⟨ps.map fun p => V.ref p.2.1, by rw [upd_ne hDt, upd_ne hDq]; exact M.lst, ?_, by omega, ps ++ [(ns[i], t, q)], ?_, ?_⟩
      · rw [List.length_map, hlen, List.length_take]
        exact Nat.lt_of_lt_of_le (show min i ns.length < 1000 by omega) (Nat.le_trans (by decide) (show 16777216 ≤ sizeLine by rw [sizeLine_eq]; decide))
      · rw [List.map_append, hps, List.take_succ, List.getElem?_eq_getElem hin]
        rfl
      · refine ⟨fun b o hb => ?_, ?_, fun p hp => ?_, ?_⟩
        · exact keep b o (M.ext b o hb) fun z => by rw [z, hD] at hb; cases hb
        · rw [upd_same, List.map_append]; rfl
        · rcases List.mem_append.mp hp with hp | hp
          · obtain ⟨a1, a2, a3, a4, a5⟩ := M.at_ p hp
            exact ⟨keep _ _ a1 a3, keep _ _ a2 a4, a3, a4, a5⟩
          · have e := List.mem_singleton.mp hp
            subst e
            refine ⟨?_, ?_, fun z => hDt z.symm, fun z => hDq z.symm, h1q⟩
            · rw [upd_ne (fun z => hDt z.symm), upd_same]
            · rw [upd_ne (fun z => hDq z.symm), upd_ne (fun z => htq z.symm), upd_same]
        · rw [List.map_append, List.nodup_append]
          refine ⟨M.nd, by simp, fun y hy z hz e => ?_⟩
          obtain ⟨p, hp, rfl⟩ := List.mem_map.mp hy
          have hz' := List.mem_singleton.mp hz
          rw [hz'] at e
          have := (M.at_ p hp).2.1
          rw [e, hq] at this
          cases this
  · have he : i = xs.length := by omega
    refine .inl ⟨by rw [he]; exact wk.stops Z1 H2 _ P2 g2.sub, ?_⟩
    have hall : ps.map (·.1) = ns := by rw [hps, he, ← hln, List.take_length]
    have hmk : mergeK [] (ps.map fun p => ((.inl p.1 : Key), V.ref p.2.2)) = ps.map fun p => ((.inl p.1 : Key), V.ref p.2.2) := by
      rw [put_nil _ [] (by
        rw [List.map_nil, List.nil_append, List.map_map]
        have nd' : (ps.map (·.1)).Nodup := by rw [hall]; exact nd
        exact List.pairwise_map.mpr ((List.pairwise_map.mp nd').imp fun h z => h (Sum.inl.inj z)))]
      rfl
    refine ⟨D, ps.map fun p => p.2.1, ps.map fun p => ((.inl p.1 : Key), V.ref p.2.2), rfl, SqL.of (by rw [List.map_map]; exact M.lst), ?_, fun q hq => ?_⟩
    · have : ∀ {l : List (Int × Addr × Addr)}, (∀ p ∈ l, H2 p.2.1 = some (.tup [.int p.1, .ref p.2.2])) → Paired (fun t kv => SqT X.K H2 t [kV kv.1, kv.2]) (l.map fun p => p.2.1) (l.map fun p => ((.inl p.1 : Key), V.ref p.2.2)) := by
        intro l
        induction l with
        | nil => exact fun _ => .nil
        | cons p l ih => exact fun h => .cons (SqT.of (h p List.mem_cons_self)) (ih fun q hq => h q (List.mem_cons_of_mem _ hq))
      exact this fun p hp => (M.at_ p hp).1
    · rw [hmk]
      have hz := g2.sub.none hq
      have h1q : H1 q = none := by
        cases z : H1 q with
        | none => rfl
        | some o => rw [M.ext q o z] at hq; cases hq
      have nqs : ∀ p ∈ ps, p.2.2 ≠ q := fun p hp z => by
        have := (M.at_ p hp).2.1
        rw [z, hq] at this; cases this
      have es : (ns.map fun n => ((.inl n : Key), FL.D.dic [])) = ps.map fun p => ((.inl p.1 : Key), FL.D.dic []) := by rw [← hall, List.map_map]; rfl
      have kz : Same Z1 (upd Z1 q (.dK (ps.map fun p => ((.inl p.1 : Key), V.ref p.2.2)))) := upd_keep hz
      have own := made_own (K := X.K) (Z := Z1) (H1 := H1) (H := H2) (H' := upd H2 q (.dK (ps.map fun p => ((.inl p.1 : Key), V.ref p.2.2)))) (D := D) (fun b hb => g1.sub.none hb) (upd_keep hq) M.at_ M.nd
      have own2 := own.mono (Z' := upd Z1 q (.dK (ps.map fun p => ((.inl p.1 : Key), V.ref p.2.2)))) kz (fun b hb o e => e) (fun b hb => by
        obtain ⟨p, hp, rfl⟩ := List.mem_map.mp hb
        rw [upd_ne (nqs p hp)]
        exact g1.sub.none (M.at_ p hp).2.2.2.2)
      rw [es] at k
      refine k _ _ (.ref q) fp1 (ps.map fun p => p.2.2) (g2.newZ (o := .dK _) hq fun ps z => by cases z) ⟨q, _, rfl, upd_same, own2⟩ (fun b hb z => ?_) (P1.trans ?_)
      · obtain ⟨p, hp, rfl⟩ := List.mem_map.mp hb
        obtain ⟨⟨o, ho, _⟩, _⟩ := g1.there z
        rw [(M.at_ p hp).2.2.2.2] at ho; cases ho
      · have ee : ∀ b o, H1 b = some o → upd H2 q (.dK (ps.map fun p => ((.inl p.1 : Key), V.ref p.2.2))) b = some o := fun b o hb => upd_keep hq _ _ (M.ext b o hb)
        refine ⟨kz, fun b o hb _ _ => ee b o hb, fun b hb => ?_, fun b o hb => ?_, Grow.same ee, .ext ee⟩
        · rcases hb with hb | hb
          · exact .inl hb
          · obtain ⟨p, hp, rfl⟩ := List.mem_map.mp hb
            exact .inr (M.at_ p hp).2.2.2.2
        · by_cases c : b = q
          · rw [c]; exact .inr (.inr h1q)
          · rw [upd_ne c] at hb; exact .inl hb
end
end FL

set_option Elab.async false
set_option maxRecDepth 100000
set_option maxHeartbeats 2000000
namespace FL
open PySem PySem.Spec L2
/-- a name that holds such a dict -/
def vrD (i : Nat) : Sm := fun ρ => match ρ.getD i none with
  | some (.dd _) => some (.sl i, ρ)
  | _ => none
section
variable {X : Cx} {x : Str} {pos : Pos}
theorem vd_ (i : Nat) (hN : X.N[i]? = some x) (hv : visB X.env.scope x = true) (hd : duB x = false) : PE X (.Name x pos) (tE X.K (vrD i)) := pe_weak (tv_ i hN hv hd) fun σ H Q ⟨Z, ρ, fp, r, ρ', g, e, k⟩ => by
  unfold vrD at e
  cases q : ρ.getD i none with
  | none => rw [q] at e; cases e
  | some t =>
    rw [q] at e
    obtain ⟨v, hv, o⟩ := g.at q
    cases t with
    | dd es =>
      cases e
      exact ⟨v, getD_get hv, k Z H v fp [] g ⟨hv, rfl⟩ (fun p hp => by cases hp) (Post.refl.weak fun p q => q.elim id fun z => by cases z)⟩
    | _ => cases e
end
section
variable {i j je jx : Nat} {ρ : En} {es : List (Key × D)} {k : Key} {Fx Fe Fv : Sm} {it : Im}
def vrDT (i : Nat) (ρ : En) : Option T → Option (R × En)
  | some (.dd _) => some (.sl i, ρ)
  | _ => none
@[simp] theorem vrD_ev : vrD i ρ = vrDT i ρ (ρ.getD i none) := by unfold vrD vrDT; rfl
@[simp] theorem vrDT_dd : vrDT i ρ (some (.dd es)) = some (.sl i, ρ) := rfl
@[simp] theorem giv_dd : givT i (some (.dd es)) ρ = some (.dd es, ρ.set i (some .mv)) := rfl
@[simp] theorem isDd_dd : isDd (some (.dd es)) = true := rfl
@[simp] theorem ddT_dd : ddT k (some (.dd es)) = dfind es k := rfl
@[simp] theorem ddIn_ev : ddIn Fx i Fe ρ = (Fx ρ).bind fun p1 => if isDd (p1.2.getD i none) = true then (Fe p1.2).bind fun p2 => (peek p2.2 p2.1).bind fun ke => (keyOf ke).bind fun k => (ddT k (p2.2.getD i none)).bind fun d => (peek p2.2 p1.1).bind fun dx => (op2 .isin dx d).map fun r => (r, p2.2) else none := rfl
def getT (kx : Key) (ρ : En) : D → Option (R × En)
  | .dic kds => some (.fz ((dfind kds kx).getD .non), ρ)
  | _ => none
@[simp] theorem getT_dic {kds : List (Key × D)} : getT k ρ (.dic kds) = some (.fz ((dfind kds k).getD .non), ρ) := rfl
@[simp] theorem ddGet_ev : ddGet i Fe j ρ = if isDd (ρ.getD i none) = true then (Fe ρ).bind fun p2 => (peek p2.2 p2.1).bind fun ke => (keyOf ke).bind fun k => (ddT k (p2.2.getD i none)).bind fun d => (peek p2.2 (.sl j)).bind fun dx => (keyOf dx).bind fun kx => getT kx p2.2 d else none := by
  unfold ddGet getT
  rfl
def ddPut (i : Nat) (k : Key) (d : D) (ρ : En) : Option T → Option (Fl × En)
  | some (.dd es) => some (.nx, ρ.set i (some (.dd (setE es k d))))
  | _ => none
@[simp] theorem ddPut_dd {d : D} : ddPut i k d ρ (some (.dd es)) = some (.nx, ρ.set i (some (.dd (setE es k d)))) := rfl
def stT (i : Nat) (k kx : Key) (v : D) (ρ : En) : D → Option (Fl × En)
  | .dic kds => if kds.length < sizeLine then ddPut i k (.dic (dput kds kx v)) ρ (ρ.getD i none) else none
  | _ => none
@[simp] theorem stT_dic {kds : List (Key × D)} {kx : Key} {v : D} : stT i k kx v ρ (.dic kds) = if kds.length < sizeLine then ddPut i k (.dic (dput kds kx v)) ρ (ρ.getD i none) else none := rfl
@[simp] theorem ddSt_ev : ddSt i je jx Fv ρ = (Fv ρ).bind fun p1 => (frz p1.2 p1.1).bind fun z => (peek z.2 (.sl je)).bind fun ke => (keyOf ke).bind fun k => (peek z.2 (.sl jx)).bind fun dx => (keyOf dx).bind fun kx => (ddT k (z.2.getD i none)).bind fun d => stT i k kx z.1 z.2 d := by
  unfold ddSt stT ddPut
  rfl
@[simp] theorem ddNew_ev : ddNew j it ρ = (it ρ).bind fun p => (intsOf p.1).bind fun ns => if ns.Nodup ∧ ns.length < 1000 ∧ j < p.2.length then some (.nw (.dd (ns.map fun n => (.inl n, .dic []))), p.2) else none := rfl
def itDT (ρ : En) : Option T → Option (List D × En)
  | some (.dd es) => some (es.map fun p => dOf p.1, ρ)
  | _ => none
@[simp] theorem itDD_ev : itDD i ρ = itDT ρ (ρ.getD i none) := by unfold itDD itDT; rfl
@[simp] theorem itDT_dd : itDT ρ (some (.dd es)) = some (es.map fun p => dOf p.1, ρ) := rfl
end
end FL

set_option Elab.async false
set_option maxRecDepth 100000
set_option maxHeartbeats 0
namespace LW
open PySem PySem.Spec PyProof.Rows L2 FL
open L2 (St)
theorem bt_len : bootBuiltins "len" = some (.builtin "len") := by decide +kernel
theorem bt_abs : bootBuiltins "abs" = some (.builtin "abs") := by decide +kernel
theorem bt_min : bootBuiltins "min" = some (.builtin "min") := by decide +kernel
theorem bt_max : bootBuiltins "max" = some (.builtin "max") := by decide +kernel
theorem bt_sum : bootBuiltins "sum" = some (.builtin "sum") := by decide +kernel
theorem bt_all : bootBuiltins "all" = some (.builtin "all") := by decide +kernel
theorem bt_any : bootBuiltins "any" = some (.builtin "any") := by decide +kernel
theorem bt_sorted : bootBuiltins "sorted" = some (.builtin "sorted") := by decide +kernel
theorem bt_int : bootBuiltins "int" = some (.type "int") := by decide +kernel
theorem bt_list : bootBuiltins "list" = some (.type "list") := by decide +kernel
theorem bt_tuple : bootBuiltins "tuple" = some (.type "tuple") := by decide +kernel
theorem bt_dict : bootBuiltins "dict" = some (.type "dict") := by decide +kernel
theorem bt_repr : bootBuiltins "repr" = some (.builtin "repr") := by decide +kernel
theorem bt_str : bootBuiltins "str" = some (.type "str") := by decide +kernel
theorem bt_bool : bootBuiltins "bool" = some (.type "bool") := by decide +kernel
def top (i : Nat) : Stmt := PySem.Challenge.pw_floodline_k06_frames_switch_by_switch.main.body.getD i (.Pass ⟨0, 0, 0, 0⟩)
def fn : List He.DefD := [⟨("_law_reel", none), "_law_reel", "_law_reel", defArgs (top 41), defBody (top 41), defScope (top 41), [], []⟩,
  ⟨("_law_draw", none), "_law_draw", "_law_draw", defArgs (top 42), defBody (top 42), defScope (top 42), [], []⟩,
  ⟨("_law_small", none), "_law_small", "_law_small", defArgs (top 47), defBody (top 47), defScope (top 47), [], []⟩,
  ⟨("_law_sends", none), "_law_sends", "_law_sends", defArgs (top 44), defBody (top 44), defScope (top 44), [], []⟩,
  ⟨("is_host", none), "is_host", "is_host", defArgs (top 13), defBody (top 13), defScope (top 13), [], []⟩,
  ⟨("is_integer", none), "is_integer", "is_integer", defArgs (top 12), defBody (top 12), defScope (top 12), [], []⟩,
  ⟨("is_position", none), "is_position", "is_position", defArgs (top 14), defBody (top 14), defScope (top 14), [], []⟩,
  ⟨("is_line", none), "is_line", "is_line", defArgs (top 15), defBody (top 15), defScope (top 15), [], []⟩,
  ⟨("check_line", none), "check_line", "check_line", defArgs (top 16), defBody (top 16), defScope (top 16), [], []⟩,
  ⟨("is_frame", none), "is_frame", "is_frame", defArgs (top 18), defBody (top 18), defScope (top 18), [], []⟩,
  ⟨("is_frames", none), "is_frames", "is_frames", defArgs (top 19), defBody (top 19), defScope (top 19), [], []⟩,
  ⟨("check_frames", none), "check_frames", "check_frames", defArgs (top 20), defBody (top 20), defScope (top 20), [], []⟩,
  ⟨("Switches", some "__init__"), "__init__", "Switches.__init__", defArgs (inClass (top 33) 0), defBody (inClass (top 33) 0), defScope (inClass (top 33) 0), [], []⟩,
  ⟨("silent_state", none), "silent_state", "silent_state", defArgs (top 24), defBody (top 24), defScope (top 24), [], []⟩,
  ⟨("is_interval", none), "is_interval", "is_interval", defArgs (top 21), defBody (top 21), defScope (top 21), [], []⟩,
  ⟨("is_state", none), "is_state", "is_state", defArgs (top 22), defBody (top 22), defScope (top 22), [], []⟩,
  ⟨("check_state", none), "check_state", "check_state", defArgs (top 23), defBody (top 23), defScope (top 23), [], []⟩,
  ⟨("started", none), "started", "started", defArgs (top 37), defBody (top 37), defScope (top 37), [], []⟩,
  ⟨("contains", none), "contains", "contains", defArgs (top 25), defBody (top 25), defScope (top 25), [], []⟩,
  ⟨("kind_by", none), "kind_by", "kind_by", defArgs (top 31), defBody (top 31), defScope (top 31), [], []⟩,
  ⟨("reach_by", none), "reach_by", "reach_by", defArgs (top 32), defBody (top 32), defScope (top 32), [], []⟩,
  ⟨("joined", none), "joined", "joined", defArgs (top 26), defBody (top 26), defScope (top 26), [], []⟩,
  ⟨("Switches", some "pass_on"), "pass_on", "Switches.pass_on", defArgs (inClass (top 33) 1), defBody (inClass (top 33) 1), defScope (inClass (top 33) 1), [], []⟩,
  ⟨("known_after", none), "known_after", "known_after", defArgs (top 39), defBody (top 39), defScope (top 39), [], [("start", .non)]⟩,
  ⟨("check_host", none), "check_host", "check_host", defArgs (top 17), defBody (top 17), defScope (top 17), [], []⟩,
  ⟨("check_single", none), "check_single", "check_single", defArgs (top 34), defBody (top 34), defScope (top 34), [], []⟩,
  ⟨("kind_of", none), "kind_of", "kind_of", defArgs (top 35), defBody (top 35), defScope (top 35), [], []⟩,
  ⟨("reach_of", none), "reach_of", "reach_of", defArgs (top 36), defBody (top 36), defScope (top 36), [], []⟩,
  ⟨("_law_flow", none), "_law_flow", "_law_flow", defArgs (top 45), defBody (top 45), defScope (top 45), [], []⟩,
  ⟨("_law_ends", none), "_law_ends", "_law_ends", defArgs (top 46), defBody (top 46), defScope (top 46), [], []⟩,
  ⟨("kinds_of", none), "kinds_of", "kinds_of", defArgs (top 38), defBody (top 38), defScope (top 38), [], [("start", .non)]⟩,
  ⟨("_law_right", none), "_law_right", "_law_right", defArgs (top 48), defBody (top 48), defScope (top 48), [], []⟩,
  ⟨("law", none), "law", "law", defArgs (top 49), defBody (top 49), defScope (top 49), [], []⟩]
def fa : List He.Fa := [.free "int", .free "len", .free "list", .free "range", .free "sorted", .free "isinstance", .free "str", .int "MOST_LETTERS" 8, .str "LETTERS" "abcdefghijklmnopqrstuvwxyz", .free "all", .free "bool", .int "FARTHEST" 1000000000000000000000000000000, .free "dict", .int "MOST_HOSTS" 40, .free "set", .free "tuple", .int "MOST_FRAMES" 300, .str "ALL" "all", .str "DIRECT" "direct", .str "FLOOD" "flood", .free "min", .free "max", .free "repr", .glo "_law_reel", .glo "_law_draw", .glo "_law_small", .glo "_law_sends", .glo "is_host", .glo "is_integer", .glo "is_position", .glo "is_line", .glo "check_line", .glo "is_frame", .glo "is_frames", .glo "check_frames", .glo "Switches", .mkr "Switches", .glo "silent_state", .glo "is_interval", .glo "is_state", .glo "check_state", .glo "started", .glo "contains", .glo "kind_by", .glo "reach_by", .glo "joined", .cls "Switches", .meth "Switches" "pass_on", .glo "known_after", .glo "check_host", .glo "check_single", .glo "kind_of", .glo "reach_of", .glo "_law_flow", .glo "_law_ends", .glo "kinds_of", .glo "_law_right", .noat "Switches" "places", .noat "Switches" "intervals", .glo "law"]
abbrev R : PySem.W.OpenRow := PySem.W.OpenLaw.row PySem.Challenge.rw_floodline_k06_frames_switch_by_switch
abbrev hk : PySem.W.Hook := He.hookX 4 fa fn [] [FL.lamD] (fun _ => true)
def ob (s : PySem.W.SharedT) : He.AlX := He.obsX 4 fa fn [] [FL.lamD] (fun _ => true) (HandSHeadRun.getT s)
theorem ob_eq (s : PySem.W.SharedT) : ob s = hk.obs s.abs := He.obsX_eq (HandSHeadRun.getT_eq s)
def loose : List PySem.Str := (["__name__", "FloodError", "InvalidLine", "InvalidState", "InvalidFrames", "InvalidHost", "LETTERS", "MOST_LETTERS", "MOST_HOSTS", "MOST_FRAMES", "FARTHEST", "is_integer", "is_host", "is_position", "is_line", "check_line", "check_host", "is_frame", "is_frames", "check_frames", "is_interval", "is_state", "check_state", "silent_state", "contains", "joined", "ALL", "FLOOD", "DIRECT", "kind_by"] : List PySem.Str) ++ (["reach_by", "Switches", "check_single", "kind_of", "reach_of", "started", "kinds_of", "known_after", "_law_reel", "_law_draw", "_law_net", "_law_sends", "_law_flow", "_law_ends", "_law_small", "_law_right"] : List PySem.Str)
def ats : List (Str × Str) := [("Switches", "places"), ("Switches", "intervals")]
section
variable {P : Program} {w : World} {K : PySem.W.Frag} {mg : Str → Option Value} {base h : Heap}
theorem ats_ok (c : He.SaysD fa fn K) : AtsOk K ats := by
  intro x f h
  rcases List.mem_cons.mp h with e | h
  · cases e; exact ⟨He.cls_ok (c.fact 46 rfl), He.noat_ok (c.fact 57 rfl)⟩
  rcases List.mem_cons.mp h with e | h
  · cases e; exact ⟨He.cls_ok (c.fact 46 rfl), He.noat_ok (c.fact 58 rfl)⟩
  cases h
def l__law_reel_1 : Ss := (setF 1 (bin (op2 .mod) (bin (op2 .add) (bin (op2 .add) (bin (op2 .mul) (vr 1) (vr 1)) (bin (op2 .mod) (vr 2) (cst (.int 1000000000000000003)))) (cst (.int 29))) (bin (op2 .sub) (bin (op2 .mul) (bin (op2 .pow) (cst (.int 2)) (cst (.int 64))) (bin (op2 .pow) (cst (.int 2)) (cst (.int 63)))) (cst (.int 1)))))
def b__law_reel : Ss := (seqF (setF 1 (bin (op2 .pow) (cst (.int 29)) (cst (.int 27)))) (seqF (forF (itL (slc (vr 0) none (some (cst (.int 63))))) (gNm 2) l__law_reel_1) (seqF (setF 3 (lcF [2] (itL (slc (vr 0) none (some (cst (.int 63))))) (gNm 2) (some (bin (op2 .ge) (vr 2) (bin (op2 .pow) (cst (.int 10)) (cst (.int 18))))) (bin (op2 .sub) (vr 2) (bin (op2 .pow) (cst (.int 10)) (cst (.int 18)))))) (rtF (froz [(vr 3), (bin (op2 .add) (lcF [2] (itL (slc (vr 0) none (some (cst (.int 63))))) (gNm 2) none (bin (op2 .mod) (vr 2) (cst (.int 1000003)))) (froz [(cst (.int 57))] lstF)), (cst (.int 0)), (vr 1)] lstF)))))
def f__law_reel : Fn := defF 1 4 (kpl [0]) b__law_reel
theorem ok__law_reel (X0 : K.In h) (G : h.Ns mainGlobals mg) (c : He.SaysD fa fn K) (TB : LamX.TabB base mg (He.cT K lamD).1 (He.cT K lamD).2) : CalG P w K mg base 1 "_law_reel" f__law_reel [] := by
  obtain ⟨fd, F⟩ := c.def_ 0 rfl
  have S : FnScope (["script", "stir", "cell", "great"] : List Str) (["script"] : List Str) (defScope (top 41)) := ⟨rfl, rfl, rfl, by decide +kernel, rfl, by decide +kernel, by decide +kernel⟩
  have b : Binds K fd (["script"] : List Str) [] := F.bindsN fun _ _ _ _ _ _ us hl => match us, hl with | [_], _ => rfl
  exact ⟨_, fd, ["script"], [], [], (g_mk (k := 0) (kp := (kpl [0])) (Fb := b__law_reel) rfl rfl F S fun cdv B below s J hr hg => by
    exact (ss_cons (ss_set (i := 1) S.nd rfl (loc_of (by rfl)) rfl (.inl rfl) (se_bin opd_pow ki_ ki_) rfl) (ss_cons (ss_for PassesOwn.never rfl (si_val (se_slc (v_ 0 rfl (by rfl) (by rfl)) so_none (so_some ki_))) (tg_ (kpl [0]) 2 S.nd rfl (by rfl) rfl (.inl rfl)) (ss_one (ss_set (i := 1) S.nd rfl (loc_of (by rfl)) rfl (.inl rfl) (se_bin opd_mod (se_bin opd_add (se_bin opd_add (se_bin opd_mul (v_ 1 rfl (by rfl) (by rfl)) (v_ 1 rfl (by rfl) (by rfl))) (se_bin opd_mod (v_ 2 rfl (by rfl) (by rfl)) ki_)) ki_) (se_bin opd_sub (se_bin opd_mul (se_bin opd_pow ki_ ki_) (se_bin opd_pow ki_ ki_)) ki_)) rfl)) (fun _ => rfl)) (ss_cons (ss_setLc (own := [("cell", 2)]) (j := 3) rfl S.nd rfl rfl rfl (by kernel_rfl) (si_val (se_slc (v_ 0 rfl (by rfl) (by rfl)) so_none (so_some ki_))) (by kernel_rfl) (fun _ _ _ _ _ => (tg_ (kpv [2]) 2 S.nd rfl (by rfl) rfl (by first | exact .inr rfl | exact .inl rfl))) (fun _ _ _ _ _ => (spt_one (st_cmp opd_ge (v_ 2 rfl (by rfl) (by rfl)) (se_bin opd_pow ki_ ki_) rfl))) (fun _ _ _ _ _ => (se_bin opd_sub (v_ 2 rfl (by rfl) (by rfl)) (se_bin opd_pow ki_ ki_))) (fun _ => rfl)) (ss_one (ss_ret (se_lst (sa_cons rfl (v_ 3 rfl (by rfl) (by rfl)) (sa_cons rfl (se_bin opd_add (se_lc (own := [("cell", 2)]) rfl S.nd (si_val (se_slc (v_ 0 rfl (by rfl) (by rfl)) so_none (so_some ki_))) (by kernel_rfl) (fun _ _ _ _ _ => (tg_ (kpv [2]) 2 S.nd rfl (by rfl) rfl (by first | exact .inr rfl | exact .inl rfl))) (fun _ _ _ _ _ => spt_nil) (fun _ _ _ _ _ => (se_bin opd_mod (v_ 2 rfl (by rfl) (by rfl)) ki_)) (fun _ => rfl)) (se_lst (sa_cons rfl ki_ sa_nil))) (sa_cons rfl ki_ (sa_cons rfl (v_ 1 rfl (by rfl) (by rfl)) sa_nil))))))))))), He.glo_ok X0 G (c.fact 23 rfl), F.kp, b, .nil, fun _ => .nil⟩
def b__law_draw : Ss := (seqF (ifF (bin (op2 .ne) (bin ixD (vr 0) (cst (.int 0))) (froz [] lstF)) (seqF (setF 2 (bin ixD (bin ixD (vr 0) (cst (.int 0))) (cst (.int 0)))) (seqF (stF (bin (op2 .add) (repF (froz [(bin (op2 .fdv) (vr 2) (vr 1))] lstF) (cal (d1 intF) [(bin (op2 .ge) (vr 2) (vr 1))])) (slc (bin ixD (vr 0) (cst (.int 0))) (some (cst (.int 1))) none)) (vr 0) (cst (.int 0))) (rtF (bin (op2 .mod) (vr 2) (vr 1))))) nxF) (seqF (stF (bin (op2 .add) (bin ixD (vr 0) (cst (.int 2))) (cst (.int 1))) (vr 0) (cst (.int 2))) (seqF (setF 3 (bin ixD (bin ixD (vr 0) (cst (.int 1))) (bin (op2 .mod) (bin ixD (vr 0) (cst (.int 2))) (cal (d1 lenF) [(bin ixD (vr 0) (cst (.int 1)))])))) (seqF (setF 4 (bin (op2 .add) (bin (op2 .add) (bin (op2 .mul) (bin ixD (vr 0) (cst (.int 3))) (bin ixD (vr 0) (cst (.int 3)))) (bin (op2 .mul) (bin (op2 .add) (vr 3) (cst (.int 11))) (cst (.int 32452867)))) (bin (op2 .mul) (bin ixD (vr 0) (cst (.int 2))) (cst (.int 999953))))) (seqF (stF (bin (op2 .mod) (vr 4) (bin (op2 .sub) (bin (op2 .mul) (bin (op2 .pow) (cst (.int 2)) (cst (.int 64))) (bin (op2 .pow) (cst (.int 2)) (cst (.int 63)))) (cst (.int 1)))) (vr 0) (cst (.int 3))) (rtF (bin (op2 .mod) (bin (op2 .fdv) (bin ixD (vr 0) (cst (.int 3))) (bin (op2 .pow) (cst (.int 2)) (cst (.int 41)))) (vr 1))))))))
def f__law_draw : Fn := defF 2 5 (kpl [0, 1]) b__law_draw
theorem ok__law_draw (X0 : K.In h) (G : h.Ns mainGlobals mg) (c : He.SaysD fa fn K) (TB : LamX.TabB base mg (He.cT K lamD).1 (He.cT K lamD).2) : CalG P w K mg base 1 "_law_draw" f__law_draw [] := by
  obtain ⟨fd, F⟩ := c.def_ 1 rfl
  have S : FnScope (["reel", "many", "rest", "extra", "stir"] : List Str) (["reel", "many"] : List Str) (defScope (top 42)) := ⟨rfl, rfl, rfl, by decide +kernel, rfl, by decide +kernel, by decide +kernel⟩
  have b : Binds K fd (["reel", "many"] : List Str) [] := F.bindsN fun _ _ _ _ _ _ us hl => match us, hl with | [_, _], _ => rfl
  exact ⟨_, fd, ["reel", "many"], [], [], (g_mk (k := 0) (kp := (kpl [0, 1])) (Fb := b__law_draw) rfl rfl F S fun cdv B below s J hr hg => by
    exact (ss_cons (ss_if (st_cmp (opd_ne (hu_ hr)) (se_ix (hu_ hr) (v_ 0 rfl (by rfl) (by rfl)) ki_ rfl) (se_lst sa_nil) rfl) (ss_cons (ss_set (i := 2) S.nd rfl (loc_of (by rfl)) rfl (.inl rfl) (se_ix (hu_ hr) (se_ix (hu_ hr) (v_ 0 rfl (by rfl) (by rfl)) ki_ rfl) ki_ rfl) rfl) (ss_cons (ss_st (hu_ hr) (se_bin opd_add (se_rep (se_lst (sa_cons rfl (se_bin opd_fdv (v_ 2 rfl (by rfl) (by rfl)) (v_ 1 rfl (by rfl) (by rfl))) sa_nil)) (se_callTy (cd_int) rfl (He.free_ok X0 G (c.fact 0 rfl)) bt_int (sa_cons rfl (se_cmp opd_ge (v_ 2 rfl (by rfl) (by rfl)) (v_ 1 rfl (by rfl) (by rfl)) rfl) sa_nil) rfl (by decide) (by rfl))) (se_slc (se_ix (hu_ hr) (v_ 0 rfl (by rfl) (by rfl)) ki_ rfl) (so_some ki_) so_none)) (v_ 0 rfl (by rfl) (by rfl)) ki_ (fun _ => rfl) rfl (by kernel_rfl) rfl) (ss_one (ss_ret (se_bin opd_mod (v_ 2 rfl (by rfl) (by rfl)) (v_ 1 rfl (by rfl) (by rfl))))))) ss_nil) (ss_cons (ss_st (hu_ hr) (se_bin opd_add (se_ix (hu_ hr) (v_ 0 rfl (by rfl) (by rfl)) ki_ rfl) ki_) (v_ 0 rfl (by rfl) (by rfl)) ki_ (fun _ => rfl) rfl (by kernel_rfl) rfl) (ss_cons (ss_set (i := 3) S.nd rfl (loc_of (by rfl)) rfl (.inl rfl) (se_ix (hu_ hr) (se_ix (hu_ hr) (v_ 0 rfl (by rfl) (by rfl)) ki_ rfl) (se_bin opd_mod (se_ix (hu_ hr) (v_ 0 rfl (by rfl) (by rfl)) ki_ rfl) (se_callB (cd_len) rfl (He.free_ok X0 G (c.fact 1 rfl)) bt_len (sa_cons rfl (se_ix (hu_ hr) (v_ 0 rfl (by rfl) (by rfl)) ki_ rfl) sa_nil) rfl (by decide) (by rfl))) rfl) rfl) (ss_cons (ss_set (i := 4) S.nd rfl (loc_of (by rfl)) rfl (.inl rfl) (se_bin opd_add (se_bin opd_add (se_bin opd_mul (se_ix (hu_ hr) (v_ 0 rfl (by rfl) (by rfl)) ki_ rfl) (se_ix (hu_ hr) (v_ 0 rfl (by rfl) (by rfl)) ki_ rfl)) (se_bin opd_mul (se_bin opd_add (v_ 3 rfl (by rfl) (by rfl)) ki_) ki_)) (se_bin opd_mul (se_ix (hu_ hr) (v_ 0 rfl (by rfl) (by rfl)) ki_ rfl) ki_)) rfl) (ss_cons (ss_st (hu_ hr) (se_bin opd_mod (v_ 4 rfl (by rfl) (by rfl)) (se_bin opd_sub (se_bin opd_mul (se_bin opd_pow ki_ ki_) (se_bin opd_pow ki_ ki_)) ki_)) (v_ 0 rfl (by rfl) (by rfl)) ki_ (fun _ => rfl) rfl (by kernel_rfl) rfl) (ss_one (ss_ret (se_bin opd_mod (se_bin opd_fdv (se_ix (hu_ hr) (v_ 0 rfl (by rfl) (by rfl)) ki_ rfl) (se_bin opd_pow ki_ ki_)) (v_ 1 rfl (by rfl) (by rfl))))))))))), He.glo_ok X0 G (c.fact 24 rfl), F.kp, b, .nil, fun _ => .nil⟩
def l__law_small_1 : Ss := (stF (mtF paD (vr 3) [(cll [(vr 0), (cal (d1 lenF) [(vr 3)])] [] f__law_draw)]) (vr 4) (mtF paD (vr 2) [(cll [(vr 0), (cal (d1 lenF) [(vr 2)])] [] f__law_draw)]))
def b__law_small : Ss := (seqF (parF3 2 3 4 (froz [(cst (.str "b")), (cst (.str "a")), (cst (.str "zz")), (cst (.str "c")), (cst (.str "ab")), (cst (.str "k")), (cst (.str "d"))] lstF) (lrF1 (cst (.int 31))) (newD (.dic []))) (seqF (forF (itR1 (bin (op2 .add) (cst (.int 1)) (cll [(vr 0), (vr 1)] [] f__law_draw))) (gNm 5) l__law_small_1) (rtF (vr 4))))
def f__law_small : Fn := defF 2 6 (kpl [0, 1]) b__law_small
theorem ok__law_small (X0 : K.In h) (G : h.Ns mainGlobals mg) (c : He.SaysD fa fn K) (TB : LamX.TabB base mg (He.cT K lamD).1 (He.cT K lamD).2) : CalG P w K mg base 2 "_law_small" f__law_small [] := by
  obtain ⟨fd, F⟩ := c.def_ 2 rfl
  have S : FnScope (["reel", "most", "names", "places", "found", "turn"] : List Str) (["reel", "most"] : List Str) (defScope (top 47)) := ⟨rfl, rfl, rfl, by decide +kernel, rfl, by decide +kernel, by decide +kernel⟩
  have b : Binds K fd (["reel", "most"] : List Str) [] := F.bindsN fun _ _ _ _ _ _ us hl => match us, hl with | [_, _], _ => rfl
  exact ⟨_, fd, ["reel", "most"], [], [], (g_mk (k := 1) (kp := (kpl [0, 1])) (Fb := b__law_small) rfl rfl F S fun cdv B below s J hr hg => by
    exact (ss_cons (ss_par3 (i := 2) (j := 3) (q := 4) rfl S.nd rfl rfl rfl (by decide) (by decide) (by decide) rfl rfl rfl rfl rfl rfl (sa_cons rfl (se_lst (sa_cons rfl ks_ (sa_cons rfl ks_ (sa_cons rfl ks_ (sa_cons rfl ks_ (sa_cons rfl ks_ (sa_cons rfl ks_ (sa_cons rfl ks_ sa_nil)))))))) (sa_cons rfl (se_listRg1 rfl rfl (He.free_ok X0 G (c.fact 2 rfl)) rfl (He.free_ok X0 G (c.fact 3 rfl)) ki_ rfl) (sa_cons rfl se_dnewK sa_nil))) (by kernel_rfl) rfl) (ss_cons (ss_for PassesOwn.never rfl (si_range1 rfl (He.free_ok X0 G (c.fact 3 rfl)) (se_bin opd_add ki_ (se_call (ok__law_draw X0 G c TB) hr hg rfl rfl (sa_cons rfl (v_ 0 rfl (by rfl) (by rfl)) (sa_cons rfl (v_ 1 rfl (by rfl) (by rfl)) sa_nil)) (by rfl) rfl)) rfl) (tg_ (kpl [0, 1]) 5 S.nd rfl (by rfl) rfl (.inl rfl)) (ss_one (ss_st (hu_ hr) (se_bm PySem.F.slot_list_pop PySem.F.type_list_pop mt_popAt op_popAt (v_ 3 rfl (by rfl) (by rfl)) (sa_cons rfl (se_call (ok__law_draw X0 G c TB) hr hg rfl rfl (sa_cons rfl (v_ 0 rfl (by rfl) (by rfl)) (sa_cons rfl (se_callB (cd_len) rfl (He.free_ok X0 G (c.fact 1 rfl)) bt_len (sa_cons rfl (v_ 3 rfl (by rfl) (by rfl)) sa_nil) rfl (by decide) (by rfl)) sa_nil)) (by rfl) rfl) sa_nil) rfl rfl rfl (star_ok rfl) rfl) (v_ 4 rfl (by rfl) (by rfl)) (se_bm PySem.F.slot_list_pop PySem.F.type_list_pop mt_popAt op_popAt (v_ 2 rfl (by rfl) (by rfl)) (sa_cons rfl (se_call (ok__law_draw X0 G c TB) hr hg rfl rfl (sa_cons rfl (v_ 0 rfl (by rfl) (by rfl)) (sa_cons rfl (se_callB (cd_len) rfl (He.free_ok X0 G (c.fact 1 rfl)) bt_len (sa_cons rfl (v_ 2 rfl (by rfl) (by rfl)) sa_nil) rfl (by decide) (by rfl)) sa_nil)) (by rfl) rfl) sa_nil) rfl rfl rfl (star_ok rfl) rfl) (fun _ => rfl) rfl (by kernel_rfl) rfl)) (fun _ => rfl)) (ss_one (ss_ret (v_ 4 rfl (by rfl) (by rfl))))))), He.glo_ok X0 G (c.fact 25 rfl), F.kp, b, .nil, fun _ => .nil⟩
def l__law_sends_1 : Ss := (seqF (setF 8 (frF (iteF' (andF (bin (op2 .eq) (vr 5) (cst (.int 1))) (bin (op2 .gt) (cll [(vr 0), (cst (.int 4))] [] f__law_draw) (cst (.int 0)))) (vr 6) (vr 3)))) (seqF (setF 9 (bin ixD (vr 8) (cll [(vr 0), (cal (d1 lenF) [(vr 8)])] [] f__law_draw))) (seqF (ifF (andF (bin (op2 .eq) (vr 5) (cst (.int 2))) (andF (bin (op2 .ne) (vr 4) (froz [] lstF)) (bin (op2 .eq) (cll [(vr 0), (cst (.int 2))] [] f__law_draw) (cst (.int 0))))) (setF 9 (bin ixD (bin ixD (vr 4) (uno ngD (cst (.int 1)))) (cst (.int 1)))) nxF) (seqF (setF 10 (lcF [11] (itV 8) (gNm 11) (some (bin (op2 .ne) (vr 11) (vr 9))) (vr 11))) (seqF (setF 10 (frF (iteF' (bin (op2 .ne) (vr 10) (froz [] lstF)) (vr 10) (lcF [11] (itV 3) (gNm 11) (some (bin (op2 .ne) (vr 11) (vr 9))) (vr 11))))) (exF (mtF apD (vr 4) [(froz [(vr 9), (bin ixD (vr 10) (cll [(vr 0), (cal (d1 lenF) [(vr 10)])] [] f__law_draw))] tupF)])))))))
def b__law_sends : Ss := (seqF (parF3 3 4 5 (frF (cal (d1 sortedF) [(vr 1)])) (froz [] lstF) (cll [(vr 0), (cst (.int 3))] [] f__law_draw)) (seqF (setF 6 (frF (slc (vr 3) none (some (cst (.int 3)))))) (seqF (forF (itR1 (bin (op2 .mul) (vr 2) (cal (d1 intF) [(bin (op2 .gt) (cal (d1 lenF) [(vr 3)]) (cst (.int 1)))]))) (gNm 7) l__law_sends_1) (rtF (vr 4)))))
def f__law_sends : Fn := defF 3 12 (kpl [0, 1, 2]) b__law_sends
theorem ok__law_sends (X0 : K.In h) (G : h.Ns mainGlobals mg) (c : He.SaysD fa fn K) (TB : LamX.TabB base mg (He.cT K lamD).1 (He.cT K lamD).2) : CalG P w K mg base 2 "_law_sends" f__law_sends [] := by
  obtain ⟨fd, F⟩ := c.def_ 3 rfl
  have S : FnScope (["reel", "net", "many", "names", "found", "way", "few", "turn", "pool", "sender", "others", "name"] : List Str) (["reel", "net", "many"] : List Str) (defScope (top 44)) := ⟨rfl, rfl, rfl, by decide +kernel, rfl, by decide +kernel, by decide +kernel⟩
  have b : Binds K fd (["reel", "net", "many"] : List Str) [] := F.bindsN fun _ _ _ _ _ _ us hl => match us, hl with | [_, _, _], _ => rfl
  exact ⟨_, fd, ["reel", "net", "many"], [], [], (g_mk (k := 1) (kp := (kpl [0, 1, 2])) (Fb := b__law_sends) rfl rfl F S fun cdv B below s J hr hg => by
    exact (ss_cons (ss_par3 (i := 3) (j := 4) (q := 5) rfl S.nd rfl rfl rfl (by decide) (by decide) (by decide) rfl rfl rfl rfl rfl rfl (sa_cons rfl (se_frz (se_callB (cd_sorted rfl) rfl (He.free_ok X0 G (c.fact 4 rfl)) bt_sorted (sa_cons rfl (v_ 1 rfl (by rfl) (by rfl)) sa_nil) rfl (by decide) (by rfl))) (sa_cons rfl (se_lst sa_nil) (sa_cons rfl (se_call (ok__law_draw X0 G c TB) hr hg rfl rfl (sa_cons rfl (v_ 0 rfl (by rfl) (by rfl)) (sa_cons rfl ki_ sa_nil)) (by rfl) rfl) sa_nil))) (by kernel_rfl) rfl) (ss_cons (ss_set (i := 6) S.nd rfl (loc_of (by rfl)) rfl (.inl rfl) (se_frz (se_slc (v_ 3 rfl (by rfl) (by rfl)) so_none (so_some ki_))) rfl) (ss_cons (ss_for PassesOwn.never rfl (si_range1 rfl (He.free_ok X0 G (c.fact 3 rfl)) (se_bin opd_mul (v_ 2 rfl (by rfl) (by rfl)) (se_callTy (cd_int) rfl (He.free_ok X0 G (c.fact 0 rfl)) bt_int (sa_cons rfl (se_cmp opd_gt (se_callB (cd_len) rfl (He.free_ok X0 G (c.fact 1 rfl)) bt_len (sa_cons rfl (v_ 3 rfl (by rfl) (by rfl)) sa_nil) rfl (by decide) (by rfl)) ki_ rfl) sa_nil) rfl (by decide) (by rfl))) rfl) (tg_ (kpl [0, 1, 2]) 7 S.nd rfl (by rfl) rfl (.inl rfl)) (ss_cons (ss_set (i := 8) S.nd rfl (loc_of (by rfl)) rfl (.inl rfl) (se_frz (se_ite (PW.pt (st_and (st_cmp (opd_eq (hu_ hr)) (v_ 5 rfl (by rfl) (by rfl)) ki_ rfl) (pw_and1 (st_cmp opd_gt (se_call (ok__law_draw X0 G c TB) hr hg rfl rfl (sa_cons rfl (v_ 0 rfl (by rfl) (by rfl)) (sa_cons rfl ki_ sa_nil)) (by rfl) rfl) ki_ rfl)))) (v_ 6 rfl (by rfl) (by rfl)) (v_ 3 rfl (by rfl) (by rfl)))) rfl) (ss_cons (ss_set (i := 9) S.nd rfl (loc_of (by rfl)) rfl (.inl rfl) (se_ix (hu_ hr) (v_ 8 rfl (by rfl) (by rfl)) (se_call (ok__law_draw X0 G c TB) hr hg rfl rfl (sa_cons rfl (v_ 0 rfl (by rfl) (by rfl)) (sa_cons rfl (se_callB (cd_len) rfl (He.free_ok X0 G (c.fact 1 rfl)) bt_len (sa_cons rfl (v_ 8 rfl (by rfl) (by rfl)) sa_nil) rfl (by decide) (by rfl)) sa_nil)) (by rfl) rfl) rfl) rfl) (ss_cons (ss_if (PW.pt (st_and (st_cmp (opd_eq (hu_ hr)) (v_ 5 rfl (by rfl) (by rfl)) ki_ rfl) (st_and (st_cmp (opd_ne (hu_ hr)) (v_ 4 rfl (by rfl) (by rfl)) (se_lst sa_nil) rfl) (pw_and1 (st_cmp (opd_eq (hu_ hr)) (se_call (ok__law_draw X0 G c TB) hr hg rfl rfl (sa_cons rfl (v_ 0 rfl (by rfl) (by rfl)) (sa_cons rfl ki_ sa_nil)) (by rfl) rfl) ki_ rfl))))) (ss_one (ss_set (i := 9) S.nd rfl (loc_of (by rfl)) rfl (.inl rfl) (se_ix (hu_ hr) (se_ix (hu_ hr) (v_ 4 rfl (by rfl) (by rfl)) (se_neg ki_) rfl) ki_ rfl) rfl)) ss_nil) (ss_cons (ss_setLcV (own := [("name", 11)]) (j := 10) rfl S.nd rfl rfl rfl (by kernel_rfl) (tv_ 8 rfl (by rfl) (by rfl)) (by kernel_rfl) (fun _ _ _ _ _ => (tg_ (kpv [11]) 11 S.nd rfl (by rfl) rfl (by first | exact .inr rfl | exact .inl rfl))) (fun _ _ _ _ _ => (spt_one (st_cmp (opd_ne (hu_ hr)) (v_ 11 rfl (by rfl) (by rfl)) (v_ 9 rfl (by rfl) (by rfl)) rfl))) (fun _ _ _ _ _ => (v_ 11 rfl (by rfl) (by rfl)))) (ss_cons (ss_set (i := 10) S.nd rfl (loc_of (by rfl)) rfl (.inl rfl) (se_frz (se_ite (st_cmp (opd_ne (hu_ hr)) (v_ 10 rfl (by rfl) (by rfl)) (se_lst sa_nil) rfl) (v_ 10 rfl (by rfl) (by rfl)) (se_lcV (own := [("name", 11)]) rfl S.nd (tv_ 3 rfl (by rfl) (by rfl)) (by kernel_rfl) (fun _ _ _ _ _ => (tg_ (kpv [11]) 11 S.nd rfl (by rfl) rfl (by first | exact .inr rfl | exact .inl rfl))) (fun _ _ _ _ _ => (spt_one (st_cmp (opd_ne (hu_ hr)) (v_ 11 rfl (by rfl) (by rfl)) (v_ 9 rfl (by rfl) (by rfl)) rfl))) (fun _ _ _ _ _ => (v_ 11 rfl (by rfl) (by rfl)))))) rfl) (ss_one (ss_expr (se_bm PySem.F.slot_list_append PySem.F.type_list_append mt_append op_app (v_ 4 rfl (by rfl) (by rfl)) (sa_cons rfl (se_tup (sa_cons rfl (v_ 9 rfl (by rfl) (by rfl)) (sa_cons rfl (se_ix (hu_ hr) (v_ 10 rfl (by rfl) (by rfl)) (se_call (ok__law_draw X0 G c TB) hr hg rfl rfl (sa_cons rfl (v_ 0 rfl (by rfl) (by rfl)) (sa_cons rfl (se_callB (cd_len) rfl (He.free_ok X0 G (c.fact 1 rfl)) bt_len (sa_cons rfl (v_ 10 rfl (by rfl) (by rfl)) sa_nil) rfl (by decide) (by rfl)) sa_nil)) (by rfl) rfl) rfl) sa_nil))) sa_nil) rfl rfl rfl (star_ok rfl) rfl) rfl))))))) (fun _ => rfl)) (ss_one (ss_ret (v_ 4 rfl (by rfl) (by rfl)))))))), He.glo_ok X0 G (c.fact 26 rfl), F.kp, b, .nil, fun _ => .nil⟩
def b_is_host : Ss := (rtF (andF (uno (isF "str") (vr 0)) (andF (chn (op2 .le) (op2 .le) (cst (.int 1)) (cal (d1 lenF) [(vr 0)]) (cst (.int 8))) (cal (d1 allF) [(lcF [1] (itV 0) (gNm 1) none (bin (op2 .isin) (vr 1) (cst (.str "abcdefghijklmnopqrstuvwxyz"))))]))))
def f_is_host : Fn := defF 1 2 (kpl [0]) b_is_host
theorem ok_is_host (X0 : K.In h) (G : h.Ns mainGlobals mg) (c : He.SaysD fa fn K) (TB : LamX.TabB base mg (He.cT K lamD).1 (He.cT K lamD).2) : CalG P w K mg base 1 "is_host" f_is_host [] := by
  obtain ⟨fd, F⟩ := c.def_ 4 rfl
  have S : FnScope (["value", "sign"] : List Str) (["value"] : List Str) (defScope (top 13)) := ⟨rfl, rfl, rfl, by decide +kernel, rfl, by decide +kernel, by decide +kernel⟩
  have b : Binds K fd (["value"] : List Str) [] := F.bindsN fun _ _ _ _ _ _ us hl => match us, hl with | [_], _ => rfl
  exact ⟨_, fd, ["value"], [], [], (g_mk (k := 0) (kp := (kpl [0])) (Fb := b_is_host) rfl rfl F S fun cdv B below s J hr hg => by
    exact (ss_one (ss_ret (se_and (se_isi (by decide) rfl (He.free_ok X0 G (c.fact 5 rfl)) rfl (He.free_ok X0 G (c.fact 6 rfl)) bt_str (v_ 0 rfl (by rfl) (by rfl)) rfl (by decide) (by decide)) (se_and (se_chn opd_le opd_le ki_ (se_callB (cd_len) rfl (He.free_ok X0 G (c.fact 1 rfl)) bt_len (sa_cons rfl (v_ 0 rfl (by rfl) (by rfl)) sa_nil) rfl (by decide) (by rfl)) (gi_ rfl (He.int_ok X0 G (c.fact 7 rfl)) (by rfl)) rfl) (pe_one (se_callB (cd_all rfl) rfl (He.free_ok X0 G (c.fact 9 rfl)) bt_all (sa_cons rfl (se_lcV (own := [("sign", 1)]) rfl S.nd (tv_ 0 rfl (by rfl) (by rfl)) (by kernel_rfl) (fun _ _ _ _ _ => (tg_ (kpv [1]) 1 S.nd rfl (by rfl) rfl (by first | exact .inr rfl | exact .inl rfl))) (fun _ _ _ _ _ => spt_nil) (fun _ _ _ _ _ => (se_cmp (opd_in (hu_ hr)) (v_ 1 rfl (by rfl) (by rfl)) (gs_ rfl (He.str_ok X0 G (c.fact 8 rfl)) (by rfl)) rfl))) sa_nil) rfl (by decide) (by rfl)))))))), He.glo_ok X0 G (c.fact 27 rfl), F.kp, b, .nil, fun _ => .nil⟩
def b_is_integer : Ss := (rtF (andF (uno (isF "int") (vr 0)) (andF (notF (uno (isF "bool") (vr 0))) (chn (op2 .le) (op2 .le) (vr 1) (vr 0) (vr 2)))))
def f_is_integer : Fn := defF 3 3 (kpl [0, 1, 2]) b_is_integer
theorem ok_is_integer (X0 : K.In h) (G : h.Ns mainGlobals mg) (c : He.SaysD fa fn K) (TB : LamX.TabB base mg (He.cT K lamD).1 (He.cT K lamD).2) : CalG P w K mg base 1 "is_integer" f_is_integer [] := by
  obtain ⟨fd, F⟩ := c.def_ 5 rfl
  have S : FnScope (["value", "low", "high"] : List Str) (["value", "low", "high"] : List Str) (defScope (top 12)) := ⟨rfl, rfl, rfl, by decide +kernel, rfl, by decide +kernel, by decide +kernel⟩
  have b : Binds K fd (["value", "low", "high"] : List Str) [] := F.bindsN fun _ _ _ _ _ _ us hl => match us, hl with | [_, _, _], _ => rfl
  exact ⟨_, fd, ["value", "low", "high"], [], [], (g_mk (k := 0) (kp := (kpl [0, 1, 2])) (Fb := b_is_integer) rfl rfl F S fun cdv B below s J hr hg => by
    exact (ss_one (ss_ret (se_and (se_isi (by decide) rfl (He.free_ok X0 G (c.fact 5 rfl)) rfl (He.free_ok X0 G (c.fact 0 rfl)) bt_int (v_ 0 rfl (by rfl) (by rfl)) rfl (by decide) (by decide)) (se_and (se_notF (se_isi (by decide) rfl (He.free_ok X0 G (c.fact 5 rfl)) rfl (He.free_ok X0 G (c.fact 10 rfl)) bt_bool (v_ 0 rfl (by rfl) (by rfl)) rfl (by decide) (by decide))) (pe_one (se_chn opd_le opd_le (v_ 1 rfl (by rfl) (by rfl)) (v_ 0 rfl (by rfl) (by rfl)) (v_ 2 rfl (by rfl) (by rfl)) rfl))))))), He.glo_ok X0 G (c.fact 28 rfl), F.kp, b, .nil, fun _ => .nil⟩
def b_is_position : Ss := (rtF (cll [(vr 0), (uno ngD (cst (.int 1000000000000000000000000000000))), (cst (.int 1000000000000000000000000000000))] [] f_is_integer))
def f_is_position : Fn := defF 1 1 (kpl [0]) b_is_position
theorem ok_is_position (X0 : K.In h) (G : h.Ns mainGlobals mg) (c : He.SaysD fa fn K) (TB : LamX.TabB base mg (He.cT K lamD).1 (He.cT K lamD).2) : CalG P w K mg base 2 "is_position" f_is_position [] := by
  obtain ⟨fd, F⟩ := c.def_ 6 rfl
  have S : FnScope (["value"] : List Str) (["value"] : List Str) (defScope (top 14)) := ⟨rfl, rfl, rfl, by decide +kernel, rfl, by decide +kernel, by decide +kernel⟩
  have b : Binds K fd (["value"] : List Str) [] := F.bindsN fun _ _ _ _ _ _ us hl => match us, hl with | [_], _ => rfl
  exact ⟨_, fd, ["value"], [], [], (g_mk (k := 1) (kp := (kpl [0])) (Fb := b_is_position) rfl rfl F S fun cdv B below s J hr hg => by
    exact (ss_one (ss_ret (se_call (ok_is_integer X0 G c TB) hr hg rfl rfl (sa_cons rfl (v_ 0 rfl (by rfl) (by rfl)) (sa_cons rfl (se_neg (gi_ rfl (He.int_ok X0 G (c.fact 11 rfl)) (by rfl))) (sa_cons rfl (gi_ rfl (He.int_ok X0 G (c.fact 11 rfl)) (by rfl)) sa_nil))) (by rfl) rfl)))), He.glo_ok X0 G (c.fact 29 rfl), F.kp, b, .nil, fun _ => .nil⟩
def b_is_line : Ss := (seqF (ifF (orF (notF (uno (isF "dict") (vr 0))) (notF (chn (op2 .le) (op2 .le) (cst (.int 1)) (cal (d1 lenF) [(vr 0)]) (cst (.int 40))))) (rtF (cst (.bl false))) nxF) (seqF (ifF (notF (cal (d1 allF) [(lcF [1, 2] (itN .items 0) (gTp 2 [(gNm 1), (gNm 2)]) none (andF (cll [(vr 1)] [] f_is_host) (cll [(vr 2)] [] f_is_position)))])) (rtF (cst (.bl false))) nxF) (rtF (bin (op2 .eq) (uno lsD (uno lvD (vr 0))) (cal (d1 lenF) [(vr 0)])))))
def f_is_line : Fn := defF 1 3 (kpl [0]) b_is_line
theorem ok_is_line (X0 : K.In h) (G : h.Ns mainGlobals mg) (c : He.SaysD fa fn K) (TB : LamX.TabB base mg (He.cT K lamD).1 (He.cT K lamD).2) : CalG P w K mg base 3 "is_line" f_is_line [] := by
  obtain ⟨fd, F⟩ := c.def_ 7 rfl
  have S : FnScope (["value", "host", "position"] : List Str) (["value"] : List Str) (defScope (top 15)) := ⟨rfl, rfl, rfl, by decide +kernel, rfl, by decide +kernel, by decide +kernel⟩
  have b : Binds K fd (["value"] : List Str) [] := F.bindsN fun _ _ _ _ _ _ us hl => match us, hl with | [_], _ => rfl
  exact ⟨_, fd, ["value"], [], [], (g_mk (k := 2) (kp := (kpl [0])) (Fb := b_is_line) rfl rfl F S fun cdv B below s J hr hg => by
    exact (ss_cons (ss_if (PW.pt (st_or (st_not (st_val (se_isi (by decide) rfl (He.free_ok X0 G (c.fact 5 rfl)) rfl (He.free_ok X0 G (c.fact 12 rfl)) bt_dict (v_ 0 rfl (by rfl) (by rfl)) rfl (by decide) (by decide)) rfl)) (pw_or1 (st_not (st_chn opd_le opd_le ki_ (se_callB (cd_len) rfl (He.free_ok X0 G (c.fact 1 rfl)) bt_len (sa_cons rfl (v_ 0 rfl (by rfl) (by rfl)) sa_nil) rfl (by decide) (by rfl)) (gi_ rfl (He.int_ok X0 G (c.fact 13 rfl)) (by rfl)) rfl))))) (ss_one (ss_ret kb_)) ss_nil) (ss_cons (ss_if (st_not (st_val (se_callB (cd_all rfl) rfl (He.free_ok X0 G (c.fact 9 rfl)) bt_all (sa_cons rfl (se_lcD (own := [("host", 1), ("position", 2)]) (w := .items) (i := 0) rfl S.nd (pi_items (tv_ 0 rfl (by rfl) (by rfl)) rfl rfl) (by kernel_rfl) (fun _ _ _ _ _ => (sg_tup rfl (sgs_cons (tg_ (kpv [1, 2]) 1 S.nd rfl (by rfl) rfl (by first | exact .inr rfl | exact .inl rfl)) (sgs_cons (tg_ (kpv [1, 2]) 2 S.nd rfl (by rfl) rfl (by first | exact .inr rfl | exact .inl rfl)) sgs_nil rfl) rfl) rfl rfl)) (fun _ _ _ _ _ => spt_nil) (fun _ _ _ _ _ => (se_and (se_call (ok_is_host X0 G c TB) hr hg rfl rfl (sa_cons rfl (v_ 1 rfl (by rfl) (by rfl)) sa_nil) (by rfl) rfl) (pe_one (se_call (ok_is_position X0 G c TB) hr hg rfl rfl (sa_cons rfl (v_ 2 rfl (by rfl) (by rfl)) sa_nil) (by rfl) rfl)))) (fun _ => rfl)) sa_nil) rfl (by decide) (by rfl)) rfl)) (ss_one (ss_ret kb_)) ss_nil) (ss_one (ss_ret (se_cmp (opd_eq (hu_ hr)) (se_lenSet rfl rfl (He.free_ok X0 G (c.fact 1 rfl)) rfl (He.free_ok X0 G (c.fact 14 rfl)) (se_listVals rfl rfl (He.free_ok X0 G (c.fact 2 rfl)) (v_ 0 rfl (by rfl) (by rfl)) rfl rfl) rfl) (se_callB (cd_len) rfl (He.free_ok X0 G (c.fact 1 rfl)) bt_len (sa_cons rfl (v_ 0 rfl (by rfl) (by rfl)) sa_nil) rfl (by decide) (by rfl)) rfl)))))), He.glo_ok X0 G (c.fact 30 rfl), F.kp, b, .nil, fun _ => .nil⟩
def b_check_line : Ss := (ifF (notF (cll [(vr 0)] [] f_is_line)) (fun _ => none) nxF)
def f_check_line : Fn := defF 1 1 (kpl [0]) b_check_line
theorem ok_check_line (X0 : K.In h) (G : h.Ns mainGlobals mg) (c : He.SaysD fa fn K) (TB : LamX.TabB base mg (He.cT K lamD).1 (He.cT K lamD).2) : CalG P w K mg base 4 "check_line" f_check_line [] := by
  obtain ⟨fd, F⟩ := c.def_ 8 rfl
  have S : FnScope (["value"] : List Str) (["value"] : List Str) (defScope (top 16)) := ⟨rfl, rfl, rfl, by decide +kernel, rfl, by decide +kernel, by decide +kernel⟩
  have b : Binds K fd (["value"] : List Str) [] := F.bindsN fun _ _ _ _ _ _ us hl => match us, hl with | [_], _ => rfl
  exact ⟨_, fd, ["value"], [], [], (g_mk (k := 3) (kp := (kpl [0])) (Fb := b_check_line) rfl rfl F S fun cdv B below s J hr hg => by
    exact (ss_one (ss_if (st_not (st_val (se_call (ok_is_line X0 G c TB) hr hg rfl rfl (sa_cons rfl (v_ 0 rfl (by rfl) (by rfl)) sa_nil) (by rfl) rfl) rfl)) (ss_one ss_never) ss_nil))), He.glo_ok X0 G (c.fact 31 rfl), F.kp, b, .nil, fun _ => .nil⟩
def b_is_frame : Ss := (seqF (ifF (orF (notF (uno (isF "tuple") (vr 1))) (orF (bin (op2 .ne) (cal (d1 lenF) [(vr 1)]) (cst (.int 2))) (notF (cal (d1 allF) [(lcF [2] (itV 1) (gNm 2) none (cll [(vr 2)] [] f_is_host))])))) (rtF (cst (.bl false))) nxF) (rtF (andF (bin (op2 .isin) (bin ixD (vr 1) (cst (.int 0))) (vr 0)) (andF (bin (op2 .isin) (bin ixD (vr 1) (cst (.int 1))) (vr 0)) (bin (op2 .ne) (bin ixD (vr 1) (cst (.int 0))) (bin ixD (vr 1) (cst (.int 1))))))))
def f_is_frame : Fn := defF 2 3 (kpl [0, 1]) b_is_frame
theorem ok_is_frame (X0 : K.In h) (G : h.Ns mainGlobals mg) (c : He.SaysD fa fn K) (TB : LamX.TabB base mg (He.cT K lamD).1 (He.cT K lamD).2) : CalG P w K mg base 2 "is_frame" f_is_frame [] := by
  obtain ⟨fd, F⟩ := c.def_ 9 rfl
  have S : FnScope (["line", "value", "host"] : List Str) (["line", "value"] : List Str) (defScope (top 18)) := ⟨rfl, rfl, rfl, by decide +kernel, rfl, by decide +kernel, by decide +kernel⟩
  have b : Binds K fd (["line", "value"] : List Str) [] := F.bindsN fun _ _ _ _ _ _ us hl => match us, hl with | [_, _], _ => rfl
  exact ⟨_, fd, ["line", "value"], [], [], (g_mk (k := 1) (kp := (kpl [0, 1])) (Fb := b_is_frame) rfl rfl F S fun cdv B below s J hr hg => by
    exact (ss_cons (ss_if (PW.pt (st_or (st_not (st_val (se_isi (by decide) rfl (He.free_ok X0 G (c.fact 5 rfl)) rfl (He.free_ok X0 G (c.fact 15 rfl)) bt_tuple (v_ 1 rfl (by rfl) (by rfl)) rfl (by decide) (by decide)) rfl)) (st_or (st_cmp (opd_ne (hu_ hr)) (se_callB (cd_len) rfl (He.free_ok X0 G (c.fact 1 rfl)) bt_len (sa_cons rfl (v_ 1 rfl (by rfl) (by rfl)) sa_nil) rfl (by decide) (by rfl)) ki_ rfl) (pw_or1 (st_not (st_val (se_callB (cd_all rfl) rfl (He.free_ok X0 G (c.fact 9 rfl)) bt_all (sa_cons rfl (se_lcV (own := [("host", 2)]) rfl S.nd (tv_ 1 rfl (by rfl) (by rfl)) (by kernel_rfl) (fun _ _ _ _ _ => (tg_ (kpv [2]) 2 S.nd rfl (by rfl) rfl (by first | exact .inr rfl | exact .inl rfl))) (fun _ _ _ _ _ => spt_nil) (fun _ _ _ _ _ => (se_call (ok_is_host X0 G c TB) hr hg rfl rfl (sa_cons rfl (v_ 2 rfl (by rfl) (by rfl)) sa_nil) (by rfl) rfl))) sa_nil) rfl (by decide) (by rfl)) rfl)))))) (ss_one (ss_ret kb_)) ss_nil) (ss_one (ss_ret (se_and (se_cmp (opd_in (hu_ hr)) (se_ix (hu_ hr) (v_ 1 rfl (by rfl) (by rfl)) ki_ rfl) (v_ 0 rfl (by rfl) (by rfl)) rfl) (se_and (se_cmp (opd_in (hu_ hr)) (se_ix (hu_ hr) (v_ 1 rfl (by rfl) (by rfl)) ki_ rfl) (v_ 0 rfl (by rfl) (by rfl)) rfl) (pe_one (se_cmp (opd_ne (hu_ hr)) (se_ix (hu_ hr) (v_ 1 rfl (by rfl) (by rfl)) ki_ rfl) (se_ix (hu_ hr) (v_ 1 rfl (by rfl) (by rfl)) ki_ rfl) rfl)))))))), He.glo_ok X0 G (c.fact 32 rfl), F.kp, b, .nil, fun _ => .nil⟩
def b_is_frames : Ss := (seqF (exF (cll [(vr 0)] [] f_check_line)) (seqF (ifF (orF (notF (uno (isF "list") (vr 1))) (bin (op2 .gt) (cal (d1 lenF) [(vr 1)]) (cst (.int 300)))) (rtF (cst (.bl false))) nxF) (rtF (cal (d1 allF) [(lcF [2] (itV 1) (gNm 2) none (cll [(vr 0), (vr 2)] [] f_is_frame))]))))
def f_is_frames : Fn := defF 2 3 (kpl [0, 1]) b_is_frames
theorem ok_is_frames (X0 : K.In h) (G : h.Ns mainGlobals mg) (c : He.SaysD fa fn K) (TB : LamX.TabB base mg (He.cT K lamD).1 (He.cT K lamD).2) : CalG P w K mg base 5 "is_frames" f_is_frames [] := by
  obtain ⟨fd, F⟩ := c.def_ 10 rfl
  have S : FnScope (["line", "value", "frame"] : List Str) (["line", "value"] : List Str) (defScope (top 19)) := ⟨rfl, rfl, rfl, by decide +kernel, rfl, by decide +kernel, by decide +kernel⟩
  have b : Binds K fd (["line", "value"] : List Str) [] := F.bindsN fun _ _ _ _ _ _ us hl => match us, hl with | [_, _], _ => rfl
  exact ⟨_, fd, ["line", "value"], [], [], (g_mk (k := 4) (kp := (kpl [0, 1])) (Fb := b_is_frames) rfl rfl F S fun cdv B below s J hr hg => by
    exact (ss_cons (ss_expr (se_call (ok_check_line X0 G c TB) hr hg rfl rfl (sa_cons rfl (v_ 0 rfl (by rfl) (by rfl)) sa_nil) (by rfl) rfl) rfl) (ss_cons (ss_if (PW.pt (st_or (st_not (st_val (se_isi (by decide) rfl (He.free_ok X0 G (c.fact 5 rfl)) rfl (He.free_ok X0 G (c.fact 2 rfl)) bt_list (v_ 1 rfl (by rfl) (by rfl)) rfl (by decide) (by decide)) rfl)) (pw_or1 (st_cmp opd_gt (se_callB (cd_len) rfl (He.free_ok X0 G (c.fact 1 rfl)) bt_len (sa_cons rfl (v_ 1 rfl (by rfl) (by rfl)) sa_nil) rfl (by decide) (by rfl)) (gi_ rfl (He.int_ok X0 G (c.fact 16 rfl)) (by rfl)) rfl)))) (ss_one (ss_ret kb_)) ss_nil) (ss_one (ss_ret (se_callB (cd_all rfl) rfl (He.free_ok X0 G (c.fact 9 rfl)) bt_all (sa_cons rfl (se_lcV (own := [("frame", 2)]) rfl S.nd (tv_ 1 rfl (by rfl) (by rfl)) (by kernel_rfl) (fun _ _ _ _ _ => (tg_ (kpv [2]) 2 S.nd rfl (by rfl) rfl (by first | exact .inr rfl | exact .inl rfl))) (fun _ _ _ _ _ => spt_nil) (fun _ _ _ _ _ => (se_call (ok_is_frame X0 G c TB) hr hg rfl rfl (sa_cons rfl (v_ 0 rfl (by rfl) (by rfl)) (sa_cons rfl (v_ 2 rfl (by rfl) (by rfl)) sa_nil)) (by rfl) rfl))) sa_nil) rfl (by decide) (by rfl))))))), He.glo_ok X0 G (c.fact 33 rfl), F.kp, b, .nil, fun _ => .nil⟩
def b_check_frames : Ss := (ifF (notF (cll [(vr 0), (vr 1)] [] f_is_frames)) (fun _ => none) nxF)
def f_check_frames : Fn := defF 2 2 (kpl [0, 1]) b_check_frames
theorem ok_check_frames (X0 : K.In h) (G : h.Ns mainGlobals mg) (c : He.SaysD fa fn K) (TB : LamX.TabB base mg (He.cT K lamD).1 (He.cT K lamD).2) : CalG P w K mg base 6 "check_frames" f_check_frames [] := by
  obtain ⟨fd, F⟩ := c.def_ 11 rfl
  have S : FnScope (["line", "value"] : List Str) (["line", "value"] : List Str) (defScope (top 20)) := ⟨rfl, rfl, rfl, by decide +kernel, rfl, by decide +kernel, by decide +kernel⟩
  have b : Binds K fd (["line", "value"] : List Str) [] := F.bindsN fun _ _ _ _ _ _ us hl => match us, hl with | [_, _], _ => rfl
  exact ⟨_, fd, ["line", "value"], [], [], (g_mk (k := 5) (kp := (kpl [0, 1])) (Fb := b_check_frames) rfl rfl F S fun cdv B below s J hr hg => by
    exact (ss_one (ss_if (st_not (st_val (se_call (ok_is_frames X0 G c TB) hr hg rfl rfl (sa_cons rfl (v_ 0 rfl (by rfl) (by rfl)) (sa_cons rfl (v_ 1 rfl (by rfl) (by rfl)) sa_nil)) (by rfl) rfl) rfl)) (ss_one ss_never) ss_nil))), He.glo_ok X0 G (c.fact 34 rfl), F.kp, b, .nil, fun _ => .nil⟩
def b_Switches___init__ : Ss := (seqF (atF ats "places" (vr 1) (vr 0)) (atF ats "intervals" (dcF [3] (itL (cal (d1 sortedF) [(vr 2)])) (gNm 3) none (vr 3) (bin ixD (vr 2) (vr 3))) (vr 0)))
def f_Switches___init__ : Fn := defF 3 4 (kpl [0, 1, 2]) b_Switches___init__
theorem ok_Switches___init__ (X0 : K.In h) (G : h.Ns mainGlobals mg) (c : He.SaysD fa fn K) (TB : LamX.TabB base mg (He.cT K lamD).1 (He.cT K lamD).2) : MakG P w K mg base 1 "Switches" f_Switches___init__ [] := by
  obtain ⟨fd, F⟩ := c.def_ 12 rfl
  have S : FnScope (["self", "line", "intervals", "host"] : List Str) (["self", "line", "intervals"] : List Str) (defScope (inClass (top 33) 0)) := ⟨rfl, rfl, rfl, by decide +kernel, rfl, by decide +kernel, by decide +kernel⟩
  have b : Binds K fd (["self", "line", "intervals"] : List Str) [] := F.bindsN fun _ _ _ _ _ _ us hl => match us, hl with | [_, _, _], _ => rfl
  exact ⟨_, fd, ["self", "line", "intervals"], [], [], (g_mk (k := 0) (kp := (kpl [0, 1, 2])) (Fb := b_Switches___init__) rfl rfl F S fun cdv B below s J hr hg => by
    exact (ss_cons (ss_at (ats_ok c) (v_ 0 rfl (by rfl) (by rfl)) (v_ 1 rfl (by rfl) (by rfl)) rfl) (ss_one (ss_at (ats_ok c) (v_ 0 rfl (by rfl) (by rfl)) (se_dc (own := [("host", 3)]) rfl S.nd (si_val (se_callB (cd_sorted rfl) rfl (He.free_ok X0 G (c.fact 4 rfl)) bt_sorted (sa_cons rfl (v_ 2 rfl (by rfl) (by rfl)) sa_nil) rfl (by decide) (by rfl))) (by kernel_rfl) (fun _ _ _ _ _ => (tg_ (kpv [3]) 3 S.nd rfl (by rfl) rfl (by first | exact .inr rfl | exact .inl rfl))) (fun _ _ _ _ _ => spt_nil) (fun _ _ _ _ _ => (v_ 3 rfl (by rfl) (by rfl))) (fun _ _ _ _ _ => (se_ix (hu_ hr) (v_ 2 rfl (by rfl) (by rfl)) (v_ 3 rfl (by rfl) (by rfl)) rfl)) (fun _ => rfl)) rfl)))), He.mkr_ok (c.fact 36 rfl), He.glo_ok X0 G (c.fact 35 rfl), b, .nil, fun _ => .nil⟩
def b_silent_state : Ss := (rtF (dcF [1] (itL (cal (d1 sortedF) [(vr 0)])) (gNm 1) none (vr 1) (cst .non)))
def f_silent_state : Fn := defF 1 2 (kpl [0]) b_silent_state
theorem ok_silent_state (X0 : K.In h) (G : h.Ns mainGlobals mg) (c : He.SaysD fa fn K) (TB : LamX.TabB base mg (He.cT K lamD).1 (He.cT K lamD).2) : CalG P w K mg base 1 "silent_state" f_silent_state [] := by
  obtain ⟨fd, F⟩ := c.def_ 13 rfl
  have S : FnScope (["line", "host"] : List Str) (["line"] : List Str) (defScope (top 24)) := ⟨rfl, rfl, rfl, by decide +kernel, rfl, by decide +kernel, by decide +kernel⟩
  have b : Binds K fd (["line"] : List Str) [] := F.bindsN fun _ _ _ _ _ _ us hl => match us, hl with | [_], _ => rfl
  exact ⟨_, fd, ["line"], [], [], (g_mk (k := 0) (kp := (kpl [0])) (Fb := b_silent_state) rfl rfl F S fun cdv B below s J hr hg => by
    exact (ss_one (ss_ret (se_dc (own := [("host", 1)]) rfl S.nd (si_val (se_callB (cd_sorted rfl) rfl (He.free_ok X0 G (c.fact 4 rfl)) bt_sorted (sa_cons rfl (v_ 0 rfl (by rfl) (by rfl)) sa_nil) rfl (by decide) (by rfl))) (by kernel_rfl) (fun _ _ _ _ _ => (tg_ (kpv [1]) 1 S.nd rfl (by rfl) rfl (by first | exact .inr rfl | exact .inl rfl))) (fun _ _ _ _ _ => spt_nil) (fun _ _ _ _ _ => (v_ 1 rfl (by rfl) (by rfl))) (fun _ _ _ _ _ => kn_) (fun _ => rfl))))), He.glo_ok X0 G (c.fact 37 rfl), F.kp, b, .nil, fun _ => .nil⟩
def b_is_interval : Ss := (seqF (ifF (uno isND (vr 2)) (rtF (cst (.bl true))) nxF) (seqF (ifF (orF (notF (uno (isF "tuple") (vr 2))) (bin (op2 .ne) (cal (d1 lenF) [(vr 2)]) (cst (.int 2)))) (rtF (cst (.bl false))) nxF) (seqF (parF 3 4 (bin ixD (vr 0) (vr 1)) (uno lvD (vr 0))) (seqF (asgF (gTp 2 [(gNm 5), (gNm 6)]) (vr 2)) (seqF (ifF (andF (uno notND (vr 5)) (notF (andF (cll [(vr 5)] [] f_is_position) (andF (bin (op2 .isin) (vr 5) (vr 4)) (bin (op2 .le) (vr 5) (vr 3)))))) (rtF (cst (.bl false))) nxF) (rtF (orF (uno isND (vr 6)) (andF (cll [(vr 6)] [] f_is_position) (andF (bin (op2 .isin) (vr 6) (vr 4)) (bin (op2 .ge) (vr 6) (vr 3)))))))))))
def f_is_interval : Fn := defF 3 7 (kpl [0, 1, 2]) b_is_interval
theorem ok_is_interval (X0 : K.In h) (G : h.Ns mainGlobals mg) (c : He.SaysD fa fn K) (TB : LamX.TabB base mg (He.cT K lamD).1 (He.cT K lamD).2) : CalG P w K mg base 3 "is_interval" f_is_interval [] := by
  obtain ⟨fd, F⟩ := c.def_ 14 rfl
  have S : FnScope (["line", "host", "value", "position", "places", "low", "high"] : List Str) (["line", "host", "value"] : List Str) (defScope (top 21)) := ⟨rfl, rfl, rfl, by decide +kernel, rfl, by decide +kernel, by decide +kernel⟩
  have b : Binds K fd (["line", "host", "value"] : List Str) [] := F.bindsN fun _ _ _ _ _ _ us hl => match us, hl with | [_, _, _], _ => rfl
  exact ⟨_, fd, ["line", "host", "value"], [], [], (g_mk (k := 2) (kp := (kpl [0, 1, 2])) (Fb := b_is_interval) rfl rfl F S fun cdv B below s J hr hg => by
    exact (ss_cons (ss_if (st_isN (v_ 2 rfl (by rfl) (by rfl))) (ss_one (ss_ret kb_)) ss_nil) (ss_cons (ss_if (PW.pt (st_or (st_not (st_val (se_isi (by decide) rfl (He.free_ok X0 G (c.fact 5 rfl)) rfl (He.free_ok X0 G (c.fact 15 rfl)) bt_tuple (v_ 2 rfl (by rfl) (by rfl)) rfl (by decide) (by decide)) rfl)) (pw_or1 (st_cmp (opd_ne (hu_ hr)) (se_callB (cd_len) rfl (He.free_ok X0 G (c.fact 1 rfl)) bt_len (sa_cons rfl (v_ 2 rfl (by rfl) (by rfl)) sa_nil) rfl (by decide) (by rfl)) ki_ rfl)))) (ss_one (ss_ret kb_)) ss_nil) (ss_cons (ss_par (i := 3) (j := 4) rfl S.nd rfl rfl (by decide) rfl rfl rfl rfl (sa_cons rfl (se_ix (hu_ hr) (v_ 0 rfl (by rfl) (by rfl)) (v_ 1 rfl (by rfl) (by rfl)) rfl) (sa_cons rfl (se_listVals rfl rfl (He.free_ok X0 G (c.fact 2 rfl)) (v_ 0 rfl (by rfl) (by rfl)) rfl rfl) sa_nil)) (by kernel_rfl) rfl) (ss_cons (ss_asg (v_ 2 rfl (by rfl) (by rfl)) (sg_tup rfl (sgs_cons (tg_ (kpl [0, 1, 2]) 5 S.nd rfl (by rfl) rfl (.inl rfl)) (sgs_cons (tg_ (kpl [0, 1, 2]) 6 S.nd rfl (by rfl) rfl (.inl rfl)) sgs_nil rfl) rfl) rfl rfl) rfl (by kernel_rfl) rfl) (ss_cons (ss_if (PW.pt (st_and (st_notN (v_ 5 rfl (by rfl) (by rfl))) (pw_and1 (st_not (PW.pt (st_and (st_val (se_call (ok_is_position X0 G c TB) hr hg rfl rfl (sa_cons rfl (v_ 5 rfl (by rfl) (by rfl)) sa_nil) (by rfl) rfl) rfl) (st_and (st_cmp (opd_in (hu_ hr)) (v_ 5 rfl (by rfl) (by rfl)) (v_ 4 rfl (by rfl) (by rfl)) rfl) (pw_and1 (st_cmp opd_le (v_ 5 rfl (by rfl) (by rfl)) (v_ 3 rfl (by rfl) (by rfl)) rfl))))))))) (ss_one (ss_ret kb_)) ss_nil) (ss_one (ss_ret (se_or (se_isN (v_ 6 rfl (by rfl) (by rfl))) (pe_one (se_and (se_call (ok_is_position X0 G c TB) hr hg rfl rfl (sa_cons rfl (v_ 6 rfl (by rfl) (by rfl)) sa_nil) (by rfl) rfl) (se_and (se_cmp (opd_in (hu_ hr)) (v_ 6 rfl (by rfl) (by rfl)) (v_ 4 rfl (by rfl) (by rfl)) rfl) (pe_one (se_cmp opd_ge (v_ 6 rfl (by rfl) (by rfl)) (v_ 3 rfl (by rfl) (by rfl)) rfl)))))))))))))), He.glo_ok X0 G (c.fact 38 rfl), F.kp, b, .nil, fun _ => .nil⟩
def b_is_state : Ss := (seqF (exF (cll [(vr 0)] [] f_check_line)) (seqF (ifF (orF (notF (uno (isF "dict") (vr 1))) (orF (bin (op2 .ne) (cal (d1 lenF) [(vr 1)]) (cal (d1 lenF) [(vr 0)])) (notF (cal (d1 allF) [(lcF [2] (itV 1) (gNm 2) none (cll [(vr 2)] [] f_is_host))])))) (rtF (cst (.bl false))) nxF) (rtF (cal (d1 allF) [(lcF [2] (itV 0) (gNm 2) none (andF (bin (op2 .isin) (vr 2) (vr 1)) (cll [(vr 0), (vr 2), (bin ixD (vr 1) (vr 2))] [] f_is_interval)))]))))
def f_is_state : Fn := defF 2 3 (kpl [0, 1]) b_is_state
theorem ok_is_state (X0 : K.In h) (G : h.Ns mainGlobals mg) (c : He.SaysD fa fn K) (TB : LamX.TabB base mg (He.cT K lamD).1 (He.cT K lamD).2) : CalG P w K mg base 5 "is_state" f_is_state [] := by
  obtain ⟨fd, F⟩ := c.def_ 15 rfl
  have S : FnScope (["line", "value", "host"] : List Str) (["line", "value"] : List Str) (defScope (top 22)) := ⟨rfl, rfl, rfl, by decide +kernel, rfl, by decide +kernel, by decide +kernel⟩
  have b : Binds K fd (["line", "value"] : List Str) [] := F.bindsN fun _ _ _ _ _ _ us hl => match us, hl with | [_, _], _ => rfl
  exact ⟨_, fd, ["line", "value"], [], [], (g_mk (k := 4) (kp := (kpl [0, 1])) (Fb := b_is_state) rfl rfl F S fun cdv B below s J hr hg => by
    exact (ss_cons (ss_expr (se_call (ok_check_line X0 G c TB) hr hg rfl rfl (sa_cons rfl (v_ 0 rfl (by rfl) (by rfl)) sa_nil) (by rfl) rfl) rfl) (ss_cons (ss_if (PW.pt (st_or (st_not (st_val (se_isi (by decide) rfl (He.free_ok X0 G (c.fact 5 rfl)) rfl (He.free_ok X0 G (c.fact 12 rfl)) bt_dict (v_ 1 rfl (by rfl) (by rfl)) rfl (by decide) (by decide)) rfl)) (st_or (st_cmp (opd_ne (hu_ hr)) (se_callB (cd_len) rfl (He.free_ok X0 G (c.fact 1 rfl)) bt_len (sa_cons rfl (v_ 1 rfl (by rfl) (by rfl)) sa_nil) rfl (by decide) (by rfl)) (se_callB (cd_len) rfl (He.free_ok X0 G (c.fact 1 rfl)) bt_len (sa_cons rfl (v_ 0 rfl (by rfl) (by rfl)) sa_nil) rfl (by decide) (by rfl)) rfl) (pw_or1 (st_not (st_val (se_callB (cd_all rfl) rfl (He.free_ok X0 G (c.fact 9 rfl)) bt_all (sa_cons rfl (se_lcV (own := [("host", 2)]) rfl S.nd (tv_ 1 rfl (by rfl) (by rfl)) (by kernel_rfl) (fun _ _ _ _ _ => (tg_ (kpv [2]) 2 S.nd rfl (by rfl) rfl (by first | exact .inr rfl | exact .inl rfl))) (fun _ _ _ _ _ => spt_nil) (fun _ _ _ _ _ => (se_call (ok_is_host X0 G c TB) hr hg rfl rfl (sa_cons rfl (v_ 2 rfl (by rfl) (by rfl)) sa_nil) (by rfl) rfl))) sa_nil) rfl (by decide) (by rfl)) rfl)))))) (ss_one (ss_ret kb_)) ss_nil) (ss_one (ss_ret (se_callB (cd_all rfl) rfl (He.free_ok X0 G (c.fact 9 rfl)) bt_all (sa_cons rfl (se_lcV (own := [("host", 2)]) rfl S.nd (tv_ 0 rfl (by rfl) (by rfl)) (by kernel_rfl) (fun _ _ _ _ _ => (tg_ (kpv [2]) 2 S.nd rfl (by rfl) rfl (by first | exact .inr rfl | exact .inl rfl))) (fun _ _ _ _ _ => spt_nil) (fun _ _ _ _ _ => (se_and (se_cmp (opd_in (hu_ hr)) (v_ 2 rfl (by rfl) (by rfl)) (v_ 1 rfl (by rfl) (by rfl)) rfl) (pe_one (se_call (ok_is_interval X0 G c TB) hr hg rfl rfl (sa_cons rfl (v_ 0 rfl (by rfl) (by rfl)) (sa_cons rfl (v_ 2 rfl (by rfl) (by rfl)) (sa_cons rfl (se_ix (hu_ hr) (v_ 1 rfl (by rfl) (by rfl)) (v_ 2 rfl (by rfl) (by rfl)) rfl) sa_nil))) (by rfl) rfl))))) sa_nil) rfl (by decide) (by rfl))))))), He.glo_ok X0 G (c.fact 39 rfl), F.kp, b, .nil, fun _ => .nil⟩
def b_check_state : Ss := (ifF (notF (cll [(vr 0), (vr 1)] [] f_is_state)) (fun _ => none) nxF)
def f_check_state : Fn := defF 2 2 (kpl [0, 1]) b_check_state
theorem ok_check_state (X0 : K.In h) (G : h.Ns mainGlobals mg) (c : He.SaysD fa fn K) (TB : LamX.TabB base mg (He.cT K lamD).1 (He.cT K lamD).2) : CalG P w K mg base 6 "check_state" f_check_state [] := by
  obtain ⟨fd, F⟩ := c.def_ 16 rfl
  have S : FnScope (["line", "value"] : List Str) (["line", "value"] : List Str) (defScope (top 23)) := ⟨rfl, rfl, rfl, by decide +kernel, rfl, by decide +kernel, by decide +kernel⟩
  have b : Binds K fd (["line", "value"] : List Str) [] := F.bindsN fun _ _ _ _ _ _ us hl => match us, hl with | [_, _], _ => rfl
  exact ⟨_, fd, ["line", "value"], [], [], (g_mk (k := 5) (kp := (kpl [0, 1])) (Fb := b_check_state) rfl rfl F S fun cdv B below s J hr hg => by
    exact (ss_one (ss_if (st_not (st_val (se_call (ok_is_state X0 G c TB) hr hg rfl rfl (sa_cons rfl (v_ 0 rfl (by rfl) (by rfl)) (sa_cons rfl (v_ 1 rfl (by rfl) (by rfl)) sa_nil)) (by rfl) rfl) rfl)) (ss_one ss_never) ss_nil))), He.glo_ok X0 G (c.fact 40 rfl), F.kp, b, .nil, fun _ => .nil⟩
def b_started : Ss := (seqF (exF (cll [(vr 0), (vr 1)] [] f_check_frames)) (seqF (ifF (uno isND (vr 2)) (rtF (cll [(vr 0), (cll [(vr 0)] [] f_silent_state)] [] (mkFn "Switches" f_Switches___init__))) nxF) (seqF (exF (cll [(vr 0), (vr 2)] [] f_check_state)) (rtF (cll [(vr 0), (vr 2)] [] (mkFn "Switches" f_Switches___init__))))))
def f_started : Fn := defF 3 3 (kpl [0, 1, 2]) b_started
theorem ok_started (X0 : K.In h) (G : h.Ns mainGlobals mg) (c : He.SaysD fa fn K) (TB : LamX.TabB base mg (He.cT K lamD).1 (He.cT K lamD).2) : CalG P w K mg base 7 "started" f_started [] := by
  obtain ⟨fd, F⟩ := c.def_ 17 rfl
  have S : FnScope (["line", "frames", "start"] : List Str) (["line", "frames", "start"] : List Str) (defScope (top 37)) := ⟨rfl, rfl, rfl, by decide +kernel, rfl, by decide +kernel, by decide +kernel⟩
  have b : Binds K fd (["line", "frames", "start"] : List Str) [] := F.bindsN fun _ _ _ _ _ _ us hl => match us, hl with | [_, _, _], _ => rfl
  exact ⟨_, fd, ["line", "frames", "start"], [], [], (g_mk (k := 6) (kp := (kpl [0, 1, 2])) (Fb := b_started) rfl rfl F S fun cdv B below s J hr hg => by
    exact (ss_cons (ss_expr (se_call (ok_check_frames X0 G c TB) hr hg rfl rfl (sa_cons rfl (v_ 0 rfl (by rfl) (by rfl)) (sa_cons rfl (v_ 1 rfl (by rfl) (by rfl)) sa_nil)) (by rfl) rfl) rfl) (ss_cons (ss_if (st_isN (v_ 2 rfl (by rfl) (by rfl))) (ss_one (ss_ret (se_make (ok_Switches___init__ X0 G c TB) hr hg rfl rfl (sa_cons rfl (v_ 0 rfl (by rfl) (by rfl)) (sa_cons rfl (se_call (ok_silent_state X0 G c TB) hr hg rfl rfl (sa_cons rfl (v_ 0 rfl (by rfl) (by rfl)) sa_nil) (by rfl) rfl) sa_nil)) (by rfl) rfl))) ss_nil) (ss_cons (ss_expr (se_call (ok_check_state X0 G c TB) hr hg rfl rfl (sa_cons rfl (v_ 0 rfl (by rfl) (by rfl)) (sa_cons rfl (v_ 2 rfl (by rfl) (by rfl)) sa_nil)) (by rfl) rfl) rfl) (ss_one (ss_ret (se_make (ok_Switches___init__ X0 G c TB) hr hg rfl rfl (sa_cons rfl (v_ 0 rfl (by rfl) (by rfl)) (sa_cons rfl (v_ 2 rfl (by rfl) (by rfl)) sa_nil)) (by rfl) rfl))))))), He.glo_ok X0 G (c.fact 41 rfl), F.kp, b, .nil, fun _ => .nil⟩
def b_contains : Ss := (seqF (ifF (uno isND (vr 0)) (rtF (cst (.bl false))) nxF) (seqF (asgF (gTp 2 [(gNm 2), (gNm 3)]) (vr 0)) (rtF (andF (orF (uno isND (vr 2)) (bin (op2 .le) (vr 2) (vr 1))) (orF (uno isND (vr 3)) (bin (op2 .le) (vr 1) (vr 3)))))))
def f_contains : Fn := defF 2 4 (kpl [0, 1]) b_contains
theorem ok_contains (X0 : K.In h) (G : h.Ns mainGlobals mg) (c : He.SaysD fa fn K) (TB : LamX.TabB base mg (He.cT K lamD).1 (He.cT K lamD).2) : CalG P w K mg base 1 "contains" f_contains [] := by
  obtain ⟨fd, F⟩ := c.def_ 18 rfl
  have S : FnScope (["interval", "position", "low", "high"] : List Str) (["interval", "position"] : List Str) (defScope (top 25)) := ⟨rfl, rfl, rfl, by decide +kernel, rfl, by decide +kernel, by decide +kernel⟩
  have b : Binds K fd (["interval", "position"] : List Str) [] := F.bindsN fun _ _ _ _ _ _ us hl => match us, hl with | [_, _], _ => rfl
  exact ⟨_, fd, ["interval", "position"], [], [], (g_mk (k := 0) (kp := (kpl [0, 1])) (Fb := b_contains) rfl rfl F S fun cdv B below s J hr hg => by
    exact (ss_cons (ss_if (st_isN (v_ 0 rfl (by rfl) (by rfl))) (ss_one (ss_ret kb_)) ss_nil) (ss_cons (ss_asg (v_ 0 rfl (by rfl) (by rfl)) (sg_tup rfl (sgs_cons (tg_ (kpl [0, 1]) 2 S.nd rfl (by rfl) rfl (.inl rfl)) (sgs_cons (tg_ (kpl [0, 1]) 3 S.nd rfl (by rfl) rfl (.inl rfl)) sgs_nil rfl) rfl) rfl rfl) rfl (by kernel_rfl) rfl) (ss_one (ss_ret (se_and (se_or (se_isN (v_ 2 rfl (by rfl) (by rfl))) (pe_one (se_cmp opd_le (v_ 2 rfl (by rfl) (by rfl)) (v_ 1 rfl (by rfl) (by rfl)) rfl))) (pe_one (se_or (se_isN (v_ 3 rfl (by rfl) (by rfl))) (pe_one (se_cmp opd_le (v_ 1 rfl (by rfl) (by rfl)) (v_ 3 rfl (by rfl) (by rfl)) rfl)))))))))), He.glo_ok X0 G (c.fact 42 rfl), F.kp, b, .nil, fun _ => .nil⟩
def b_kind_by : Ss := (seqF (asgF (gTp 2 [(gNm 3), (gNm 4)]) (vr 2)) (seqF (ifF (uno isND (bin ixD (vr 1) (vr 4))) (rtF (cst (.str "all"))) nxF) (rtF (iteF' (cll [(bin ixD (vr 1) (vr 4)), (bin ixD (vr 0) (vr 3))] [] f_contains) (cst (.str "direct")) (cst (.str "flood"))))))
def f_kind_by : Fn := defF 3 5 (kpl [0, 1, 2]) b_kind_by
theorem ok_kind_by (X0 : K.In h) (G : h.Ns mainGlobals mg) (c : He.SaysD fa fn K) (TB : LamX.TabB base mg (He.cT K lamD).1 (He.cT K lamD).2) : CalG P w K mg base 2 "kind_by" f_kind_by [] := by
  obtain ⟨fd, F⟩ := c.def_ 19 rfl
  have S : FnScope (["line", "intervals", "frame", "sender", "target"] : List Str) (["line", "intervals", "frame"] : List Str) (defScope (top 31)) := ⟨rfl, rfl, rfl, by decide +kernel, rfl, by decide +kernel, by decide +kernel⟩
  have b : Binds K fd (["line", "intervals", "frame"] : List Str) [] := F.bindsN fun _ _ _ _ _ _ us hl => match us, hl with | [_, _, _], _ => rfl
  exact ⟨_, fd, ["line", "intervals", "frame"], [], [], (g_mk (k := 1) (kp := (kpl [0, 1, 2])) (Fb := b_kind_by) rfl rfl F S fun cdv B below s J hr hg => by
    exact (ss_cons (ss_asg (v_ 2 rfl (by rfl) (by rfl)) (sg_tup rfl (sgs_cons (tg_ (kpl [0, 1, 2]) 3 S.nd rfl (by rfl) rfl (.inl rfl)) (sgs_cons (tg_ (kpl [0, 1, 2]) 4 S.nd rfl (by rfl) rfl (.inl rfl)) sgs_nil rfl) rfl) rfl rfl) rfl (by kernel_rfl) rfl) (ss_cons (ss_if (st_isN (se_ix (hu_ hr) (v_ 1 rfl (by rfl) (by rfl)) (v_ 4 rfl (by rfl) (by rfl)) rfl)) (ss_one (ss_ret (gs_ rfl (He.str_ok X0 G (c.fact 17 rfl)) (by rfl)))) ss_nil) (ss_one (ss_ret (se_ite (st_val (se_call (ok_contains X0 G c TB) hr hg rfl rfl (sa_cons rfl (se_ix (hu_ hr) (v_ 1 rfl (by rfl) (by rfl)) (v_ 4 rfl (by rfl) (by rfl)) rfl) (sa_cons rfl (se_ix (hu_ hr) (v_ 0 rfl (by rfl) (by rfl)) (v_ 3 rfl (by rfl) (by rfl)) rfl) sa_nil)) (by rfl) rfl) rfl) (gs_ rfl (He.str_ok X0 G (c.fact 18 rfl)) (by rfl)) (gs_ rfl (He.str_ok X0 G (c.fact 19 rfl)) (by rfl)))))))), He.glo_ok X0 G (c.fact 43 rfl), F.kp, b, .nil, fun _ => .nil⟩
def b_reach_by : Ss := (seqF (parF 3 4 (bin ixD (vr 0) (bin ixD (vr 1) (cst (.int 0)))) (bin ixD (vr 0) (bin ixD (vr 1) (cst (.int 1))))) (seqF (ifF (bin (op2 .eq) (vr 2) (cst (.str "all"))) (rtF (froz [(cst .non), (cst .non)] tupF)) nxF) (seqF (ifF (bin (op2 .eq) (vr 2) (cst (.str "direct"))) (rtF (froz [(cal (d2 minF) [(vr 3), (vr 4)]), (cal (d2 maxF) [(vr 3), (vr 4)])] tupF)) nxF) (rtF (iteF' (bin (op2 .lt) (vr 3) (vr 4)) (froz [(cst .non), (vr 4)] tupF) (froz [(vr 4), (cst .non)] tupF))))))
def f_reach_by : Fn := defF 3 5 (kpl [0, 1, 2]) b_reach_by
theorem ok_reach_by (X0 : K.In h) (G : h.Ns mainGlobals mg) (c : He.SaysD fa fn K) (TB : LamX.TabB base mg (He.cT K lamD).1 (He.cT K lamD).2) : CalG P w K mg base 1 "reach_by" f_reach_by [] := by
  obtain ⟨fd, F⟩ := c.def_ 20 rfl
  have S : FnScope (["line", "frame", "kind", "start", "goal"] : List Str) (["line", "frame", "kind"] : List Str) (defScope (top 32)) := ⟨rfl, rfl, rfl, by decide +kernel, rfl, by decide +kernel, by decide +kernel⟩
  have b : Binds K fd (["line", "frame", "kind"] : List Str) [] := F.bindsN fun _ _ _ _ _ _ us hl => match us, hl with | [_, _, _], _ => rfl
  exact ⟨_, fd, ["line", "frame", "kind"], [], [], (g_mk (k := 0) (kp := (kpl [0, 1, 2])) (Fb := b_reach_by) rfl rfl F S fun cdv B below s J hr hg => by
    exact (ss_cons (ss_par (i := 3) (j := 4) rfl S.nd rfl rfl (by decide) rfl rfl rfl rfl (sa_cons rfl (se_ix (hu_ hr) (v_ 0 rfl (by rfl) (by rfl)) (se_ix (hu_ hr) (v_ 1 rfl (by rfl) (by rfl)) ki_ rfl) rfl) (sa_cons rfl (se_ix (hu_ hr) (v_ 0 rfl (by rfl) (by rfl)) (se_ix (hu_ hr) (v_ 1 rfl (by rfl) (by rfl)) ki_ rfl) rfl) sa_nil)) (by kernel_rfl) rfl) (ss_cons (ss_if (st_cmp (opd_eq (hu_ hr)) (v_ 2 rfl (by rfl) (by rfl)) (gs_ rfl (He.str_ok X0 G (c.fact 17 rfl)) (by rfl)) rfl) (ss_one (ss_ret (se_tup (sa_cons rfl kn_ (sa_cons rfl kn_ sa_nil))))) ss_nil) (ss_cons (ss_if (st_cmp (opd_eq (hu_ hr)) (v_ 2 rfl (by rfl) (by rfl)) (gs_ rfl (He.str_ok X0 G (c.fact 18 rfl)) (by rfl)) rfl) (ss_one (ss_ret (se_tup (sa_cons rfl (se_callB (cd_min rfl) rfl (He.free_ok X0 G (c.fact 20 rfl)) bt_min (sa_cons rfl (v_ 3 rfl (by rfl) (by rfl)) (sa_cons rfl (v_ 4 rfl (by rfl) (by rfl)) sa_nil)) rfl (by decide) (by rfl)) (sa_cons rfl (se_callB (cd_max rfl) rfl (He.free_ok X0 G (c.fact 21 rfl)) bt_max (sa_cons rfl (v_ 3 rfl (by rfl) (by rfl)) (sa_cons rfl (v_ 4 rfl (by rfl) (by rfl)) sa_nil)) rfl (by decide) (by rfl)) sa_nil))))) ss_nil) (ss_one (ss_ret (se_ite (st_cmp opd_lt (v_ 3 rfl (by rfl) (by rfl)) (v_ 4 rfl (by rfl) (by rfl)) rfl) (se_tup (sa_cons rfl kn_ (sa_cons rfl (v_ 4 rfl (by rfl) (by rfl)) sa_nil))) (se_tup (sa_cons rfl (v_ 4 rfl (by rfl) (by rfl)) (sa_cons rfl kn_ sa_nil)))))))))), He.glo_ok X0 G (c.fact 44 rfl), F.kp, b, .nil, fun _ => .nil⟩
def b_joined : Ss := (seqF (ifF (uno isND (vr 0)) (rtF (vr 1)) nxF) (seqF (setF 2 (iteF' (orF (uno isND (bin ixD (vr 0) (cst (.int 0)))) (uno isND (bin ixD (vr 1) (cst (.int 0))))) (cst .non) (cal (d2 minF) [(bin ixD (vr 0) (cst (.int 0))), (bin ixD (vr 1) (cst (.int 0)))]))) (seqF (setF 3 (iteF' (orF (uno isND (bin ixD (vr 0) (cst (.int 1)))) (uno isND (bin ixD (vr 1) (cst (.int 1))))) (cst .non) (cal (d2 maxF) [(bin ixD (vr 0) (cst (.int 1))), (bin ixD (vr 1) (cst (.int 1)))]))) (rtF (froz [(vr 2), (vr 3)] tupF)))))
def f_joined : Fn := defF 2 4 (kpl [0, 1]) b_joined
theorem ok_joined (X0 : K.In h) (G : h.Ns mainGlobals mg) (c : He.SaysD fa fn K) (TB : LamX.TabB base mg (He.cT K lamD).1 (He.cT K lamD).2) : CalG P w K mg base 1 "joined" f_joined [] := by
  obtain ⟨fd, F⟩ := c.def_ 21 rfl
  have S : FnScope (["interval", "other", "low", "high"] : List Str) (["interval", "other"] : List Str) (defScope (top 26)) := ⟨rfl, rfl, rfl, by decide +kernel, rfl, by decide +kernel, by decide +kernel⟩
  have b : Binds K fd (["interval", "other"] : List Str) [] := F.bindsN fun _ _ _ _ _ _ us hl => match us, hl with | [_, _], _ => rfl
  exact ⟨_, fd, ["interval", "other"], [], [], (g_mk (k := 0) (kp := (kpl [0, 1])) (Fb := b_joined) rfl rfl F S fun cdv B below s J hr hg => by
    exact (ss_cons (ss_if (st_isN (v_ 0 rfl (by rfl) (by rfl))) (ss_one (ss_ret (v_ 1 rfl (by rfl) (by rfl)))) ss_nil) (ss_cons (ss_set (i := 2) S.nd rfl (loc_of (by rfl)) rfl (.inl rfl) (se_ite (PW.pt (st_or (st_isN (se_ix (hu_ hr) (v_ 0 rfl (by rfl) (by rfl)) ki_ rfl)) (pw_or1 (st_isN (se_ix (hu_ hr) (v_ 1 rfl (by rfl) (by rfl)) ki_ rfl))))) kn_ (se_callB (cd_min rfl) rfl (He.free_ok X0 G (c.fact 20 rfl)) bt_min (sa_cons rfl (se_ix (hu_ hr) (v_ 0 rfl (by rfl) (by rfl)) ki_ rfl) (sa_cons rfl (se_ix (hu_ hr) (v_ 1 rfl (by rfl) (by rfl)) ki_ rfl) sa_nil)) rfl (by decide) (by rfl))) rfl) (ss_cons (ss_set (i := 3) S.nd rfl (loc_of (by rfl)) rfl (.inl rfl) (se_ite (PW.pt (st_or (st_isN (se_ix (hu_ hr) (v_ 0 rfl (by rfl) (by rfl)) ki_ rfl)) (pw_or1 (st_isN (se_ix (hu_ hr) (v_ 1 rfl (by rfl) (by rfl)) ki_ rfl))))) kn_ (se_callB (cd_max rfl) rfl (He.free_ok X0 G (c.fact 21 rfl)) bt_max (sa_cons rfl (se_ix (hu_ hr) (v_ 0 rfl (by rfl) (by rfl)) ki_ rfl) (sa_cons rfl (se_ix (hu_ hr) (v_ 1 rfl (by rfl) (by rfl)) ki_ rfl) sa_nil)) rfl (by decide) (by rfl))) rfl) (ss_one (ss_ret (se_tup (sa_cons rfl (v_ 2 rfl (by rfl) (by rfl)) (sa_cons rfl (v_ 3 rfl (by rfl) (by rfl)) sa_nil))))))))), He.glo_ok X0 G (c.fact 45 rfl), F.kp, b, .nil, fun _ => .nil⟩
def b_Switches_pass_on : Ss := (seqF (setF 2 (cll [(fldF ats "places" (vr 0)), (fldF ats "intervals" (vr 0)), (vr 1)] [] f_kind_by)) (seqF (setF 3 (cll [(fldF ats "places" (vr 0)), (vr 1), (vr 2)] [] f_reach_by)) (seqF (stF (cll [(bin ixD (fldF ats "intervals" (vr 0)) (bin ixD (vr 1) (cst (.int 0)))), (vr 3)] [] f_joined) (fldF ats "intervals" (vr 0)) (bin ixD (vr 1) (cst (.int 0)))) (rtF (froz [(vr 2), (vr 3)] tupF)))))
def f_Switches_pass_on : Fn := defF 2 4 (kpl [0, 1]) b_Switches_pass_on
theorem ok_Switches_pass_on (X0 : K.In h) (G : h.Ns mainGlobals mg) (c : He.SaysD fa fn K) (TB : LamX.TabB base mg (He.cT K lamD).1 (He.cT K lamD).2) : MetG P w K mg base 3 "Switches" "pass_on" f_Switches_pass_on [] := by
  obtain ⟨fd, F⟩ := c.def_ 22 rfl
  have S : FnScope (["self", "frame", "kind", "reach"] : List Str) (["self", "frame"] : List Str) (defScope (inClass (top 33) 1)) := ⟨rfl, rfl, rfl, by decide +kernel, rfl, by decide +kernel, by decide +kernel⟩
  have b : Binds K fd (["self", "frame"] : List Str) [] := F.bindsN fun _ _ _ _ _ _ us hl => match us, hl with | [_, _], _ => rfl
  exact ⟨He.cls_ok (c.fact 46 rfl), _, fd, ["self", "frame"], [], [], (g_mk (k := 2) (kp := (kpl [0, 1])) (Fb := b_Switches_pass_on) rfl rfl F S fun cdv B below s J hr hg => by
    exact (ss_cons (ss_set (i := 2) S.nd rfl (loc_of (by rfl)) rfl (.inl rfl) (se_call (ok_kind_by X0 G c TB) hr hg rfl rfl (sa_cons rfl (se_fld (ats_ok c) (v_ 0 rfl (by rfl) (by rfl)) rfl) (sa_cons rfl (se_fld (ats_ok c) (v_ 0 rfl (by rfl) (by rfl)) rfl) (sa_cons rfl (v_ 1 rfl (by rfl) (by rfl)) sa_nil))) (by rfl) rfl) rfl) (ss_cons (ss_set (i := 3) S.nd rfl (loc_of (by rfl)) rfl (.inl rfl) (se_call (ok_reach_by X0 G c TB) hr hg rfl rfl (sa_cons rfl (se_fld (ats_ok c) (v_ 0 rfl (by rfl) (by rfl)) rfl) (sa_cons rfl (v_ 1 rfl (by rfl) (by rfl)) (sa_cons rfl (v_ 2 rfl (by rfl) (by rfl)) sa_nil))) (by rfl) rfl) rfl) (ss_cons (ss_st (hu_ hr) (se_call (ok_joined X0 G c TB) hr hg rfl rfl (sa_cons rfl (se_ix (hu_ hr) (se_fld (ats_ok c) (v_ 0 rfl (by rfl) (by rfl)) rfl) (se_ix (hu_ hr) (v_ 1 rfl (by rfl) (by rfl)) ki_ rfl) rfl) (sa_cons rfl (v_ 3 rfl (by rfl) (by rfl)) sa_nil)) (by rfl) rfl) (se_fld (ats_ok c) (v_ 0 rfl (by rfl) (by rfl)) rfl) (se_ix (hu_ hr) (v_ 1 rfl (by rfl) (by rfl)) ki_ rfl) (fun _ => rfl) rfl (by kernel_rfl) rfl) (ss_one (ss_ret (se_tup (sa_cons rfl (v_ 2 rfl (by rfl) (by rfl)) (sa_cons rfl (v_ 3 rfl (by rfl) (by rfl)) sa_nil))))))))), He.meth_ok (c.fact 47 rfl), b, .nil, fun _ => .nil⟩
def l_known_after_1 : Ss := (exF (mth "Switches" "pass_on" (vr 3) [(vr 4)] [] f_Switches_pass_on))
def b_known_after : Ss := (seqF (setF 3 (cll [(vr 0), (vr 1), (vr 2)] [] f_started)) (seqF (forF (itV 1) (gNm 4) l_known_after_1) (rtF (fldF ats "intervals" (vr 3)))))
def f_known_after : Fn := defF 3 5 (kpl [0, 1, 2]) b_known_after
theorem okg_known_after (X0 : K.In h) (G : h.Ns mainGlobals mg) (c : He.SaysD fa fn K) (TB : LamX.TabB base mg (He.cT K lamD).1 (He.cT K lamD).2) {fd : FuncData} (F : FunD K "known_after" "known_after" (defArgs (top 39)) (defBody (top 39)) (defScope (top 39)) [] [("start", V.non)] (He.ga K "known_after") fd) : FnG P w K mg base 8 (He.ga K "known_after") fd ["line", "frames", "start"] (spOf K f_known_after) := by
  have S : FnScope (["line", "frames", "start", "switches", "frame"] : List Str) (["line", "frames", "start"] : List Str) (defScope (top 39)) := ⟨rfl, rfl, rfl, by decide +kernel, rfl, by decide +kernel, by decide +kernel⟩
  exact (g_mk (k := 7) (kp := (kpl [0, 1, 2])) (Fb := b_known_after) rfl rfl F S fun cdv B below s J hr hg => by
    exact (ss_cons (ss_set (i := 3) S.nd rfl (loc_of (by rfl)) rfl (.inl rfl) (se_call (ok_started X0 G c TB) hr hg rfl rfl (sa_cons rfl (v_ 0 rfl (by rfl) (by rfl)) (sa_cons rfl (v_ 1 rfl (by rfl) (by rfl)) (sa_cons rfl (v_ 2 rfl (by rfl) (by rfl)) sa_nil))) (by rfl) rfl) rfl) (ss_cons (ss_forV PassesOwn.never rfl (tv_ 1 rfl (by rfl) (by rfl)) (tg_ (kpl [0, 1, 2]) 4 S.nd rfl (by rfl) rfl (.inl rfl)) (ss_one (ss_expr (se_meth (ok_Switches_pass_on X0 G c TB) hr hg rfl (v_ 3 rfl (by rfl) (by rfl)) (sa_cons rfl (v_ 4 rfl (by rfl) (by rfl)) sa_nil) rfl rfl) rfl))) (ss_one (ss_ret (se_fld (ats_ok c) (v_ 3 rfl (by rfl) (by rfl)) rfl))))))
theorem ok_known_after (X0 : K.In h) (G : h.Ns mainGlobals mg) (c : He.SaysD fa fn K) (TB : LamX.TabB base mg (He.cT K lamD).1 (He.cT K lamD).2) : CalG P w K mg base 8 "known_after" f_known_after [.non] := by
  obtain ⟨fd, F0⟩ := c.def_ 23 rfl
  have F : FunD K "known_after" "known_after" (defArgs (top 39)) (defBody (top 39)) (defScope (top 39)) [] [("start", V.non)] (He.ga K "known_after") fd := F0
  obtain ⟨ds, vd, b⟩ := F.binds0 (ps := ["line", "frames", "start"]) 2 (by decide) rfl fun D _ _ _ _ _ us ks hl hk => match us, hl, ks, hk with | [_, _], _, [_], _ => ⟨_, _, _, _, _, _, rfl, rfl, rfl⟩
  exact ⟨_, fd, ["line", "frames", "start"], [V.non], ds, okg_known_after X0 G c TB F, He.glo_ok X0 G (c.fact 48 rfl), F.kp, b, vd, fun Z => (.cons .non .nil)⟩
theorem okk_known_after (X0 : K.In h) (G : h.Ns mainGlobals mg) (c : He.SaysD fa fn K) (TB : LamX.TabB base mg (He.cT K lamD).1 (He.cT K lamD).2) : CalK P w K mg base 8 "known_after" 2 ["start"] f_known_after := by
  obtain ⟨fd, F0⟩ := c.def_ 23 rfl
  have F : FunD K "known_after" "known_after" (defArgs (top 39)) (defBody (top 39)) (defScope (top 39)) [] [("start", V.non)] (He.ga K "known_after") fd := F0
  have b := kb_all (ps := ["line", "frames", "start"]) (ks := ["start"]) (n := 2) F (by decide) fun D _ _ _ _ _ us ws hl hk => match us, hl, ws, hk with | [_, _], _, [_], _ => rfl
  exact ⟨_, fd, ["line", "frames", "start"], okg_known_after X0 G c TB F, He.glo_ok X0 G (c.fact 48 rfl), F.kp, b⟩
def b_check_host : Ss := (ifF (orF (notF (cll [(vr 1)] [] f_is_host)) (bin (op2 .notin) (vr 1) (vr 0))) (fun _ => none) nxF)
def f_check_host : Fn := defF 2 2 (kpl [0, 1]) b_check_host
theorem ok_check_host (X0 : K.In h) (G : h.Ns mainGlobals mg) (c : He.SaysD fa fn K) (TB : LamX.TabB base mg (He.cT K lamD).1 (He.cT K lamD).2) : CalG P w K mg base 2 "check_host" f_check_host [] := by
  obtain ⟨fd, F⟩ := c.def_ 24 rfl
  have S : FnScope (["line", "value"] : List Str) (["line", "value"] : List Str) (defScope (top 17)) := ⟨rfl, rfl, rfl, by decide +kernel, rfl, by decide +kernel, by decide +kernel⟩
  have b : Binds K fd (["line", "value"] : List Str) [] := F.bindsN fun _ _ _ _ _ _ us hl => match us, hl with | [_, _], _ => rfl
  exact ⟨_, fd, ["line", "value"], [], [], (g_mk (k := 1) (kp := (kpl [0, 1])) (Fb := b_check_host) rfl rfl F S fun cdv B below s J hr hg => by
    exact (ss_one (ss_if (PW.pt (st_or (st_not (st_val (se_call (ok_is_host X0 G c TB) hr hg rfl rfl (sa_cons rfl (v_ 1 rfl (by rfl) (by rfl)) sa_nil) (by rfl) rfl) rfl)) (pw_or1 (st_cmp (opd_notin (hu_ hr)) (v_ 1 rfl (by rfl) (by rfl)) (v_ 0 rfl (by rfl) (by rfl)) rfl)))) (ss_one ss_never) ss_nil))), He.glo_ok X0 G (c.fact 49 rfl), F.kp, b, .nil, fun _ => .nil⟩
def b_check_single : Ss := (seqF (exF (cll [(vr 0), (vr 1)] [] f_check_state)) (seqF (exF (cll [(vr 0), (vr 2)] [] f_check_host)) (seqF (exF (cll [(vr 0), (vr 3)] [] f_check_host)) (ifF (bin (op2 .eq) (vr 2) (vr 3)) (fun _ => none) nxF))))
def f_check_single : Fn := defF 4 4 (kpl [0, 1, 2, 3]) b_check_single
theorem ok_check_single (X0 : K.In h) (G : h.Ns mainGlobals mg) (c : He.SaysD fa fn K) (TB : LamX.TabB base mg (He.cT K lamD).1 (He.cT K lamD).2) : CalG P w K mg base 7 "check_single" f_check_single [] := by
  obtain ⟨fd, F⟩ := c.def_ 25 rfl
  have S : FnScope (["line", "state", "sender", "target"] : List Str) (["line", "state", "sender", "target"] : List Str) (defScope (top 34)) := ⟨rfl, rfl, rfl, by decide +kernel, rfl, by decide +kernel, by decide +kernel⟩
  have b : Binds K fd (["line", "state", "sender", "target"] : List Str) [] := F.bindsN fun _ _ _ _ _ _ us hl => match us, hl with | [_, _, _, _], _ => rfl
  exact ⟨_, fd, ["line", "state", "sender", "target"], [], [], (g_mk (k := 6) (kp := (kpl [0, 1, 2, 3])) (Fb := b_check_single) rfl rfl F S fun cdv B below s J hr hg => by
    exact (ss_cons (ss_expr (se_call (ok_check_state X0 G c TB) hr hg rfl rfl (sa_cons rfl (v_ 0 rfl (by rfl) (by rfl)) (sa_cons rfl (v_ 1 rfl (by rfl) (by rfl)) sa_nil)) (by rfl) rfl) rfl) (ss_cons (ss_expr (se_call (ok_check_host X0 G c TB) hr hg rfl rfl (sa_cons rfl (v_ 0 rfl (by rfl) (by rfl)) (sa_cons rfl (v_ 2 rfl (by rfl) (by rfl)) sa_nil)) (by rfl) rfl) rfl) (ss_cons (ss_expr (se_call (ok_check_host X0 G c TB) hr hg rfl rfl (sa_cons rfl (v_ 0 rfl (by rfl) (by rfl)) (sa_cons rfl (v_ 3 rfl (by rfl) (by rfl)) sa_nil)) (by rfl) rfl) rfl) (ss_one (ss_if (st_cmp (opd_eq (hu_ hr)) (v_ 2 rfl (by rfl) (by rfl)) (v_ 3 rfl (by rfl) (by rfl)) rfl) (ss_one ss_never) ss_nil)))))), He.glo_ok X0 G (c.fact 50 rfl), F.kp, b, .nil, fun _ => .nil⟩
def b_kind_of : Ss := (seqF (exF (cll [(vr 0), (vr 1), (vr 2), (vr 3)] [] f_check_single)) (rtF (cll [(vr 0), (vr 1), (froz [(vr 2), (vr 3)] tupF)] [] f_kind_by)))
def f_kind_of : Fn := defF 4 4 (kpl [0, 1, 2, 3]) b_kind_of
theorem ok_kind_of (X0 : K.In h) (G : h.Ns mainGlobals mg) (c : He.SaysD fa fn K) (TB : LamX.TabB base mg (He.cT K lamD).1 (He.cT K lamD).2) : CalG P w K mg base 8 "kind_of" f_kind_of [] := by
  obtain ⟨fd, F⟩ := c.def_ 26 rfl
  have S : FnScope (["line", "state", "sender", "target"] : List Str) (["line", "state", "sender", "target"] : List Str) (defScope (top 35)) := ⟨rfl, rfl, rfl, by decide +kernel, rfl, by decide +kernel, by decide +kernel⟩
  have b : Binds K fd (["line", "state", "sender", "target"] : List Str) [] := F.bindsN fun _ _ _ _ _ _ us hl => match us, hl with | [_, _, _, _], _ => rfl
  exact ⟨_, fd, ["line", "state", "sender", "target"], [], [], (g_mk (k := 7) (kp := (kpl [0, 1, 2, 3])) (Fb := b_kind_of) rfl rfl F S fun cdv B below s J hr hg => by
    exact (ss_cons (ss_expr (se_call (ok_check_single X0 G c TB) hr hg rfl rfl (sa_cons rfl (v_ 0 rfl (by rfl) (by rfl)) (sa_cons rfl (v_ 1 rfl (by rfl) (by rfl)) (sa_cons rfl (v_ 2 rfl (by rfl) (by rfl)) (sa_cons rfl (v_ 3 rfl (by rfl) (by rfl)) sa_nil)))) (by rfl) rfl) rfl) (ss_one (ss_ret (se_call (ok_kind_by X0 G c TB) hr hg rfl rfl (sa_cons rfl (v_ 0 rfl (by rfl) (by rfl)) (sa_cons rfl (v_ 1 rfl (by rfl) (by rfl)) (sa_cons rfl (se_tup (sa_cons rfl (v_ 2 rfl (by rfl) (by rfl)) (sa_cons rfl (v_ 3 rfl (by rfl) (by rfl)) sa_nil))) sa_nil))) (by rfl) rfl))))), He.glo_ok X0 G (c.fact 51 rfl), F.kp, b, .nil, fun _ => .nil⟩
def b_reach_of : Ss := (seqF (setF 4 (cll [(vr 0), (vr 1), (vr 2), (vr 3)] [] f_kind_of)) (rtF (cll [(vr 0), (froz [(vr 2), (vr 3)] tupF), (vr 4)] [] f_reach_by)))
def f_reach_of : Fn := defF 4 5 (kpl [0, 1, 2, 3]) b_reach_of
theorem ok_reach_of (X0 : K.In h) (G : h.Ns mainGlobals mg) (c : He.SaysD fa fn K) (TB : LamX.TabB base mg (He.cT K lamD).1 (He.cT K lamD).2) : CalG P w K mg base 9 "reach_of" f_reach_of [] := by
  obtain ⟨fd, F⟩ := c.def_ 27 rfl
  have S : FnScope (["line", "state", "sender", "target", "kind"] : List Str) (["line", "state", "sender", "target"] : List Str) (defScope (top 36)) := ⟨rfl, rfl, rfl, by decide +kernel, rfl, by decide +kernel, by decide +kernel⟩
  have b : Binds K fd (["line", "state", "sender", "target"] : List Str) [] := F.bindsN fun _ _ _ _ _ _ us hl => match us, hl with | [_, _, _, _], _ => rfl
  exact ⟨_, fd, ["line", "state", "sender", "target"], [], [], (g_mk (k := 8) (kp := (kpl [0, 1, 2, 3])) (Fb := b_reach_of) rfl rfl F S fun cdv B below s J hr hg => by
    exact (ss_cons (ss_set (i := 4) S.nd rfl (loc_of (by rfl)) rfl (.inl rfl) (se_call (ok_kind_of X0 G c TB) hr hg rfl rfl (sa_cons rfl (v_ 0 rfl (by rfl) (by rfl)) (sa_cons rfl (v_ 1 rfl (by rfl) (by rfl)) (sa_cons rfl (v_ 2 rfl (by rfl) (by rfl)) (sa_cons rfl (v_ 3 rfl (by rfl) (by rfl)) sa_nil)))) (by rfl) rfl) rfl) (ss_one (ss_ret (se_call (ok_reach_by X0 G c TB) hr hg rfl rfl (sa_cons rfl (v_ 0 rfl (by rfl) (by rfl)) (sa_cons rfl (se_tup (sa_cons rfl (v_ 2 rfl (by rfl) (by rfl)) (sa_cons rfl (v_ 3 rfl (by rfl) (by rfl)) sa_nil))) (sa_cons rfl (v_ 4 rfl (by rfl) (by rfl)) sa_nil))) (by rfl) rfl))))), He.glo_ok X0 G (c.fact 52 rfl), F.kp, b, .nil, fun _ => .nil⟩
def l__law_flow_1 : Ss := (seqF (asgF (gTp 2 [(gNm 9), (gNm 10)]) (mtF poD (vr 8) [])) (ifF (chn (op2 .le) (op2 .le) (vr 3) (vr 9) (vr 4)) (seqF (exF (mtF apD (vr 7) [(vr 9)])) (seqF (setF 11 (ddGet 0 (vr 9) 6)) (seqF (ddSt 0 9 5 (bin (op2 .sub) (cst (.int 0)) (vr 10))) (seqF (setF 12 (iteF' (uno isND (vr 11)) (froz [(uno ngD (cst (.int 1))), (cst (.int 1))] lstF) (repF (froz [(vr 11)] lstF) (cal (d1 intF) [(bin (op2 .ne) (vr 11) (cst (.int 0)))])))) (exF (extF (vr 8) (lcF [13] (itV 12) (gNm 13) (some (bin (op2 .ne) (vr 13) (bin (op2 .sub) (cst (.int 0)) (vr 10)))) (froz [(bin (op2 .add) (vr 9) (vr 13)), (vr 13)] tupF)))))))) nxF))
def b__law_flow : Ss := (seqF (asgF (gTp 2 [(gNm 5), (gNm 6)]) (vr 2)) (seqF (parF 7 8 (froz [] lstF) (froz [(froz [(bin ixD (vr 1) (vr 5)), (cst (.int 0))] tupF)] lstF)) (seqF (whF (bin (op2 .ne) (vr 8) (froz [] lstF)) l__law_flow_1) (rtF (cal (d1 sortedF) [(vr 7)])))))
def f__law_flow : Fn := defF 5 14 (kpl [0, 1, 2, 3, 4]) b__law_flow
theorem ok__law_flow (X0 : K.In h) (G : h.Ns mainGlobals mg) (c : He.SaysD fa fn K) (TB : LamX.TabB base mg (He.cT K lamD).1 (He.cT K lamD).2) : CalG P w K mg base 1 "_law_flow" f__law_flow [] := by
  obtain ⟨fd, F⟩ := c.def_ 28 rfl
  have S : FnScope (["tables", "net", "pair", "low", "high", "sender", "target", "found", "moves", "place", "side", "way", "ways", "one"] : List Str) (["tables", "net", "pair", "low", "high"] : List Str) (defScope (top 45)) := ⟨rfl, rfl, rfl, by decide +kernel, rfl, by decide +kernel, by decide +kernel⟩
  have b : Binds K fd (["tables", "net", "pair", "low", "high"] : List Str) [] := F.bindsN fun _ _ _ _ _ _ us hl => match us, hl with | [_, _, _, _, _], _ => rfl
  exact ⟨_, fd, ["tables", "net", "pair", "low", "high"], [], [], (g_mk (k := 0) (kp := (kpl [0, 1, 2, 3, 4])) (Fb := b__law_flow) rfl rfl F S fun cdv B below s J hr hg => by
    exact (ss_cons (ss_asg (v_ 2 rfl (by rfl) (by rfl)) (sg_tup rfl (sgs_cons (tg_ (kpl [0, 1, 2, 3, 4]) 5 S.nd rfl (by rfl) rfl (.inl rfl)) (sgs_cons (tg_ (kpl [0, 1, 2, 3, 4]) 6 S.nd rfl (by rfl) rfl (.inl rfl)) sgs_nil rfl) rfl) rfl rfl) rfl (by kernel_rfl) rfl) (ss_cons (ss_par (i := 7) (j := 8) rfl S.nd rfl rfl (by decide) rfl rfl rfl rfl (sa_cons rfl (se_lst sa_nil) (sa_cons rfl (se_lst (sa_cons rfl (se_tup (sa_cons rfl (se_ix (hu_ hr) (v_ 1 rfl (by rfl) (by rfl)) (v_ 5 rfl (by rfl) (by rfl)) rfl) (sa_cons rfl ki_ sa_nil))) sa_nil)) sa_nil)) (by kernel_rfl) rfl) (ss_cons (ss_while PassesOwn.never (st_cmp (opd_ne (hu_ hr)) (v_ 8 rfl (by rfl) (by rfl)) (se_lst sa_nil) rfl) (ss_cons (ss_asg (se_bm0 PySem.F.slot_list_pop PySem.F.type_list_pop mt_pop op_pop (v_ 8 rfl (by rfl) (by rfl)) rfl rfl) (sg_tup rfl (sgs_cons (tg_ (kpl [0, 1, 2, 3, 4]) 9 S.nd rfl (by rfl) rfl (.inl rfl)) (sgs_cons (tg_ (kpl [0, 1, 2, 3, 4]) 10 S.nd rfl (by rfl) rfl (.inl rfl)) sgs_nil rfl) rfl) rfl rfl) rfl (by kernel_rfl) rfl) (ss_one (ss_if (st_chn opd_le opd_le (v_ 3 rfl (by rfl) (by rfl)) (v_ 9 rfl (by rfl) (by rfl)) (v_ 4 rfl (by rfl) (by rfl)) rfl) (ss_cons (ss_expr (se_bm PySem.F.slot_list_append PySem.F.type_list_append mt_append op_app (v_ 7 rfl (by rfl) (by rfl)) (sa_cons rfl (v_ 9 rfl (by rfl) (by rfl)) sa_nil) rfl rfl rfl (star_ok rfl) rfl) rfl) (ss_cons (ss_set (i := 11) S.nd rfl (loc_of (by rfl)) rfl (.inl rfl) (se_ddGet (hu_ hr) (tv_ 0 rfl (by rfl) (by rfl)) (v_ 9 rfl (by rfl) (by rfl)) rfl (tv_ 6 rfl (by rfl) (by rfl)) ⟨rfl, rfl, rfl, rfl⟩) rfl) (ss_cons (ss_ddSt (hu_ hr) (se_bin opd_sub ki_ (v_ 10 rfl (by rfl) (by rfl))) (tv_ 0 rfl (by rfl) (by rfl)) (tv_ 9 rfl (by rfl) (by rfl)) (tv_ 5 rfl (by rfl) (by rfl)) (fun _ => rfl) rfl (by kernel_rfl) rfl) (ss_cons (ss_set (i := 12) S.nd rfl (loc_of (by rfl)) rfl (.inl rfl) (se_ite (st_isN (v_ 11 rfl (by rfl) (by rfl))) (se_lst (sa_cons rfl (se_neg ki_) (sa_cons rfl ki_ sa_nil))) (se_rep (se_lst (sa_cons rfl (v_ 11 rfl (by rfl) (by rfl)) sa_nil)) (se_callTy (cd_int) rfl (He.free_ok X0 G (c.fact 0 rfl)) bt_int (sa_cons rfl (se_cmp (opd_ne (hu_ hr)) (v_ 11 rfl (by rfl) (by rfl)) ki_ rfl) sa_nil) rfl (by decide) (by rfl)))) rfl) (ss_one (ss_expr (se_ext (v_ 8 rfl (by rfl) (by rfl)) (sa_cons rfl (se_lcV (own := [("one", 13)]) rfl S.nd (tv_ 12 rfl (by rfl) (by rfl)) (by kernel_rfl) (fun _ _ _ _ _ => (tg_ (kpv [13]) 13 S.nd rfl (by rfl) rfl (by first | exact .inr rfl | exact .inl rfl))) (fun _ _ _ _ _ => (spt_one (st_cmp (opd_ne (hu_ hr)) (v_ 13 rfl (by rfl) (by rfl)) (se_bin opd_sub ki_ (v_ 10 rfl (by rfl) (by rfl))) rfl))) (fun _ _ _ _ _ => (se_tup (sa_cons rfl (se_bin opd_add (v_ 9 rfl (by rfl) (by rfl)) (v_ 13 rfl (by rfl) (by rfl))) (sa_cons rfl (v_ 13 rfl (by rfl) (by rfl)) sa_nil))))) sa_nil) rfl rfl rfl (star_ok rfl) rfl) rfl)))))) ss_nil)))) (ss_one (ss_ret (se_callB (cd_sorted rfl) rfl (He.free_ok X0 G (c.fact 4 rfl)) bt_sorted (sa_cons rfl (v_ 7 rfl (by rfl) (by rfl)) sa_nil) rfl (by decide) (by rfl)))))))), He.glo_ok X0 G (c.fact 53 rfl), F.kp, b, .nil, fun _ => .nil⟩
def b__law_ends : Ss := (seqF (ifF (bin (op2 .eq) (vr 0) (froz [] lstF)) (rtF (cst .non)) nxF) (rtF (froz [(iteF' (bin (op2 .eq) (bin ixD (vr 0) (cst (.int 0))) (vr 1)) (cst .non) (bin ixD (vr 0) (cst (.int 0)))), (iteF' (bin (op2 .eq) (bin ixD (vr 0) (uno ngD (cst (.int 1)))) (vr 2)) (cst .non) (bin ixD (vr 0) (uno ngD (cst (.int 1)))))] tupF)))
def f__law_ends : Fn := defF 3 3 (kpl [0, 1, 2]) b__law_ends
theorem ok__law_ends (X0 : K.In h) (G : h.Ns mainGlobals mg) (c : He.SaysD fa fn K) (TB : LamX.TabB base mg (He.cT K lamD).1 (He.cT K lamD).2) : CalG P w K mg base 1 "_law_ends" f__law_ends [] := by
  obtain ⟨fd, F⟩ := c.def_ 29 rfl
  have S : FnScope (["places", "low", "high"] : List Str) (["places", "low", "high"] : List Str) (defScope (top 46)) := ⟨rfl, rfl, rfl, by decide +kernel, rfl, by decide +kernel, by decide +kernel⟩
  have b : Binds K fd (["places", "low", "high"] : List Str) [] := F.bindsN fun _ _ _ _ _ _ us hl => match us, hl with | [_, _, _], _ => rfl
  exact ⟨_, fd, ["places", "low", "high"], [], [], (g_mk (k := 0) (kp := (kpl [0, 1, 2])) (Fb := b__law_ends) rfl rfl F S fun cdv B below s J hr hg => by
    exact (ss_cons (ss_if (st_cmp (opd_eq (hu_ hr)) (v_ 0 rfl (by rfl) (by rfl)) (se_lst sa_nil) rfl) (ss_one (ss_ret kn_)) ss_nil) (ss_one (ss_ret (se_tup (sa_cons rfl (se_ite (st_cmp (opd_eq (hu_ hr)) (se_ix (hu_ hr) (v_ 0 rfl (by rfl) (by rfl)) ki_ rfl) (v_ 1 rfl (by rfl) (by rfl)) rfl) kn_ (se_ix (hu_ hr) (v_ 0 rfl (by rfl) (by rfl)) ki_ rfl)) (sa_cons rfl (se_ite (st_cmp (opd_eq (hu_ hr)) (se_ix (hu_ hr) (v_ 0 rfl (by rfl) (by rfl)) (se_neg ki_) rfl) (v_ 2 rfl (by rfl) (by rfl)) rfl) kn_ (se_ix (hu_ hr) (v_ 0 rfl (by rfl) (by rfl)) (se_neg ki_) rfl)) sa_nil))))))), He.glo_ok X0 G (c.fact 54 rfl), F.kp, b, .nil, fun _ => .nil⟩
def b_kinds_of : Ss := (seqF (setF 3 (cll [(vr 0), (vr 1), (vr 2)] [] f_started)) (rtF (lcF [4] (itV 1) (gNm 4) none (bin ixD (mth "Switches" "pass_on" (vr 3) [(vr 4)] [] f_Switches_pass_on) (cst (.int 0))))))
def f_kinds_of : Fn := defF 3 5 (kpl [0, 1, 2]) b_kinds_of
theorem okg_kinds_of (X0 : K.In h) (G : h.Ns mainGlobals mg) (c : He.SaysD fa fn K) (TB : LamX.TabB base mg (He.cT K lamD).1 (He.cT K lamD).2) {fd : FuncData} (F : FunD K "kinds_of" "kinds_of" (defArgs (top 38)) (defBody (top 38)) (defScope (top 38)) [] [("start", V.non)] (He.ga K "kinds_of") fd) : FnG P w K mg base 8 (He.ga K "kinds_of") fd ["line", "frames", "start"] (spOf K f_kinds_of) := by
  have S : FnScope (["line", "frames", "start", "switches", "frame"] : List Str) (["line", "frames", "start"] : List Str) (defScope (top 38)) := ⟨rfl, rfl, rfl, by decide +kernel, rfl, by decide +kernel, by decide +kernel⟩
  exact (g_mk (k := 7) (kp := (kpl [0, 1, 2])) (Fb := b_kinds_of) rfl rfl F S fun cdv B below s J hr hg => by
    exact (ss_cons (ss_set (i := 3) S.nd rfl (loc_of (by rfl)) rfl (.inl rfl) (se_call (ok_started X0 G c TB) hr hg rfl rfl (sa_cons rfl (v_ 0 rfl (by rfl) (by rfl)) (sa_cons rfl (v_ 1 rfl (by rfl) (by rfl)) (sa_cons rfl (v_ 2 rfl (by rfl) (by rfl)) sa_nil))) (by rfl) rfl) rfl) (ss_one (ss_ret (se_lcV (own := [("frame", 4)]) rfl S.nd (tv_ 1 rfl (by rfl) (by rfl)) (by kernel_rfl) (fun _ _ _ _ _ => (tg_ (kpv [4]) 4 S.nd rfl (by rfl) rfl (by first | exact .inr rfl | exact .inl rfl))) (fun _ _ _ _ _ => spt_nil) (fun _ _ _ _ _ => (se_ix (hu_ hr) (se_meth (ok_Switches_pass_on X0 G c TB) hr hg rfl (v_ 3 rfl (by rfl) (by rfl)) (sa_cons rfl (v_ 4 rfl (by rfl) (by rfl)) sa_nil) rfl rfl) ki_ rfl)))))))
theorem ok_kinds_of (X0 : K.In h) (G : h.Ns mainGlobals mg) (c : He.SaysD fa fn K) (TB : LamX.TabB base mg (He.cT K lamD).1 (He.cT K lamD).2) : CalG P w K mg base 8 "kinds_of" f_kinds_of [.non] := by
  obtain ⟨fd, F0⟩ := c.def_ 30 rfl
  have F : FunD K "kinds_of" "kinds_of" (defArgs (top 38)) (defBody (top 38)) (defScope (top 38)) [] [("start", V.non)] (He.ga K "kinds_of") fd := F0
  obtain ⟨ds, vd, b⟩ := F.binds0 (ps := ["line", "frames", "start"]) 2 (by decide) rfl fun D _ _ _ _ _ us ks hl hk => match us, hl, ks, hk with | [_, _], _, [_], _ => ⟨_, _, _, _, _, _, rfl, rfl, rfl⟩
  exact ⟨_, fd, ["line", "frames", "start"], [V.non], ds, okg_kinds_of X0 G c TB F, He.glo_ok X0 G (c.fact 55 rfl), F.kp, b, vd, fun Z => (.cons .non .nil)⟩
theorem okk_kinds_of (X0 : K.In h) (G : h.Ns mainGlobals mg) (c : He.SaysD fa fn K) (TB : LamX.TabB base mg (He.cT K lamD).1 (He.cT K lamD).2) : CalK P w K mg base 8 "kinds_of" 2 ["start"] f_kinds_of := by
  obtain ⟨fd, F0⟩ := c.def_ 30 rfl
  have F : FunD K "kinds_of" "kinds_of" (defArgs (top 38)) (defBody (top 38)) (defScope (top 38)) [] [("start", V.non)] (He.ga K "kinds_of") fd := F0
  have b := kb_all (ps := ["line", "frames", "start"]) (ks := ["start"]) (n := 2) F (by decide) fun D _ _ _ _ _ us ws hl hk => match us, hl, ws, hk with | [_, _], _, [_], _ => rfl
  exact ⟨_, fd, ["line", "frames", "start"], okg_kinds_of X0 G c TB F, He.glo_ok X0 G (c.fact 55 rfl), F.kp, b⟩
def l__law_right_1 : Ss := (seqF (setF 12 (lcF [13] (itR2 (uno ngD (cst (.int 4))) (cst (.int 35))) (gNm 13) (some (ddIn (vr 11) 2 (vr 13))) (vr 13))) (seqF (ifF (bin (op2 .ne) (bin ixD (vr 4) (vr 11)) (cll [(vr 12), (uno ngD (cst (.int 4))), (cst (.int 34))] [] f__law_ends)) (rtF (cst (.bl false))) nxF) (ifF (andF (bin (op2 .ne) (vr 12) (froz [] lstF)) (bin (op2 .ne) (vr 12) (lrF2 (bin ixD (vr 12) (cst (.int 0))) (bin (op2 .add) (bin ixD (vr 12) (uno ngD (cst (.int 1)))) (cst (.int 1)))))) (rtF (cst (.bl false))) nxF)))
def l__law_right_2 : Ss := (seqF (setF 6 (cll [(vr 0), (vr 4), (bin ixD (vr 5) (cst (.int 0))), (bin ixD (vr 5) (cst (.int 1)))] [] f_kind_of)) (seqF (setF 7 (cll [(vr 0), (vr 4), (bin ixD (vr 5) (cst (.int 0))), (bin ixD (vr 5) (cst (.int 1)))] [] f_reach_of)) (seqF (setF 8 (bin (op2 .ne) (lcF [13] (itDD 2) (gNm 13) (some (ddIn (bin ixD (vr 5) (cst (.int 1))) 2 (vr 13))) (vr 13)) (froz [] lstF))) (seqF (setF 9 (ddIn (bin ixD (vr 5) (cst (.int 1))) 2 (bin ixD (vr 0) (bin ixD (vr 5) (cst (.int 0)))))) (seqF (exF (mtF apD (vr 3) [(iteF' (notF (vr 8)) (cst (.str "all")) (bin ixD (froz [(cst (.str "flood")), (cst (.str "direct"))] lstF) (cal (d1 intF) [(vr 9)])))])) (seqF (setF 10 (frF (cll [(vrD 2), (vr 0), (vr 5), (uno ngD (cst (.int 4))), (cst (.int 34))] [] f__law_flow))) (seqF (ifF (orF (bin (op2 .ne) (vr 10) (lrF2 (bin ixD (vr 10) (cst (.int 0))) (bin (op2 .add) (bin ixD (vr 10) (uno ngD (cst (.int 1)))) (cst (.int 1))))) (orF (bin (op2 .ne) (vr 7) (cll [(vr 10), (uno ngD (cst (.int 4))), (cst (.int 34))] [] f__law_ends)) (bin (op2 .ne) (vr 6) (bin ixD (vr 3) (uno ngD (cst (.int 1))))))) (rtF (cst (.bl false))) nxF) (seqF (setF 4 (frF (cll [(frF (vr 0)), (frF (slc (vr 1) none (some (cal (d1 lenF) [(vr 3)]))))] [.non] f_known_after))) (forF (itV 0) (gNm 11) l__law_right_1)))))))))
def b__law_right : Ss := (seqF (parF 2 3 (ddNew 13 (itR2 (uno ngD (cst (.int 4))) (cst (.int 35)))) (froz [] lstF)) (seqF (setF 4 (frF (cll [(frF (vr 0)), (frF (froz [] lstF))] [.non] f_known_after))) (seqF (forF (itV 1) (gNm 5) l__law_right_2) (rtF (andF (bin (op2 .eq) (cll [(frF (vr 0)), (frF (vr 1))] [.non] f_kinds_of) (vr 3)) (bin (op2 .eq) (cal (d1 listF) [(vr 4)]) (cal (d1 sortedF) [(vr 0)])))))))
def f__law_right : Fn := defF 2 14 (kpl [0, 1]) b__law_right
theorem ok__law_right (X0 : K.In h) (G : h.Ns mainGlobals mg) (c : He.SaysD fa fn K) (TB : LamX.TabB base mg (He.cT K lamD).1 (He.cT K lamD).2) : CalG P w K mg base 10 "_law_right" f__law_right [] := by
  obtain ⟨fd, F⟩ := c.def_ 31 rfl
  have S : FnScope (["net", "sends", "tables", "kinds", "spans", "pair", "before", "told", "is_known", "here", "found", "name", "places", "place"] : List Str) (["net", "sends"] : List Str) (defScope (top 48)) := ⟨rfl, rfl, rfl, by decide +kernel, rfl, by decide +kernel, by decide +kernel⟩
  have b : Binds K fd (["net", "sends"] : List Str) [] := F.bindsN fun _ _ _ _ _ _ us hl => match us, hl with | [_, _], _ => rfl
  exact ⟨_, fd, ["net", "sends"], [], [], (g_mk (k := 9) (kp := (kpl [0, 1])) (Fb := b__law_right) rfl rfl F S fun cdv B below s J hr hg => by
    exact (ss_cons (ss_parC (i := 2) (j := 3) rfl S.nd rfl rfl rfl rfl (loc_of (by rfl)) (loc_of (by rfl)) rfl rfl (sa_cons rfl (se_ddNew rfl S.nd (si_range2 rfl (He.free_ok X0 G (c.fact 3 rfl)) (se_neg ki_) ki_ rfl rfl) (by kernel_rfl) (fun _ _ _ _ _ => pg_name (i := 13) S.nd rfl (loc_of (by rfl)) (by first | exact .inr rfl | exact .inl rfl)) (fun _ _ _ _ _ => tv_ 13 rfl (by rfl) (by rfl)) (fun _ => rfl) rfl (He.free_ok X0 G (c.fact 12 rfl)) bt_dict (fun _ _ _ _ _ => rfl) (fun _ _ _ _ _ => rfl) rfl) (sa_cons rfl (se_lst sa_nil) sa_nil)) (by kernel_rfl) rfl rfl) (ss_cons (ss_set (i := 4) S.nd rfl (loc_of (by rfl)) rfl (.inl rfl) (se_frz (se_call (ok_known_after X0 G c TB) hr hg rfl rfl (sa_cons rfl (se_frz (v_ 0 rfl (by rfl) (by rfl))) (sa_cons rfl (se_frz (se_lst sa_nil)) sa_nil)) (by rfl) rfl)) rfl) (ss_cons (ss_forV PassesOwn.never rfl (tv_ 1 rfl (by rfl) (by rfl)) (tg_ (kpl [0, 1]) 5 S.nd rfl (by rfl) rfl (.inl rfl)) (ss_cons (ss_set (i := 6) S.nd rfl (loc_of (by rfl)) rfl (.inl rfl) (se_call (ok_kind_of X0 G c TB) hr hg rfl rfl (sa_cons rfl (v_ 0 rfl (by rfl) (by rfl)) (sa_cons rfl (v_ 4 rfl (by rfl) (by rfl)) (sa_cons rfl (se_ix (hu_ hr) (v_ 5 rfl (by rfl) (by rfl)) ki_ rfl) (sa_cons rfl (se_ix (hu_ hr) (v_ 5 rfl (by rfl) (by rfl)) ki_ rfl) sa_nil)))) (by rfl) rfl) rfl) (ss_cons (ss_set (i := 7) S.nd rfl (loc_of (by rfl)) rfl (.inl rfl) (se_call (ok_reach_of X0 G c TB) hr hg rfl rfl (sa_cons rfl (v_ 0 rfl (by rfl) (by rfl)) (sa_cons rfl (v_ 4 rfl (by rfl) (by rfl)) (sa_cons rfl (se_ix (hu_ hr) (v_ 5 rfl (by rfl) (by rfl)) ki_ rfl) (sa_cons rfl (se_ix (hu_ hr) (v_ 5 rfl (by rfl) (by rfl)) ki_ rfl) sa_nil)))) (by rfl) rfl) rfl) (ss_cons (ss_set (i := 8) S.nd rfl (loc_of (by rfl)) rfl (.inl rfl) (se_cmp (opd_ne (hu_ hr)) (se_lcDD (own := [("place", 13)]) rfl S.nd (tv_ 2 rfl (by rfl) (by rfl)) (by kernel_rfl) (fun _ _ _ _ _ => (tg_ (kpv [13]) 13 S.nd rfl (by rfl) rfl (by first | exact .inr rfl | exact .inl rfl))) (fun _ _ _ _ _ => (spt_one (st_ddIn (hu_ hr) (se_ix (hu_ hr) (v_ 5 rfl (by rfl) (by rfl)) ki_ rfl) (tv_ 2 rfl (by rfl) (by rfl)) (v_ 13 rfl (by rfl) (by rfl)) rfl rfl))) (fun _ _ _ _ _ => (v_ 13 rfl (by rfl) (by rfl)))) (se_lst sa_nil) rfl) rfl) (ss_cons (ss_set (i := 9) S.nd rfl (loc_of (by rfl)) rfl (.inl rfl) (se_ddIn (hu_ hr) (se_ix (hu_ hr) (v_ 5 rfl (by rfl) (by rfl)) ki_ rfl) (tv_ 2 rfl (by rfl) (by rfl)) (se_ix (hu_ hr) (v_ 0 rfl (by rfl) (by rfl)) (se_ix (hu_ hr) (v_ 5 rfl (by rfl) (by rfl)) ki_ rfl) rfl) rfl rfl) rfl) (ss_cons (ss_expr (se_bm PySem.F.slot_list_append PySem.F.type_list_append mt_append op_app (v_ 3 rfl (by rfl) (by rfl)) (sa_cons rfl (se_ite (st_not (st_val (v_ 8 rfl (by rfl) (by rfl)) rfl)) ks_ (se_ix (hu_ hr) (se_lst (sa_cons rfl ks_ (sa_cons rfl ks_ sa_nil))) (se_callTy (cd_int) rfl (He.free_ok X0 G (c.fact 0 rfl)) bt_int (sa_cons rfl (v_ 9 rfl (by rfl) (by rfl)) sa_nil) rfl (by decide) (by rfl)) rfl)) sa_nil) rfl rfl rfl (star_ok rfl) rfl) rfl) (ss_cons (ss_set (i := 10) S.nd rfl (loc_of (by rfl)) rfl (.inl rfl) (se_frz (se_call (ok__law_flow X0 G c TB) hr hg rfl rfl (sa_cons rfl (vd_ 2 rfl (by rfl) (by rfl)) (sa_cons rfl (v_ 0 rfl (by rfl) (by rfl)) (sa_cons rfl (v_ 5 rfl (by rfl) (by rfl)) (sa_cons rfl (se_neg ki_) (sa_cons rfl ki_ sa_nil))))) (by rfl) rfl)) rfl) (ss_cons (ss_if (PW.pt (st_or (st_cmp (opd_ne (hu_ hr)) (v_ 10 rfl (by rfl) (by rfl)) (se_listRg2 rfl rfl (He.free_ok X0 G (c.fact 2 rfl)) rfl (He.free_ok X0 G (c.fact 3 rfl)) (se_ix (hu_ hr) (v_ 10 rfl (by rfl) (by rfl)) ki_ rfl) (se_bin opd_add (se_ix (hu_ hr) (v_ 10 rfl (by rfl) (by rfl)) (se_neg ki_) rfl) ki_) rfl rfl) rfl) (st_or (st_cmp (opd_ne (hu_ hr)) (v_ 7 rfl (by rfl) (by rfl)) (se_call (ok__law_ends X0 G c TB) hr hg rfl rfl (sa_cons rfl (v_ 10 rfl (by rfl) (by rfl)) (sa_cons rfl (se_neg ki_) (sa_cons rfl ki_ sa_nil))) (by rfl) rfl) rfl) (pw_or1 (st_cmp (opd_ne (hu_ hr)) (v_ 6 rfl (by rfl) (by rfl)) (se_ix (hu_ hr) (v_ 3 rfl (by rfl) (by rfl)) (se_neg ki_) rfl) rfl))))) (ss_one (ss_ret kb_)) ss_nil) (ss_cons (ss_set (i := 4) S.nd rfl (loc_of (by rfl)) rfl (.inl rfl) (se_frz (se_call (ok_known_after X0 G c TB) hr hg rfl rfl (sa_cons rfl (se_frz (v_ 0 rfl (by rfl) (by rfl))) (sa_cons rfl (se_frz (se_slc (v_ 1 rfl (by rfl) (by rfl)) so_none (so_some (se_callB (cd_len) rfl (He.free_ok X0 G (c.fact 1 rfl)) bt_len (sa_cons rfl (v_ 3 rfl (by rfl) (by rfl)) sa_nil) rfl (by decide) (by rfl))))) sa_nil)) (by rfl) rfl)) rfl) (ss_one (ss_forV PassesOwn.never rfl (tv_ 0 rfl (by rfl) (by rfl)) (tg_ (kpl [0, 1]) 11 S.nd rfl (by rfl) rfl (.inl rfl)) (ss_cons (ss_setLc (own := [("place", 13)]) (j := 12) rfl S.nd rfl rfl rfl (by kernel_rfl) (si_range2 rfl (He.free_ok X0 G (c.fact 3 rfl)) (se_neg ki_) ki_ rfl rfl) (by kernel_rfl) (fun _ _ _ _ _ => (tg_ (kpv [13]) 13 S.nd rfl (by rfl) rfl (by first | exact .inr rfl | exact .inl rfl))) (fun _ _ _ _ _ => (spt_one (st_ddIn (hu_ hr) (v_ 11 rfl (by rfl) (by rfl)) (tv_ 2 rfl (by rfl) (by rfl)) (v_ 13 rfl (by rfl) (by rfl)) rfl rfl))) (fun _ _ _ _ _ => (v_ 13 rfl (by rfl) (by rfl))) (fun _ => rfl)) (ss_cons (ss_if (st_cmp (opd_ne (hu_ hr)) (se_ix (hu_ hr) (v_ 4 rfl (by rfl) (by rfl)) (v_ 11 rfl (by rfl) (by rfl)) rfl) (se_call (ok__law_ends X0 G c TB) hr hg rfl rfl (sa_cons rfl (v_ 12 rfl (by rfl) (by rfl)) (sa_cons rfl (se_neg ki_) (sa_cons rfl ki_ sa_nil))) (by rfl) rfl) rfl) (ss_one (ss_ret kb_)) ss_nil) (ss_one (ss_if (PW.pt (st_and (st_cmp (opd_ne (hu_ hr)) (v_ 12 rfl (by rfl) (by rfl)) (se_lst sa_nil) rfl) (pw_and1 (st_cmp (opd_ne (hu_ hr)) (v_ 12 rfl (by rfl) (by rfl)) (se_listRg2 rfl rfl (He.free_ok X0 G (c.fact 2 rfl)) rfl (He.free_ok X0 G (c.fact 3 rfl)) (se_ix (hu_ hr) (v_ 12 rfl (by rfl) (by rfl)) ki_ rfl) (se_bin opd_add (se_ix (hu_ hr) (v_ 12 rfl (by rfl) (by rfl)) (se_neg ki_) rfl) ki_) rfl rfl) rfl)))) (ss_one (ss_ret kb_)) ss_nil))))))))))))))) (ss_one (ss_ret (se_and (se_cmp (opd_eq (hu_ hr)) (se_call (ok_kinds_of X0 G c TB) hr hg rfl rfl (sa_cons rfl (se_frz (v_ 0 rfl (by rfl) (by rfl))) (sa_cons rfl (se_frz (v_ 1 rfl (by rfl) (by rfl))) sa_nil)) (by rfl) rfl) (v_ 3 rfl (by rfl) (by rfl)) rfl) (pe_one (se_cmp (opd_eq (hu_ hr)) (se_callTy (cd_list rfl) rfl (He.free_ok X0 G (c.fact 2 rfl)) bt_list (sa_cons rfl (v_ 4 rfl (by rfl) (by rfl)) sa_nil) rfl (by decide) (by rfl)) (se_callB (cd_sorted rfl) rfl (He.free_ok X0 G (c.fact 4 rfl)) bt_sorted (sa_cons rfl (v_ 0 rfl (by rfl) (by rfl)) sa_nil) rfl (by decide) (by rfl)) rfl))))))))), He.glo_ok X0 G (c.fact 56 rfl), F.kp, b, .nil, fun _ => .nil⟩
def l_law_1 : Ss := (seqF (setF 3 (frF (cll [(vr 1), (cst (.int 7))] [] f__law_small))) (seqF (setF 4 (frF (cll [(vr 1), (vr 3), (cll [(vr 1), (cst (.int 25))] [] f__law_draw)] [] f__law_sends))) (seqF (setF 5 (cal (d1 reprF) [(froz [(vr 3), (vr 4)] lstF)])) (ifF (orF (notF (cll [(vr 3), (vr 4)] [] f__law_right)) (bin (op2 .ne) (cal (d1 reprF) [(froz [(vr 3), (vr 4)] lstF)]) (vr 5))) (rtF (cst (.bl false))) nxF))))
def b_law : Ss := (seqF (setF 1 (cll [(vr 0)] [] f__law_reel)) (seqF (forF (itR1 (bin (op2 .add) (cst (.int 2)) (cal (d2 minF) [(cal (d1 lenF) [(vr 0)]), (cst (.int 6))]))) (gNm 2) l_law_1) (rtF (bin (op2 .eq) (cll [(frF (dspF [((cst (.str "a")), (cst (.int 0))), ((cst (.str "b")), (cst (.int 5)))])), (frF (froz [(froz [(cst (.str "a")), (cst (.str "b"))] tupF), (froz [(cst (.str "b")), (cst (.str "a"))] tupF)] lstF))] [.non] f_kinds_of) (froz [(cst (.str "all")), (cst (.str "direct"))] lstF)))))
def f_law : Fn := defF 1 6 (kpl [0]) b_law
theorem ok_law (X0 : K.In h) (G : h.Ns mainGlobals mg) (c : He.SaysD fa fn K) (TB : LamX.TabB base mg (He.cT K lamD).1 (He.cT K lamD).2) {fd : FuncData} (F : FunD K "law" "law" (defArgs (top 49)) (defBody (top 49)) (defScope (top 49)) [] [] (He.ga K "law") fd) : FnG P w K mg base 11 (He.ga K "law") fd ["script"] (spOf K f_law) := by
  have S : FnScope (["script", "reel", "k", "net", "sends", "kept"] : List Str) (["script"] : List Str) (defScope (top 49)) := ⟨rfl, rfl, rfl, by decide +kernel, rfl, by decide +kernel, by decide +kernel⟩
  exact (g_mk (k := 10) (kp := (kpl [0])) (Fb := b_law) rfl rfl F S fun cdv B below s J hr hg => by
    exact (ss_cons (ss_set (i := 1) S.nd rfl (loc_of (by rfl)) rfl (.inl rfl) (se_call (ok__law_reel X0 G c TB) hr hg rfl rfl (sa_cons rfl (v_ 0 rfl (by rfl) (by rfl)) sa_nil) (by rfl) rfl) rfl) (ss_cons (ss_for PassesOwn.never rfl (si_range1 rfl (He.free_ok X0 G (c.fact 3 rfl)) (se_bin opd_add ki_ (se_callB (cd_min rfl) rfl (He.free_ok X0 G (c.fact 20 rfl)) bt_min (sa_cons rfl (se_callB (cd_len) rfl (He.free_ok X0 G (c.fact 1 rfl)) bt_len (sa_cons rfl (v_ 0 rfl (by rfl) (by rfl)) sa_nil) rfl (by decide) (by rfl)) (sa_cons rfl ki_ sa_nil)) rfl (by decide) (by rfl))) rfl) (tg_ (kpl [0]) 2 S.nd rfl (by rfl) rfl (.inl rfl)) (ss_cons (ss_set (i := 3) S.nd rfl (loc_of (by rfl)) rfl (.inl rfl) (se_frz (se_call (ok__law_small X0 G c TB) hr hg rfl rfl (sa_cons rfl (v_ 1 rfl (by rfl) (by rfl)) (sa_cons rfl ki_ sa_nil)) (by rfl) rfl)) rfl) (ss_cons (ss_set (i := 4) S.nd rfl (loc_of (by rfl)) rfl (.inl rfl) (se_frz (se_call (ok__law_sends X0 G c TB) hr hg rfl rfl (sa_cons rfl (v_ 1 rfl (by rfl) (by rfl)) (sa_cons rfl (v_ 3 rfl (by rfl) (by rfl)) (sa_cons rfl (se_call (ok__law_draw X0 G c TB) hr hg rfl rfl (sa_cons rfl (v_ 1 rfl (by rfl) (by rfl)) (sa_cons rfl ki_ sa_nil)) (by rfl) rfl) sa_nil))) (by rfl) rfl)) rfl) (ss_cons (ss_set (i := 5) S.nd rfl (loc_of (by rfl)) rfl (.inl rfl) (se_callB (cd_repr hg (hu_ hr)) rfl (He.free_ok X0 G (c.fact 22 rfl)) bt_repr (sa_cons rfl (se_lst (sa_cons rfl (v_ 3 rfl (by rfl) (by rfl)) (sa_cons rfl (v_ 4 rfl (by rfl) (by rfl)) sa_nil))) sa_nil) rfl (by decide) (by rfl)) rfl) (ss_one (ss_if (PW.pt (st_or (st_not (st_val (se_call (ok__law_right X0 G c TB) hr hg rfl rfl (sa_cons rfl (v_ 3 rfl (by rfl) (by rfl)) (sa_cons rfl (v_ 4 rfl (by rfl) (by rfl)) sa_nil)) (by rfl) rfl) rfl)) (pw_or1 (st_cmp (opd_ne (hu_ hr)) (se_callB (cd_repr hg (hu_ hr)) rfl (He.free_ok X0 G (c.fact 22 rfl)) bt_repr (sa_cons rfl (se_lst (sa_cons rfl (v_ 3 rfl (by rfl) (by rfl)) (sa_cons rfl (v_ 4 rfl (by rfl) (by rfl)) sa_nil))) sa_nil) rfl (by decide) (by rfl)) (v_ 5 rfl (by rfl) (by rfl)) rfl)))) (ss_one (ss_ret kb_)) ss_nil))))) (fun _ => rfl)) (ss_one (ss_ret (se_cmp (opd_eq (hu_ hr)) (se_call (ok_kinds_of X0 G c TB) hr hg rfl rfl (sa_cons rfl (se_frz (se_disp (sp_cons ks_ ki_ (sp_cons ks_ ki_ sp_nil)) rfl rfl (by simp) (by decide))) (sa_cons rfl (se_frz (se_lst (sa_cons rfl (se_tup (sa_cons rfl ks_ (sa_cons rfl ks_ sa_nil))) (sa_cons rfl (se_tup (sa_cons rfl ks_ (sa_cons rfl ks_ sa_nil))) sa_nil)))) sa_nil)) (by rfl) rfl) (se_lst (sa_cons rfl ks_ (sa_cons rfl ks_ sa_nil))) rfl))))))
end
end LW

set_option Elab.async false
set_option maxRecDepth 100000
set_option exponentiation.threshold 100000
namespace LW
open PySem FL
/-! ### intervals -/
def oD : Option Int → D
  | none => .non
  | some i => .int i
abbrev Iv := Option (Option Int × Option Int)
def ivD : Iv → D
  | none => .non
  | some (a, b) => .tup [oD a, oD b]
def cont : Iv → Int → Bool
  | none, _ => false
  | some (a, b), p => (match a with | none => true | some i => decide (i ≤ p)) && (match b with | none => true | some i => decide (p ≤ i))
def join : Iv → (Option Int × Option Int) → (Option Int × Option Int)
  | none, r => r
  | some (a, b), (c, d) => ((match a, c with | some i, some j => some (if j < i then j else i) | _, _ => none), (match b, d with | some i, some j => some (if j > i then j else i) | _, _ => none))
theorem contains_ev (iv : Iv) (p : Int) : f_contains [.fz (ivD iv), .fz (.int p)] = some (.fz (.bl (cont iv p)), [.fz (ivD iv), .fz (.int p)]) := by
  rcases iv with _ | ⟨a, b⟩
  · rfl
  · rcases a with _ | a <;> rcases b with _ | b
    · rfl
    · simp [f_contains, b_contains, defF_ev, startE, kpl, ivD, oD, cont, List.replicate]
    · by_cases h : a ≤ p <;> simp [f_contains, b_contains, defF_ev, startE, kpl, ivD, oD, cont, List.replicate, h]
    · by_cases h : a ≤ p <;> simp [f_contains, b_contains, defF_ev, startE, kpl, ivD, oD, cont, List.replicate, h]
theorem joined_ev (iv : Iv) (r : Option Int × Option Int) : f_joined [.fz (ivD iv), .fz (ivD (some r))] = some (.fz (ivD (some (join iv r))), [.fz (ivD iv), .fz (ivD (some r))]) := by
  obtain ⟨c, d⟩ := r
  rcases iv with _ | ⟨a, b⟩
  · rfl
  · rcases a with _ | a <;> rcases b with _ | b <;> rcases c with _ | c <;> rcases d with _ | d <;>
      simp [f_joined, b_joined, defF_ev, startE, kpl, ivD, oD, join, List.replicate]

/-! ### lines, states, frames -/
abbrev Line := List (Str × Int)
abbrev Stt := List (Str × Iv)
def lineK (L : Line) : List (L2.Key × D) := L.map fun p => (.inr p.1, .int p.2)
def sttK (S : Stt) : List (L2.Key × D) := S.map fun p => (.inr p.1, ivD p.2)
def frD (s t : Str) : D := .tup [.str s, .str t]
theorem dfind_map {α : Type} (g : α → D) (x : Str) : ∀ S : List (Str × α), dfind (S.map fun p => ((.inr p.1 : L2.Key), g p.2)) (.inr x) = (S.lookup x).map g
  | [] => rfl
  | (y, a) :: S => by
    have ih := dfind_map g x S
    unfold dfind at ih ⊢
    rw [List.map_cons, List.find?_cons, List.lookup_cons]
    by_cases e : y = x
    · subst e
      simp
    · have h1 : decide ((Sum.inr y : L2.Key) = .inr x) = false := decide_eq_false fun q => e (Sum.inr.inj q)
      have h2 : (x == y) = false := by
        cases q : (x == y) with
        | false => rfl
        | true => exact absurd (beq_iff_eq.mp q).symm e
      rw [h1, h2]
      exact ih
theorem find_line {L : Line} {x : Str} {a : Int} (h : L.lookup x = some a) : dfind (lineK L) (.inr x) = some (.int a) := by
  have := dfind_map (α := Int) D.int x L
  unfold lineK
  rw [this, h]
  rfl
theorem find_stt {S : Stt} {x : Str} {a : Iv} (h : S.lookup x = some a) : dfind (sttK S) (.inr x) = some (ivD a) := by
  have := dfind_map (α := Iv) ivD x S
  unfold sttK
  rw [this, h]
  rfl
def kindS (iv : Iv) (p : Int) : Str := match iv with
  | none => "all"
  | some r => if cont (some r) p = true then "direct" else "flood"
theorem contains_some (a b : Option Int) (p : Int) : f_contains [.fz (.tup [oD a, oD b]), .fz (.int p)] = some (.fz (.bl (cont (some (a, b)) p)), [.fz (.tup [oD a, oD b]), .fz (.int p)]) := contains_ev (some (a, b)) p
theorem kind_ev {L : Line} {S : Stt} {s t : Str} {a : Int} {iv : Iv} (hs : L.lookup s = some a) (ht : S.lookup t = some iv) :
    f_kind_by [.fz (.dic (lineK L)), .ow (.dic (sttK S)), .fz (frD s t)] = some (.fz (.str (kindS iv a)), [.fz (.dic (lineK L)), .ow (.dic (sttK S)), .fz (frD s t)]) := by
  have h1 := find_line hs
  have h2 := find_stt ht
  rcases iv with _ | ⟨u, v⟩
  · simp [f_kind_by, b_kind_by, defF_ev, startE, kpl, List.replicate, frD, h1, h2, ivD, kindS]
  · simp [f_kind_by, b_kind_by, defF_ev, startE, kpl, List.replicate, frD, h1, h2, ivD, kindS, contains_some]
    cases cont (some (u, v)) a <;> simp
def reach (k : Str) (a b : Int) : Option Int × Option Int := if (k == "all") = true then (none, none) else if (k == "direct") = true then (some (if b < a then b else a), some (if b > a then b else a)) else if a < b then (none, some b) else (some b, none)
theorem reach_ev {L : Line} {s t k : Str} {a b : Int} (hs : L.lookup s = some a) (ht : L.lookup t = some b) :
    f_reach_by [.fz (.dic (lineK L)), .fz (frD s t), .fz (.str k)] = some (.fz (ivD (some (reach k a b))), [.fz (.dic (lineK L)), .fz (frD s t), .fz (.str k)]) := by
  have h1 := find_line hs
  have h2 := find_line ht
  unfold reach
  by_cases c1 : (k == "all") = true
  · simp [f_reach_by, b_reach_by, defF_ev, startE, kpl, List.replicate, frD, h1, h2, ivD, oD, c1]
  · by_cases c2 : (k == "direct") = true
    · simp [f_reach_by, b_reach_by, defF_ev, startE, kpl, List.replicate, frD, h1, h2, ivD, oD, c1, c2]
    · by_cases c3 : a < b <;> simp [f_reach_by, b_reach_by, defF_ev, startE, kpl, List.replicate, frD, h1, h2, ivD, oD, c1, c2, c3]
end LW

set_option Elab.async false
set_option maxRecDepth 100000
set_option exponentiation.threshold 100000
namespace LW
open PySem FL
@[simp] theorem s1 : (("intervals" : Str) == ("places" : Str)) = false := by decide
@[simp] theorem s2 : (("places" : Str) == ("intervals" : Str)) = false := by decide
@[simp] theorem s3 : (("pass_on" : Str) == ("intervals" : Str)) = false := by decide
@[simp] theorem s4 : (("pass_on" : Str) == ("places" : Str)) = false := by decide
@[simp] theorem a1 : (("Switches" : Str), ("places" : Str)) ∈ ats := by decide
@[simp] theorem a2 : (("Switches" : Str), ("intervals" : Str)) ∈ ats := by decide
def swT (L : Line) (S : Stt) : T := .ob "Switches" [("places", .fz (.dic (lineK L))), ("intervals", .ow (.dic (sttK S)))]
def supd (S : Stt) (s : Str) (iv : Iv) : Stt := if (S.any fun p => decide (p.1 = s)) = true then S.map fun p => if p.1 = s then (p.1, iv) else p else S ++ [(s, iv)]
theorem dput_stt (S : Stt) (s : Str) (iv : Iv) : dput (sttK S) (.inr s) (ivD iv) = sttK (supd S s iv) := by
  unfold dput supd sttK
  have e : ((S.map fun p => ((.inr p.1 : L2.Key), ivD p.2)).any fun kv => decide (kv.1 = .inr s)) = S.any fun p => decide (p.1 = s) := by
    rw [List.any_map]
    congr 1
    funext p
    by_cases h : p.1 = s
    · simp [h]
    · simp [h]
  rw [e]
  split
  · rw [List.map_map, List.map_map]
    congr 1
    funext p
    by_cases h : p.1 = s
    · simp [h]
    · simp [h]
  · simp
theorem pass_ev {L : Line} {S : Stt} {s t : Str} {a b : Int} {iv is : Iv} (hs : L.lookup s = some a) (ht : L.lookup t = some b) (h1 : S.lookup t = some iv) (h2 : S.lookup s = some is) (hz : S.length < sizeLine) :
    f_Switches_pass_on [swT L S, .fz (frD s t)] = some (.fz (.tup [.str (kindS iv a), ivD (some (reach (kindS iv a) a b))]), [swT L (supd S s (some (join is (reach (kindS iv a) a b)))), .fz (frD s t)]) := by
  have k1 := kind_ev (L := L) (S := S) hs h1
  have k2 := reach_ev (k := kindS iv a) hs ht
  have k3 := find_stt h2
  have k4 := joined_ev is (reach (kindS iv a) a b)
  have k5 := dput_stt S s (some (join is (reach (kindS iv a) a b)))
  have k6 : (sttK S).length < sizeLine := by unfold sttK; rw [List.length_map]; exact hz
  generalize reach (kindS iv a) a b = rr at *
  generalize kindS iv a = kk at *
  have e0 : ixD (frD s t) (.int 0) = some (.fz (.str s)) := rfl
  simp [f_Switches_pass_on, b_Switches_pass_on, defF_ev, startE, kpl, List.replicate, swT, List.lookup_cons, e0, k1, k2, k3, k4, k5, k6]
end LW

set_option Elab.async false
set_option maxRecDepth 100000
set_option exponentiation.threshold 100000
namespace LW
open PySem FL
def letters : Str := "abcdefghijklmnopqrstuvwxyz"
def hostB (x : Str) : Bool := decide (1 ≤ x.length) && decide (x.length ≤ 8) && x.cps.toList.all fun c => decide (c ∈ letters.cps.toList)
theorem is_integer_ev (p a b : Int) (h1 : a ≤ p) (h2 : p ≤ b) : f_is_integer [.fz (.int p), .fz (.int a), .fz (.int b)] = some (.fz (.bl true), [.fz (.int p), .fz (.int a), .fz (.int b)]) := by
  simp [f_is_integer, b_is_integer, defF_ev, startE, kpl, List.replicate, chn, h1, h2]
theorem is_position_ev (p : Int) (h1 : -(10 ^ 30) ≤ p) (h2 : p ≤ 10 ^ 30) : f_is_position [.fz (.int p)] = some (.fz (.bl true), [.fz (.int p)]) := by
  have h := is_integer_ev p (-1000000000000000000000000000000) 1000000000000000000000000000000 (by omega) (by omega)
  simp [f_is_position, b_is_position, defF_ev, startE, kpl, List.replicate, h]
theorem is_host_ev (x : Str) (h : hostB x = true) : f_is_host [.fz (.str x)] = some (.fz (.bl true), [.fz (.str x)]) := by
  unfold hostB at h
  rw [Bool.and_eq_true, Bool.and_eq_true] at h
  obtain ⟨⟨h1, h2⟩, h3⟩ := h
  have h1 := of_decide_eq_true h1
  have h2 := of_decide_eq_true h2
  have hz : x.length ≤ sizeLine := line8 (by omega)
  have h4 : (0 : Int) < (x.length : Int) := by omega
  have h5 : (x.length : Int) ≤ 8 := by omega
  have hl : (charsOf x).length = x.length := charsOf_length
  obtain ⟨ys, go, ha⟩ := all_gen (vs := [1]) (g := gNm 1) (Fe := bin (op2 .isin) (vr 1) (cst (.str "abcdefghijklmnopqrstuvwxyz"))) (ρ := [some (.fz (.str x)), none]) (st := fun y => [some (.fz (.str x)), some (.fz y)]) (xs := charsOf x)
    (fun y hy => by simp) (fun y hy => by
      unfold charsOf at hy
      obtain ⟨k, hk, e⟩ := List.mem_map.mp hy
      subst e
      have h6 := of_decide_eq_true (List.all_eq_true.mp h3 k hk)
      have h7 : op2 .isin (.str ⟨#[k]⟩) (.str "abcdefghijklmnopqrstuvwxyz") = some (.fz (.bl (decide (k ∈ letters.cps.toList)))) := rfl
      simp [h7, h6]) (fun y hy => by simp) (by rw [hl]; exact hz)
  have h4 : (1 : Int) ≤ (x.length : Int) := by omega
  simp [f_is_host, b_is_host, defF_ev, startE, kpl, List.replicate, hz, h4, h5, go, ha]
/-- a valid line -/
structure LineOk (L : Line) : Prop where
  one : 1 ≤ L.length
  most : L.length ≤ 40
  host : ∀ p ∈ L, hostB p.1 = true
  lo : ∀ p ∈ L, -(10 ^ 30) ≤ p.2
  hi : ∀ p ∈ L, p.2 ≤ 10 ^ 30
  ndh : (L.map (·.1)).Nodup
  ndp : (L.map (·.2)).Nodup
theorem lineK_vals (L : Line) : (lineK L).map (fun p => p.2) = (L.map (·.2)).map D.int := by
  unfold lineK
  rw [List.map_map, List.map_map]
  rfl
theorem is_line_ev {L : Line} (ok : LineOk L) : f_is_line [.fz (.dic (lineK L))] = some (.fz (.bl true), [.fz (.dic (lineK L))]) := by
  have hl : (lineK L).length = L.length := by unfold lineK; rw [List.length_map]
  obtain ⟨ys, go, ha⟩ := all_gen (vs := [1, 2]) (g := gTp 2 [gNm 1, gNm 2]) (Fe := andF (cll [vr 1] [] f_is_host) (cll [vr 2] [] f_is_position)) (ρ := [some (.fz (.dic (lineK L))), none, none])
    (st := fun y => match y with
      | .tup [a, b] => [some (.fz (.dic (lineK L))), some (.fz a), some (.fz b)]
      | _ => [])
    (xs := (lineK L).map fun p => .tup [dOf p.1, p.2])
    (fun y hy => by
      obtain ⟨q, hq, e⟩ := List.mem_map.mp hy
      subst e
      simp) (fun y hy => by
      obtain ⟨q, hq, e⟩ := List.mem_map.mp hy
      subst e
      unfold lineK at hq
      obtain ⟨r, hr, e⟩ := List.mem_map.mp hq
      subst e
      have k1 := is_host_ev r.1 (ok.host r hr)
      have k2 := is_position_ev r.2 (ok.lo r hr) (ok.hi r hr)
      simp [dOf, k1, k2]) (fun y hy => by
      obtain ⟨q, hq, e⟩ := List.mem_map.mp hy
      subst e
      simp) (by rw [List.length_map, hl]; exact line8 (by have := ok.most; omega))
  have h1 : (1 : Int) ≤ ((lineK L).length : Int) := by have := ok.one; omega
  have h2 : ((lineK L).length : Int) ≤ 40 := by have := ok.most; omega
  have h3 : lvD (.dic (lineK L)) = some (.nw (.ow (.lst ((L.map (·.2)).map D.int)))) := by
    show (if (lineK L).length ≤ sizeLine then some (R.nw (.ow (.lst ((lineK L).map fun p => p.2)))) else none) = _
    rw [if_pos (line8 (by have := ok.most; omega)), lineK_vals]
  have h4 : lsD (.lst ((L.map (·.2)).map D.int)) = some (.fz (.int (L.length : Nat))) := by
    show (intsOf _).bind _ = _
    rw [intsOf_map]
    show (if (L.map (·.2)).Nodup ∧ (L.map (·.2)).length ≤ 4000 then some (R.fz (.int ((L.map (·.2)).length : Nat))) else none) = _
    rw [if_pos ⟨ok.ndp, by rw [List.length_map]; have := ok.most; omega⟩, List.length_map]
  simp only [List.map_map] at h3 h4 go
  simp [f_is_line, b_is_line, defF_ev, startE, kpl, List.replicate, h1, h2, go, ha, h3, h4]
  rw [hl]
end LW

set_option Elab.async false
set_option maxRecDepth 100000
set_option exponentiation.threshold 100000
namespace LW
open PySem FL
abbrev Frs := List (Str × Str)
def frsL (fs : Frs) : List D := fs.map fun p => frD p.1 p.2
structure FrOk (L : Line) (p : Str × Str) : Prop where
  a : ∃ i, L.lookup p.1 = some i
  b : ∃ i, L.lookup p.2 = some i
  ne : p.1 ≠ p.2
theorem check_line_ev {L : Line} (ok : LineOk L) : f_check_line [.fz (.dic (lineK L))] = some (.fz .non, [.fz (.dic (lineK L))]) := by
  simp [f_check_line, b_check_line, defF_ev, startE, kpl, List.replicate, is_line_ev ok]
theorem is_frame_ev {L : Line} (ok : LineOk L) {p : Str × Str} (h : FrOk L p) : f_is_frame [.fz (.dic (lineK L)), .fz (frD p.1 p.2)] = some (.fz (.bl true), [.fz (.dic (lineK L)), .fz (frD p.1 p.2)]) := by
  obtain ⟨⟨i, hi⟩, ⟨j, hj⟩, ne⟩ := h
  have k1 := is_host_ev p.1 (ok.host _ (lookup_mem hi))
  have k2 := is_host_ev p.2 (ok.host _ (lookup_mem hj))
  have k3 := find_line hi
  have k4 := find_line hj
  obtain ⟨ys, go, ha⟩ := all_gen (vs := [2]) (g := gNm 2) (Fe := cll [vr 2] [] f_is_host) (ρ := [some (.fz (.dic (lineK L))), some (.fz (frD p.1 p.2)), none]) (st := fun y => [some (.fz (.dic (lineK L))), some (.fz (frD p.1 p.2)), some (.fz y)]) (xs := [.str p.1, .str p.2])
    (fun y hy => by simp) (fun y hy => by
      simp only [List.mem_cons, List.not_mem_nil, or_false] at hy
      rcases hy with rfl | rfl
      · simp [k1]
      · simp [k2]) (fun y hy => by simp) (by simp)
  have k5 : (p.1 == p.2) = false := by simpa using ne
  simp only [frD] at go ⊢
  simp [f_is_frame, b_is_frame, defF_ev, startE, kpl, List.replicate, go, ha, k3, k4, k5]
theorem is_frames_ev {L : Line} (ok : LineOk L) {fs : Frs} (h : ∀ p ∈ fs, FrOk L p) (hl : fs.length ≤ 300) : f_is_frames [.fz (.dic (lineK L)), .fz (.lst (frsL fs))] = some (.fz (.bl true), [.fz (.dic (lineK L)), .fz (.lst (frsL fs))]) := by
  have k0 : (frsL fs).length = fs.length := by unfold frsL; rw [List.length_map]
  obtain ⟨ys, go, ha⟩ := all_gen (vs := [2]) (g := gNm 2) (Fe := cll [vr 0, vr 2] [] f_is_frame) (ρ := [some (.fz (.dic (lineK L))), some (.fz (.lst (frsL fs))), none]) (st := fun y => [some (.fz (.dic (lineK L))), some (.fz (.lst (frsL fs))), some (.fz y)]) (xs := frsL fs)
    (fun y hy => by simp) (fun y hy => by
      obtain ⟨q, hq, e⟩ := List.mem_map.mp hy
      subst e
      have := is_frame_ev ok (h q hq)
      simp [this]) (fun y hy => by simp) (by rw [k0]; exact line8 (by omega))
  have k1 : ¬ (300 : Int) < ((frsL fs).length : Int) := by omega
  simp [f_is_frames, b_is_frames, defF_ev, startE, kpl, List.replicate, go, ha, check_line_ev ok, k1]
theorem check_frames_ev {L : Line} (ok : LineOk L) {fs : Frs} (h : ∀ p ∈ fs, FrOk L p) (hl : fs.length ≤ 300) : f_check_frames [.fz (.dic (lineK L)), .fz (.lst (frsL fs))] = some (.fz .non, [.fz (.dic (lineK L)), .fz (.lst (frsL fs))]) := by
  simp [f_check_frames, b_check_frames, defF_ev, startE, kpl, List.replicate, is_frames_ev ok h hl]
end LW

set_option Elab.async false
set_option maxRecDepth 100000
set_option exponentiation.threshold 100000
namespace LW
open PySem FL
theorem sorted_line (L : Line) (h : L.length < 64) : sortedF (.dic (lineK L)) = some (.nw (.ow (.lst ((sortS (L.map (·.1))).map .str)))) := sorted_map (α := Int) .int L h
theorem sorted_stt (S : Stt) (h : S.length < 64) : sortedF (.dic (sttK S)) = some (.nw (.ow (.lst ((sortS (S.map (·.1))).map .str)))) := sorted_map (α := Iv) ivD S h
def silent (L : Line) : Stt := (sortS (L.map (·.1))).map fun h => (h, none)
theorem silent_ev {L : Line} (ok : LineOk L) : f_silent_state [.fz (.dic (lineK L))] = some (.nw (.ow (.dic (sttK (silent L)))), [.fz (.dic (lineK L))]) := by
  have hm := ok.most
  have k1 := sorted_line L (by omega)
  have k2 : ((sortS (L.map (·.1))).map D.str).length ≤ sizeLine := by rw [List.length_map, sortS_len, List.length_map]; exact line8 (by omega)
  have go := dc_gen (vs := [1]) (g := gNm 1) (Fk := vr 1) (Fe := cst .non) (ρ := [some (.fz (.dic (lineK L))), none]) (st := fun y => [some (.fz (.dic (lineK L))), some (.fz y)]) (f := fun _ => .non) (kf := fun y => match y with
      | .str x => .inr x
      | _ => .inl 0) (xs := (sortS (L.map (·.1))).map .str) (acc := [])
    (fun y hy => by simp) (fun y hy => by
      obtain ⟨x, hx, e⟩ := List.mem_map.mp hy
      subst e
      exact ⟨.str x, by simp, rfl⟩) (fun y hy => ⟨.fz .non, by simp, rfl⟩) (fun y hy => by simp) (by simpa using k2) (by
      rw [List.map_map]
      simp only [List.map_nil, List.nil_append]
      exact List.pairwise_map.mpr ((sortS_nodup ok.ndh).imp fun h e => h (Sum.inr.inj e)))
  have e : (((sortS (L.map (·.1))).map D.str).map fun x => ((match x with
      | .str x => (.inr x : L2.Key)
      | _ => .inl 0), D.non)) = sttK (silent L) := by
    unfold sttK silent
    rw [List.map_map, List.map_map]
    rfl
  rw [List.nil_append, e] at go
  simp [f_silent_state, b_silent_state, defF_ev, startE, kpl, List.replicate, k1, go]
theorem silent_look {L : Line} {x : Str} {a : Int} (h : L.lookup x = some a) : (silent L).lookup x = some none := by
  have hx : x ∈ sortS (L.map (·.1)) := (sortS_perm _).mem_iff.mpr (List.mem_map.mpr ⟨(x, a), lookup_mem h, rfl⟩)
  unfold silent
  generalize sortS (L.map (·.1)) = l at hx
  induction l with
  | nil => cases hx
  | cons y l ih =>
    rw [List.map_cons, List.lookup_cons]
    cases q : (x == y) with
    | true => rfl
    | false =>
      rcases List.mem_cons.mp hx with e | e
      · rw [e] at q; simp at q
      · exact ih e
end LW

set_option Elab.async false
set_option maxRecDepth 100000
set_option exponentiation.threshold 100000
namespace LW
open PySem FL
def look (S : Stt) (x : Str) : Iv := (S.lookup x).getD none
def posL (L : Line) (x : Str) : Int := (L.lookup x).getD 0
def kd (L : Line) (S : Stt) (p : Str × Str) : Str := kindS (look S p.2) (posL L p.1)
def rc (L : Line) (S : Stt) (p : Str × Str) : Option Int × Option Int := reach (kd L S p) (posL L p.1) (posL L p.2)
def nxt (L : Line) (S : Stt) (p : Str × Str) : Stt := supd S p.1 (some (join (look S p.1) (rc L S p)))
def plays (L : Line) : Stt → Frs → List Str × Stt
  | S, [] => ([], S)
  | S, p :: fs => (kd L S p :: (plays L (nxt L S p) fs).1, (plays L (nxt L S p) fs).2)
def StOk (L : Line) (S : Stt) : Prop := S.length = L.length ∧ ∀ x a, L.lookup x = some a → ∃ iv, S.lookup x = some iv
theorem look_of {S : Stt} {x : Str} {iv : Iv} (h : S.lookup x = some iv) : look S x = iv := by unfold look; rw [h]; rfl
theorem pos_of {L : Line} {x : Str} {a : Int} (h : L.lookup x = some a) : posL L x = a := by unfold posL; rw [h]; rfl
theorem any_of {S : Stt} {x : Str} {iv : Iv} (h : S.lookup x = some iv) : (S.any fun p => decide (p.1 = x)) = true := List.any_eq_true.mpr ⟨_, lookup_mem h, by simp⟩
theorem look_map {x y : Str} {iv : Iv} : ∀ S : Stt, (S.map fun p => if p.1 = x then (p.1, iv) else p).lookup y = (S.lookup y).map fun v => if y = x then iv else v
  | [] => rfl
  | (z, v) :: S => by
    rw [List.map_cons, List.lookup_cons]
    by_cases e : z = x
    · rw [if_pos e, List.lookup_cons]
      cases q : (y == z) with
      | true =>
        have e2 := beq_iff_eq.mp q
        simp [e2, e]
      | false => exact look_map S
    · rw [if_neg e, List.lookup_cons]
      cases q : (y == z) with
      | true =>
        have e2 := beq_iff_eq.mp q
        have : ¬ y = x := by rw [e2]; exact e
        simp [this]
      | false => exact look_map S
theorem look_supd {S : Stt} {x y : Str} {iv is : Iv} (h : S.lookup x = some is) : (supd S x iv).lookup y = if y = x then some iv else S.lookup y := by
  unfold supd
  rw [if_pos (any_of h), look_map]
  by_cases e : y = x
  · rw [if_pos e, e, h]; simp
  · rw [if_neg e]
    simp [e]
theorem len_supd {S : Stt} {x : Str} {iv is : Iv} (h : S.lookup x = some is) : (supd S x iv).length = S.length := by
  unfold supd
  rw [if_pos (any_of h), List.length_map]
theorem StOk.nxt {L : Line} {S : Stt} {p : Str × Str} (h : StOk L S) (f : FrOk L p) : StOk L (nxt L S p) := by
  obtain ⟨a, ha⟩ := f.a
  obtain ⟨is, hi⟩ := h.2 _ _ ha
  refine ⟨(len_supd hi).trans h.1, fun x b hb => ?_⟩
  show ∃ iv, (supd S p.1 _).lookup x = some iv
  rw [look_supd hi]
  by_cases e : x = p.1
  · exact ⟨_, if_pos e⟩
  · rw [if_neg e]; exact h.2 x b hb
theorem StOk.plays {L : Line} : ∀ {fs : Frs} {S : Stt}, StOk L S → (∀ p ∈ fs, FrOk L p) → StOk L (plays L S fs).2
  | [], S, h, _ => h
  | p :: fs, S, h, f => StOk.plays (fs := fs) (h.nxt (f p List.mem_cons_self)) fun q hq => f q (List.mem_cons_of_mem _ hq)
theorem pass_ok {L : Line} {S : Stt} {p : Str × Str} (ok : LineOk L) (h : StOk L S) (f : FrOk L p) : f_Switches_pass_on [swT L S, .fz (frD p.1 p.2)] = some (.fz (.tup [.str (kd L S p), ivD (some (rc L S p))]), [swT L (nxt L S p), .fz (frD p.1 p.2)]) := by
  obtain ⟨a, ha⟩ := f.a
  obtain ⟨b, hb⟩ := f.b
  obtain ⟨is, h1⟩ := h.2 _ _ ha
  obtain ⟨iv, h2⟩ := h.2 _ _ hb
  have hm := ok.most
  have := pass_ev ha hb h2 h1 (by rw [h.1]; exact Nat.lt_of_lt_of_le (show L.length < 1000 by omega) (line8 (Nat.le_refl _)))
  unfold nxt rc kd
  rw [look_of h2, look_of h1, pos_of ha, pos_of hb]
  exact this
theorem kind_ok {L : Line} {S : Stt} {p : Str × Str} (h : StOk L S) (f : FrOk L p) : f_kind_by [.fz (.dic (lineK L)), .ow (.dic (sttK S)), .fz (frD p.1 p.2)] = some (.fz (.str (kd L S p)), [.fz (.dic (lineK L)), .ow (.dic (sttK S)), .fz (frD p.1 p.2)]) := by
  obtain ⟨a, ha⟩ := f.a
  obtain ⟨b, hb⟩ := f.b
  obtain ⟨iv, h2⟩ := h.2 _ _ hb
  have := kind_ev (S := S) ha h2
  unfold kd
  rw [look_of h2, pos_of ha]
  exact this
def stR (L : Line) (fs0 : Frs) (S : Stt) : En := [some (.fz (.dic (lineK L))), some (.fz (.lst (frsL fs0))), some (swT L S), none, none]
theorem rounds_go {L : Line} (ok : LineOk L) (fs0 : Frs) : ∀ (fs : Frs) (S : Stt) (acc : List D), StOk L S → (∀ p ∈ fs, FrOk L p) → acc.length + fs.length ≤ 1000 →
    lcGo [4] (gNm 4) none (bin ixD (mth "Switches" "pass_on" (vr 2) [vr 4] [] f_Switches_pass_on) (cst (.int 0))) (frsL fs) acc (stR L fs0 S) = some (acc ++ (plays L S fs).1.map .str, stR L fs0 (plays L S fs).2)
  | [], S, acc, h, f, hl => by simp [frsL, lcGo, plays]
  | p :: fs, S, acc, h, f, hl => by
    have k := pass_ok ok h (f p List.mem_cons_self)
    rw [List.length_cons] at hl
    have ih := rounds_go ok fs0 fs (nxt L S p) (acc ++ [.str (kd L S p)]) (h.nxt (f p List.mem_cons_self)) (fun q hq => f q (List.mem_cons_of_mem _ hq)) (by rw [List.length_append, List.length_singleton]; omega)
    have hz : acc.length < sizeLine := Nat.lt_of_lt_of_le (show acc.length < 1000 by omega) (line8 (Nat.le_refl _))
    have e : frsL (p :: fs) = frD p.1 p.2 :: frsL fs := rfl
    have e2 : ∃ fl, swT L S = .ob "Switches" fl ∧ fl.lookup ("pass_on" : Str) = none := ⟨_, rfl, by simp [List.lookup_cons]⟩
    obtain ⟨fl, e3, e4⟩ := e2
    rw [e]
    rw [e3] at k
    simp [lcGo, stR, e3, e4, k, hz]
    simp [stR] at ih
    rw [ih]
    simp [plays]
end LW

set_option Elab.async false
set_option maxRecDepth 100000
set_option exponentiation.threshold 100000
namespace LW
open PySem FL
def resort (S : Stt) : Stt := (sortS (S.map (·.1))).map fun h => (h, look S h)
theorem resort_look {S : Stt} {x : Str} {iv : Iv} (h : S.lookup x = some iv) : (resort S).lookup x = some iv := by
  have hx : x ∈ sortS (S.map (·.1)) := (sortS_perm _).mem_iff.mpr (List.mem_map.mpr ⟨(x, iv), lookup_mem h, rfl⟩)
  unfold resort
  generalize sortS (S.map (·.1)) = l at hx
  induction l with
  | nil => cases hx
  | cons y l ih =>
    rw [List.map_cons, List.lookup_cons]
    cases q : (x == y) with
    | true => rw [beq_iff_eq.mp q] at h; rw [look_of h]
    | false =>
      rcases List.mem_cons.mp hx with e | e
      · rw [e] at q; simp at q
      · exact ih e
theorem look_mem {S : Stt} {x : Str} (h : x ∈ S.map (·.1)) : ∃ iv, S.lookup x = some iv := by
  induction S with
  | nil => cases h
  | cons p S ih =>
    obtain ⟨y, v⟩ := p
    rw [List.lookup_cons]
    cases q : (x == y) with
    | true => exact ⟨v, rfl⟩
    | false =>
      rw [List.map_cons] at h
      rcases List.mem_cons.mp h with e | e
      · have : x = y := e
        rw [this] at q; simp at q
      · exact ih e
theorem init_ev {L : Line} {S : Stt} (hm : S.length < 64) (nd : (S.map (·.1)).Nodup) : f_Switches___init__ [.ob "Switches" [], .fz (.dic (lineK L)), .ow (.dic (sttK S))] = some (.fz .non, [swT L (resort S), .fz (.dic (lineK L)), .ow (.dic (sttK S))]) := by
  have k1 := sorted_stt S hm
  have k2 : ((sortS (S.map (·.1))).map D.str).length ≤ sizeLine := by rw [List.length_map, sortS_len, List.length_map]; exact line8 (by omega)
  have go := dc_gen (vs := [3]) (g := gNm 3) (Fk := vr 3) (Fe := bin ixD (vr 2) (vr 3)) (ρ := [some (.ob "Switches" [("places", .fz (.dic (lineK L)))]), some (.fz (.dic (lineK L))), some (.ow (.dic (sttK S))), none]) (st := fun y => [some (.ob "Switches" [("places", .fz (.dic (lineK L)))]), some (.fz (.dic (lineK L))), some (.ow (.dic (sttK S))), some (.fz y)])
    (f := fun y => match y with
      | .str x => ivD (look S x)
      | _ => .non) (kf := fun y => match y with
      | .str x => .inr x
      | _ => .inl 0) (xs := (sortS (S.map (·.1))).map .str) (acc := [])
    (fun y hy => by simp) (fun y hy => by
      obtain ⟨x, hx, e⟩ := List.mem_map.mp hy
      subst e
      exact ⟨.str x, by simp, rfl⟩) (fun y hy => by
      obtain ⟨x, hx, e⟩ := List.mem_map.mp hy
      subst e
      obtain ⟨iv, hiv⟩ := look_mem ((sortS_perm _).mem_iff.mp hx)
      refine ⟨.fz (ivD (look S x)), ?_, rfl⟩
      rw [look_of hiv]
      simp [find_stt hiv]) (fun y hy => by simp) (by simpa using k2) (by
      rw [List.map_map]
      simp only [List.map_nil, List.nil_append]
      exact List.pairwise_map.mpr ((sortS_nodup nd).imp fun h e => h (Sum.inr.inj e)))
  have e : (((sortS (S.map (·.1))).map D.str).map fun x => ((match x with
      | .str x => (.inr x : L2.Key)
      | _ => .inl 0), (match x with
      | .str x => ivD (look S x)
      | _ => .non))) = sttK (resort S) := by
    unfold sttK resort
    rw [List.map_map, List.map_map]
    rfl
  rw [List.nil_append, e] at go
  simp [f_Switches___init__, b_Switches___init__, defF_ev, startE, kpl, List.replicate, k1, go, List.lookup_cons, swT]
def start0 (L : Line) : Stt := resort (silent L)
theorem start_ok {L : Line} (ok : LineOk L) : StOk L (start0 L) := by
  refine ⟨?_, fun x a h => ⟨none, resort_look (silent_look h)⟩⟩
  unfold start0 resort silent
  rw [List.length_map, sortS_len, List.length_map, List.length_map, sortS_len, List.length_map]
theorem make_ev {L : Line} (ok : LineOk L) : mkFn "Switches" f_Switches___init__ [.fz (.dic (lineK L)), .ow (.dic (sttK (silent L)))] = some (.nw (swT L (start0 L)), [.fz (.dic (lineK L)), .ow (.dic (sttK (silent L)))]) := by
  have hm := ok.most
  have h1 : (silent L).length < 64 := by unfold silent; rw [List.length_map, sortS_len, List.length_map]; omega
  have h2 : ((silent L).map (·.1)).Nodup := by
    unfold silent
    rw [List.map_map]
    have : (((fun p : Str × Iv => p.1) ∘ fun h => (h, none)) : Str → Str) = id := rfl
    rw [this, List.map_id]
    exact sortS_nodup ok.ndh
  have k := init_ev (L := L) (S := silent L) h1 h2
  simp [k, start0]
def firstK (L : Line) (fs : Frs) : List Str := (plays L (start0 L) fs).1
def endS (L : Line) (fs : Frs) : Stt := (plays L (start0 L) fs).2
def laterK (L : Line) (fs : Frs) : List Str := fs.map fun p => kd L (endS L fs) p
end LW

set_option Elab.async false
set_option maxRecDepth 100000
set_option exponentiation.threshold 100000
namespace LW
open PySem FL
def hears (L : Line) (p : Int) (q : (Str × Str) × Str) : Bool := cont (some (reach q.2 (posL L q.1.1) (posL L q.1.2))) p
def hcount (L : Line) (fs : Frs) (ks : List Str) (p : Int) : Nat := ((fs.zip ks).filter (hears L p)).length
theorem cont_iff {u v : Option Int} {p : Int} : cont (some (u, v)) p = true ↔ (∀ i, u = some i → i ≤ p) ∧ (∀ i, v = some i → p ≤ i) := by
  cases u <;> cases v <;> simp [cont]
theorem iv_conv {iv : Iv} {x y z : Int} (h1 : cont iv x = true) (h2 : cont iv z = true) (h3 : x ≤ y) (h4 : y ≤ z) : cont iv y = true := by
  rcases iv with _ | ⟨u, v⟩
  · cases h1
  · rw [cont_iff] at *
    exact ⟨fun i e => Int.le_trans (h1.1 i e) h3, fun i e => Int.le_trans h4 (h2.2 i e)⟩
abbrev Rg := Option Int × Option Int
def isub (r x : Rg) : Prop := (∀ j, x.1 = some j → ∃ i, r.1 = some i ∧ j ≤ i) ∧ (∀ j, x.2 = some j → ∃ i, r.2 = some i ∧ i ≤ j)
def Isub : Iv → Iv → Prop
  | none, _ => True
  | some r, some x => isub r x
  | some _, none => False
theorem isub.refl (r : Rg) : isub r r := ⟨fun j e => ⟨j, e, Int.le_refl _⟩, fun j e => ⟨j, e, Int.le_refl _⟩⟩
theorem isub.trans {r x y : Rg} (h : isub r x) (k : isub x y) : isub r y := by
  refine ⟨fun j e => ?_, fun j e => ?_⟩
  · obtain ⟨i, e1, l1⟩ := k.1 j e
    obtain ⟨i2, e2, l2⟩ := h.1 i e1
    exact ⟨i2, e2, Int.le_trans l1 l2⟩
  · obtain ⟨i, e1, l1⟩ := k.2 j e
    obtain ⟨i2, e2, l2⟩ := h.2 i e1
    exact ⟨i2, e2, Int.le_trans l2 l1⟩
theorem Isub.refl : ∀ r : Iv, Isub r r
  | none => trivial
  | some r => isub.refl r
theorem Isub.trans : ∀ {r x y : Iv}, Isub r x → Isub x y → Isub r y
  | none, _, _, _, _ => trivial
  | some _, some _, some _, h, k => isub.trans h k
  | some _, none, _, h, _ => h.elim
  | some _, some _, none, _, k => k.elim
theorem isub.cont {r x : Rg} (h : isub r x) {p : Int} (c : cont (some r) p = true) : LW.cont (some x) p = true := by
  obtain ⟨u, v⟩ := r
  obtain ⟨u2, v2⟩ := x
  rw [cont_iff] at *
  refine ⟨fun j e => ?_, fun j e => ?_⟩
  · obtain ⟨i, e1, l1⟩ := h.1 j e
    exact Int.le_trans l1 (c.1 i e1)
  · obtain ⟨i, e1, l1⟩ := h.2 j e
    exact Int.le_trans (c.2 i e1) l1
theorem Isub.cont : ∀ {r x : Iv}, Isub r x → ∀ {p : Int}, cont r p = true → LW.cont x p = true
  | none, _, _, _, c => by cases c
  | some _, some _, h, _, c => isub.cont h c
  | some _, none, h, _, _ => h.elim
theorem sub_join (iv : Iv) (r : Rg) : isub r (join iv r) := by
  obtain ⟨c, d⟩ := r
  rcases iv with _ | ⟨a, b⟩
  · exact isub.refl _
  · refine ⟨fun j e => ?_, fun j e => ?_⟩
    · cases a <;> cases c <;> simp [join] at e
      rename_i a c
      refine ⟨c, rfl, ?_⟩
      split at e <;> omega
    · cases b <;> cases d <;> simp [join] at e
      rename_i b d
      refine ⟨d, rfl, ?_⟩
      split at e <;> omega
theorem join_sub (iv : Iv) (r : Rg) : Isub iv (some (join iv r)) := by
  obtain ⟨c, d⟩ := r
  rcases iv with _ | ⟨a, b⟩
  · trivial
  · refine ⟨fun j e => ?_, fun j e => ?_⟩
    · cases a <;> cases c <;> simp [join] at e
      rename_i a c
      refine ⟨a, rfl, ?_⟩
      split at e <;> omega
    · cases b <;> cases d <;> simp [join] at e
      rename_i b d
      refine ⟨b, rfl, ?_⟩
      split at e <;> omega
theorem join_same {x r : Rg} (h : isub r x) : join (some x) r = x := by
  obtain ⟨c, d⟩ := r
  obtain ⟨a, b⟩ := x
  obtain ⟨h1, h2⟩ := h
  simp only [join]
  congr 1
  · cases a with
    | none => rfl
    | some a =>
      obtain ⟨i, e, l⟩ := h1 a rfl
      have e : c = some i := e
      subst e
      show some (if i < a then i else a) = _
      rw [if_neg (by omega)]
  · cases b with
    | none => rfl
    | some b =>
      obtain ⟨i, e, l⟩ := h2 b rfl
      have e : d = some i := e
      subst e
      show some (if i > b then i else b) = _
      rw [if_neg (by omega)]
theorem join_cont {iv : Iv} {r : Rg} {a p : Int} (h1 : iv = none ∨ cont iv a = true) (h2 : cont (some r) a = true) : cont (some (join iv r)) p = true ↔ cont iv p = true ∨ cont (some r) p = true := by
  obtain ⟨c, d⟩ := r
  rcases iv with _ | ⟨u, v⟩
  · show cont (some (c, d)) p = true ↔ cont none p = true ∨ _
    simp [cont]
  · have h1 := h1.resolve_left (by simp)
    cases u <;> cases v <;> cases c <;> cases d <;> simp [cont, join] at * <;> (try split) <;> (try split) <;> omega
theorem reach_own (k : Str) (a b : Int) : cont (some (reach k a b)) a = true := by
  unfold reach
  split
  · rfl
  · split
    · rw [cont_iff]
      refine ⟨fun i e => ?_, fun i e => ?_⟩
      · cases e; split <;> omega
      · cases e; split <;> omega
    · split
      · rw [cont_iff]
        exact ⟨fun i e => by (cases e), fun i e => by (cases e; omega)⟩
      · rw [cont_iff]
        exact ⟨fun i e => by (cases e; omega), fun i e => by (cases e)⟩
theorem reach_mono {iv x : Iv} (h : Isub iv x) (a b : Int) : isub (reach (kindS x a) a b) (reach (kindS iv a) a b) := by
  rcases iv with _ | r
  · exact ⟨fun j e => by (cases e), fun j e => by (cases e)⟩
  · rcases x with _ | y
    · exact h.elim
    · have hd : reach "direct" a b = (some (if b < a then b else a), some (if b > a then b else a)) := rfl
      by_cases c : cont (some r) a = true
      · have c2 := Isub.cont h c
        have e1 : kindS (some r) a = "direct" := if_pos c
        have e2 : kindS (some y) a = "direct" := if_pos c2
        rw [e1, e2]
        exact isub.refl _
      · have e1 : kindS (some r) a = "flood" := if_neg c
        by_cases c2 : cont (some y) a = true
        · have e2 : kindS (some y) a = "direct" := if_pos c2
          rw [e1, e2, hd]
          by_cases l : a < b
          · rw [show reach "flood" a b = (none, some b) from if_pos l]
            refine ⟨fun j e => by (cases e), fun j e => ?_⟩
            cases e
            exact ⟨_, rfl, by split <;> omega⟩
          · rw [show reach "flood" a b = (some b, none) from if_neg l]
            refine ⟨fun j e => ?_, fun j e => by (cases e)⟩
            cases e
            exact ⟨_, rfl, by split <;> omega⟩
        · have e2 : kindS (some y) a = "flood" := if_neg c2
          rw [e1, e2]
          exact isub.refl _
theorem look_nxt {L : Line} {S : Stt} {p : Str × Str} (h : StOk L S) (f : FrOk L p) (x : Str) : look (nxt L S p) x = if x = p.1 then some (join (look S p.1) (rc L S p)) else look S x := by
  obtain ⟨a, ha⟩ := f.a
  obtain ⟨is, hi⟩ := h.2 _ _ ha
  unfold nxt look
  rw [look_supd hi]
  by_cases e : x = p.1
  · rw [if_pos e, if_pos e]; rfl
  · rw [if_neg e, if_neg e]
theorem nxt_up {L : Line} {S : Stt} {p : Str × Str} (h : StOk L S) (f : FrOk L p) (x : Str) : Isub (look S x) (look (nxt L S p) x) := by
  rw [look_nxt h f]
  by_cases e : x = p.1
  · rw [if_pos e, e]; exact join_sub _ _
  · rw [if_neg e]; exact Isub.refl _
theorem plays_up {L : Line} : ∀ {fs : Frs} {S : Stt}, StOk L S → (∀ p ∈ fs, FrOk L p) → ∀ x, Isub (look S x) (look (plays L S fs).2 x)
  | [], S, _, _, x => Isub.refl _
  | p :: fs, S, h, f, x => (nxt_up h (f p List.mem_cons_self) x).trans (plays_up (fs := fs) (h.nxt (f p List.mem_cons_self)) (fun q hq => f q (List.mem_cons_of_mem _ hq)) x)
theorem rc_mono {L : Line} {S S' : Stt} {p : Str × Str} (h : ∀ x, Isub (look S x) (look S' x)) : isub (rc L S' p) (rc L S p) := reach_mono (h p.2) _ _
theorem plays_cov {L : Line} : ∀ {fs : Frs} {S : Stt}, StOk L S → (∀ p ∈ fs, FrOk L p) → ∀ p ∈ fs, Isub (some (rc L (plays L S fs).2 p)) (look (plays L S fs).2 p.1)
  | q :: fs, S, h, f, p, hp => by
    have h2 := h.nxt (f q List.mem_cons_self)
    have f2 : ∀ p ∈ fs, FrOk L p := fun q hq => f q (List.mem_cons_of_mem _ hq)
    rcases List.mem_cons.mp hp with e | e
    · subst e
      have up := plays_up h2 f2
      have e1 := look_nxt h (f p List.mem_cons_self) p.1
      rw [if_pos rfl] at e1
      have u1 := up p.1
      rw [e1] at u1
      have m1 : isub (rc L (plays L S (p :: fs)).2 p) (rc L S p) := rc_mono (plays_up h f)
      have m2 := isub.trans m1 (sub_join (look S p.1) (rc L S p))
      exact Isub.trans (y := look (plays L S (p :: fs)).2 p.1) (x := some (join (look S p.1) (rc L S p))) m2 u1
    · exact plays_cov h2 f2 p e
/-- a state to which no frame adds anything -/
def Full (L : Line) (fs : Frs) (S : Stt) : Prop := ∀ p ∈ fs, Isub (some (rc L S p)) (look S p.1)
theorem rc_look {L : Line} {S S' : Stt} (h : ∀ x, look S x = look S' x) (p : Str × Str) : rc L S p = rc L S' p := by
  unfold rc kd
  rw [h p.2]
theorem nxt_full {L : Line} {S : Stt} {p : Str × Str} (h : StOk L S) (f : FrOk L p) (c : Isub (some (rc L S p)) (look S p.1)) (x : Str) : look (nxt L S p) x = look S x := by
  rw [look_nxt h f]
  by_cases e : x = p.1
  · rw [if_pos e, e]
    cases q : look S p.1 with
    | none => rw [q] at c; exact c.elim
    | some y =>
      rw [q] at c
      rw [join_same c]
  · rw [if_neg e]
theorem plays_full {L : Line} {S0 : Stt} (gs : Frs) (c : Full L gs S0) : ∀ {fs : Frs} {S : Stt}, StOk L S → (∀ p ∈ fs, FrOk L p) → (∀ p ∈ fs, p ∈ gs) → (∀ x, look S x = look S0 x) → (plays L S fs).1 = fs.map (fun p => kd L S0 p) ∧ ∀ x, look (plays L S fs).2 x = look S0 x
  | [], S, _, _, _, e => ⟨rfl, e⟩
  | p :: fs, S, h, f, m, e => by
    have c2 : Isub (some (rc L S p)) (look S p.1) := by
      rw [rc_look e, e]
      exact c p (m p List.mem_cons_self)
    have e2 := nxt_full h (f p List.mem_cons_self) c2
    have ih := plays_full gs c (fs := fs) (S := nxt L S p) (h.nxt (f p List.mem_cons_self)) (fun q hq => f q (List.mem_cons_of_mem _ hq)) (fun q hq => m q (List.mem_cons_of_mem _ hq)) (fun x => (e2 x).trans (e x))
    refine ⟨?_, ih.2⟩
    show kd L S p :: (plays L (nxt L S p) fs).1 = _
    rw [ih.1, List.map_cons]
    congr 1
    unfold kd
    rw [e]
theorem full_end {L : Line} {fs : Frs} (ok : LineOk L) (f : ∀ p ∈ fs, FrOk L p) : Full L fs (endS L fs) := plays_cov (start_ok ok) f
theorem hcount_cons (L : Line) (p : Str × Str) (k : Str) (fs : Frs) (ks : List Str) (q : Int) : hcount L (p :: fs) (k :: ks) q = (if hears L q (p, k) = true then 1 else 0) + hcount L fs ks q := by
  unfold hcount
  rw [List.zip_cons_cons, List.filter_cons]
  split
  · rw [List.length_cons]; omega
  · omega
theorem svD_line {L : Line} (h : L.length < 64) : svD (.dic (lineK L)) = some (.nw (.ow (.lst ((sortI (L.map (·.2))).map .int)))) := by
  show (intsOf ((lineK L).map fun p => p.2)).bind _ = _
  rw [lineK_vals, intsOf_map, Option.bind_some, if_pos (by rw [List.length_map]; exact h)]
theorem look_start {L : Line} {x : Str} {a : Int} (h : L.lookup x = some a) : look (start0 L) x = none := look_of (resort_look (silent_look h))
theorem oD_s (i : Int) : oD (some i) = .int i := rfl
theorem oD_n : oD none = .non := rfl
theorem reach_A (a b : Int) : reach "all" a b = (none, none) := rfl
theorem reach_D (a b : Int) : reach "direct" a b = (some (if b < a then b else a), some (if b > a then b else a)) := rfl
theorem reach_F (a b : Int) : reach "flood" a b = if a < b then (none, some b) else (some b, none) := rfl
def rchs (L : Line) : Stt → Frs → List (Option Int × Option Int)
  | _, [] => []
  | S, p :: fs => rc L S p :: rchs L (nxt L S p) fs
def ivL (rs : List (Option Int × Option Int)) : List FL.D := rs.map fun r => ivD (some r)
theorem plays_congr {L : Line} : ∀ {fs : Frs} {S S' : Stt}, StOk L S → StOk L S' → (∀ p ∈ fs, FrOk L p) → (∀ x, look S x = look S' x) → (plays L S fs).1 = (plays L S' fs).1 ∧ rchs L S fs = rchs L S' fs ∧ ∀ x, look (plays L S fs).2 x = look (plays L S' fs).2 x
  | [], S, S', h, h', f, e => ⟨rfl, rfl, e⟩
  | p :: fs, S, S', h, h', f, e => by
    have fp := f p List.mem_cons_self
    have ek : kd L S p = kd L S' p := by unfold kd; rw [e]
    have er : rc L S p = rc L S' p := by unfold rc; rw [ek]
    have en : ∀ x, look (nxt L S p) x = look (nxt L S' p) x := fun x => by
      rw [look_nxt h fp, look_nxt h' fp, e, e, er]
    obtain ⟨a, b, c⟩ := plays_congr (fs := fs) (h.nxt fp) (h'.nxt fp) (fun q hq => f q (List.mem_cons_of_mem _ hq)) en
    refine ⟨?_, ?_, c⟩
    · show kd L S p :: _ = kd L S' p :: _
      rw [ek, a]
    · show rc L S p :: _ = rc L S' p :: _
      rw [er, b]
theorem heard_len {L : Line} (q : Int) : ∀ (fs : Frs) (S : Stt), ((rchs L S fs).filter fun r => cont (some r) q).length = hcount L fs (plays L S fs).1 q
  | [], S => rfl
  | p :: fs, S => by
    have ih := heard_len (L := L) q fs (nxt L S p)
    show (((rc L S p) :: rchs L (nxt L S p) fs).filter _).length = hcount L (p :: fs) (kd L S p :: (plays L (nxt L S p) fs).1) q
    rw [hcount_cons, List.filter_cons]
    have hh : hears L q (p, kd L S p) = cont (some (rc L S p)) q := rfl
    rw [hh]
    split
    · rw [List.length_cons, ih]; omega
    · rw [ih]; omega
theorem silent_ok {L : Line} : StOk L (silent L) := by
  refine ⟨?_, fun x a h => ⟨none, silent_look h⟩⟩
  unfold silent
  rw [List.length_map, sortS_len, List.length_map]
theorem silent_all (L : Line) (x : Str) : look (silent L) x = none := by
  unfold look
  cases q : (silent L).lookup x with
  | none => rfl
  | some v =>
    have := lookup_mem q
    unfold silent at this
    obtain ⟨y, _, e⟩ := List.mem_map.mp this
    cases e
    rfl
theorem resort_mem {S : Stt} {x : Str} {v : Iv} (h : (x, v) ∈ resort S) : v = look S x := by
  unfold resort at h
  obtain ⟨y, _, e⟩ := List.mem_map.mp h
  cases e
  rfl
theorem start_all (L : Line) (x : Str) : look (start0 L) x = none := by
  unfold look
  cases q : (start0 L).lookup x with
  | none => rfl
  | some v =>
    have := resort_mem (S := silent L) (lookup_mem q)
    rw [this, silent_all]
    rfl
/-- the state at the beginning of each round -/
def stAt (L : Line) (fs : Frs) : Nat → Stt
  | 0 => silent L
  | k + 1 => (plays L (stAt L fs k) fs).2
theorem stAt_ok {L : Line} {fs : Frs} (f : ∀ p ∈ fs, FrOk L p) : ∀ k, StOk L (stAt L fs k)
  | 0 => silent_ok
  | k + 1 => (stAt_ok f k).plays f
theorem look_stAt {L : Line} {fs : Frs} (ok : LineOk L) (f : ∀ p ∈ fs, FrOk L p) : ∀ k x, look (stAt L fs (k + 1)) x = look (endS L fs) x
  | 0, x => (plays_congr silent_ok (start_ok ok) f fun x => by rw [silent_all, start_all]).2.2 x
  | k + 1, x => (plays_full fs (full_end ok f) (stAt_ok f (k + 1)) f (fun p hp => hp) (look_stAt ok f k)).2 x
theorem kinds_stAt {L : Line} {fs : Frs} (ok : LineOk L) (f : ∀ p ∈ fs, FrOk L p) : ∀ k, (plays L (stAt L fs k) fs).1 = if k = 0 then firstK L fs else laterK L fs
  | 0 => (plays_congr silent_ok (start_ok ok) f fun x => by rw [silent_all, start_all]).1
  | k + 1 => by
    rw [if_neg (by omega)]
    exact (plays_full fs (full_end ok f) (stAt_ok f (k + 1)) f (fun p hp => hp) (look_stAt ok f k)).1
end LW

set_option Elab.async false
set_option maxRecDepth 100000
set_option exponentiation.threshold 100000
namespace LW
open PySem FL
/-! ### valid states -/
def IvOk (L : Line) (x : Str) : Iv → Prop
  | none => True
  | some (u, v) => (∀ i, u = some i → i ∈ L.map (·.2) ∧ i ≤ posL L x) ∧ ∀ i, v = some i → i ∈ L.map (·.2) ∧ posL L x ≤ i
structure StV (L : Line) (S : Stt) : Prop where
  ok : StOk L S
  nd : (S.map (·.1)).Nodup
  inL : ∀ p ∈ S, ∃ a, L.lookup p.1 = some a
  iv : ∀ p ∈ S, IvOk L p.1 p.2
theorem lk_nodup {α : Type} {x : Str} {a : α} : ∀ {S : List (Str × α)}, (S.map (·.1)).Nodup → (x, a) ∈ S → S.lookup x = some a
  | (y, b) :: S, nd, h => by
    rw [List.map_cons, List.nodup_cons] at nd
    rw [List.lookup_cons]
    rcases List.mem_cons.mp h with e | hm
    · cases e; simp
    · cases q : (x == y) with
      | true =>
        have := beq_iff_eq.mp q
        subst this
        exact absurd (show x ∈ S.map (·.1) from List.mem_map.mpr ⟨(x, a), hm, rfl⟩) nd.1
      | false => exact lk_nodup nd.2 hm
theorem StV.look {L : Line} {S : Stt} (h : StV L S) (x : Str) : IvOk L x (look S x) := by
  unfold LW.look
  cases q : S.lookup x with
  | none => trivial
  | some v => exact h.iv _ (lookup_mem q)
theorem pos_mem {L : Line} {x : Str} {a : Int} (h : L.lookup x = some a) : a ∈ L.map (·.2) := List.mem_map.mpr ⟨(x, a), lookup_mem h, rfl⟩
theorem ivok_join {L : Line} {x : Str} {iv : Iv} {r : Option Int × Option Int} (h : IvOk L x iv) (k : IvOk L x (some r)) : IvOk L x (some (join iv r)) := by
  obtain ⟨c, d⟩ := r
  rcases iv with _ | ⟨a, b⟩
  · exact k
  · refine ⟨fun i e => ?_, fun i e => ?_⟩
    · cases a <;> cases c <;> simp [join] at e
      rename_i a c
      have h1 := h.1 a rfl
      have k1 := k.1 c rfl
      split at e <;> (subst e; assumption)
    · cases b <;> cases d <;> simp [join] at e
      rename_i b d
      have h1 := h.2 b rfl
      have k1 := k.2 d rfl
      split at e <;> (subst e; assumption)
theorem ivok_reach {L : Line} {p : Str × Str} (f : FrOk L p) (k : Str) : IvOk L p.1 (some (reach k (posL L p.1) (posL L p.2))) := by
  obtain ⟨a, ha⟩ := f.a
  obtain ⟨b, hb⟩ := f.b
  have ma := pos_mem ha
  have mb := pos_mem hb
  rw [pos_of ha, pos_of hb]
  unfold reach
  split
  · exact ⟨fun i e => (by cases e), fun i e => (by cases e)⟩
  · split
    · refine ⟨fun i e => ?_, fun i e => ?_⟩
      · cases e
        rw [pos_of ha]
        split
        · exact ⟨mb, by omega⟩
        · exact ⟨ma, Int.le_refl _⟩
      · cases e
        rw [pos_of ha]
        split
        · exact ⟨mb, by omega⟩
        · exact ⟨ma, Int.le_refl _⟩
    · split
      · exact ⟨fun i e => (by cases e), fun i e => (by cases e; exact ⟨mb, by rw [pos_of ha]; omega⟩)⟩
      · exact ⟨fun i e => (by cases e; exact ⟨mb, by rw [pos_of ha]; omega⟩), fun i e => (by cases e)⟩
theorem supd_mem {S : Stt} {s : Str} {iv : Iv} {q : Str × Iv} (h : q ∈ supd S s iv) : q ∈ S ∨ q = (s, iv) := by
  unfold supd at h
  split at h
  · obtain ⟨p, hp, e⟩ := List.mem_map.mp h
    by_cases c : p.1 = s
    · rw [if_pos c] at e
      exact .inr (by rw [← e, c])
    · rw [if_neg c] at e
      exact .inl (e ▸ hp)
  · rcases List.mem_append.mp h with z | z
    · exact .inl z
    · exact .inr (by simpa using z)
theorem supd_keys {S : Stt} {s : Str} {iv is : Iv} (h : S.lookup s = some is) : (supd S s iv).map (·.1) = S.map (·.1) := by
  unfold supd
  rw [if_pos (any_of h), List.map_map]
  refine List.map_congr_left fun p _ => ?_
  by_cases c : p.1 = s <;> simp [c]
theorem StV.nxt {L : Line} {S : Stt} {p : Str × Str} (h : StV L S) (f : FrOk L p) : StV L (nxt L S p) := by
  obtain ⟨a, ha⟩ := f.a
  obtain ⟨is, hi⟩ := h.ok.2 _ _ ha
  refine ⟨h.ok.nxt f, ?_, fun q hq => ?_, fun q hq => ?_⟩
  · unfold LW.nxt
    rw [supd_keys hi]
    exact h.nd
  · rcases supd_mem hq with z | z
    · exact h.inL q z
    · rw [z]; exact ⟨a, ha⟩
  · rcases supd_mem hq with z | z
    · exact h.iv q z
    · rw [z]
      exact ivok_join (h.look p.1) (ivok_reach f _)
theorem StV.plays {L : Line} : ∀ {fs : Frs} {S : Stt}, StV L S → (∀ p ∈ fs, FrOk L p) → StV L (plays L S fs).2
  | [], S, h, _ => h
  | p :: fs, S, h, f => StV.plays (fs := fs) (h.nxt (f p List.mem_cons_self)) fun q hq => f q (List.mem_cons_of_mem _ hq)
theorem resort_keys {S : Stt} : (resort S).map (·.1) = sortS (S.map (·.1)) := by
  unfold resort
  rw [List.map_map]
  exact List.map_id _
theorem StV.resort {L : Line} {S : Stt} (h : StV L S) : StV L (resort S) := by
  refine ⟨⟨?_, fun x a hx => ?_⟩, ?_, fun p hp => ?_, fun p hp => ?_⟩
  · have e : (LW.resort S).length = ((LW.resort S).map (·.1)).length := (List.length_map _).symm
    rw [e, resort_keys, sortS_len, List.length_map]
    exact h.ok.1
  · obtain ⟨iv, hi⟩ := h.ok.2 x a hx
    exact ⟨iv, resort_look hi⟩
  · rw [resort_keys]
    exact sortS_nodup h.nd
  · have : p.1 ∈ sortS (S.map (·.1)) := by rw [← resort_keys]; exact List.mem_map_of_mem hp
    obtain ⟨q, hq, e⟩ := List.mem_map.mp ((sortS_perm _).mem_iff.mp this)
    rw [← e]
    exact h.inL q hq
  · obtain ⟨x, v⟩ := p
    rw [resort_mem hp]
    exact h.look x
theorem look_resort {S : Stt} (x : Str) : look (resort S) x = look S x := by
  cases q : S.lookup x with
  | some v => rw [look_of q, look_of (resort_look q)]
  | none =>
    unfold look
    rw [q]
    cases r : (resort S).lookup x with
    | none => rfl
    | some v =>
      have := resort_mem (lookup_mem r)
      unfold look at this
      rw [q] at this
      exact this
theorem silent_keys (L : Line) : (silent L).map (·.1) = sortS (L.map (·.1)) := by
  unfold silent
  rw [List.map_map]
  exact List.map_id _
theorem silent_v {L : Line} (ok : LineOk L) : StV L (silent L) := by
  refine ⟨silent_ok, by rw [silent_keys]; exact sortS_nodup ok.ndh, fun p hp => ?_, fun p hp => ?_⟩
  · have : p.1 ∈ sortS (L.map (·.1)) := by rw [← silent_keys]; exact List.mem_map_of_mem hp
    exact lookup_ex ((sortS_perm _).mem_iff.mp this)
  · unfold silent at hp
    obtain ⟨y, _, e⟩ := List.mem_map.mp hp
    rw [← e]
    trivial
theorem start_v {L : Line} (ok : LineOk L) : StV L (start0 L) := (silent_v ok).resort

/-! ### is_state, started -/
theorem oDs (i : Int) : oD (some i) = .int i := rfl
theorem oDn : oD none = .non := rfl
theorem lvD_line {L : Line} (h : L.length ≤ 40) : lvD (.dic (lineK L)) = some (.nw (.ow (.lst ((L.map (·.2)).map .int)))) := by
  show (if (lineK L).length ≤ sizeLine then some (R.nw (.ow (.lst ((lineK L).map fun p => p.2)))) else none) = _
  have hl : (lineK L).length = L.length := by unfold lineK; rw [List.length_map]
  rw [if_pos (line8 (by omega)), lineK_vals]
theorem pos_bound {L : Line} (ok : LineOk L) {i : Int} (h : i ∈ L.map (·.2)) : -(10 ^ 30) ≤ i ∧ i ≤ 10 ^ 30 := by
  obtain ⟨p, hp, e⟩ := List.mem_map.mp h
  rw [← e]
  exact ⟨ok.lo p hp, ok.hi p hp⟩
theorem is_interval_ev {L : Line} (ok : LineOk L) {x : Str} {a : Int} (hx : L.lookup x = some a) {iv : Iv} (h : IvOk L x iv) : f_is_interval [.fz (.dic (lineK L)), .fz (.str x), .fz (ivD iv)] = some (.fz (.bl true), [.fz (.dic (lineK L)), .fz (.str x), .fz (ivD iv)]) := by
  have k1 := find_line hx
  have k2 := lvD_line ok.most
  rcases iv with _ | ⟨u, v⟩
  · simp [f_is_interval, b_is_interval, defF_ev, startE, kpl, List.replicate, ivD]
  · obtain ⟨h1, h2⟩ := h
    rw [pos_of hx] at h1 h2
    rcases u with _ | u
    · rcases v with _ | v
      · simp [f_is_interval, b_is_interval, defF_ev, startE, kpl, List.replicate, ivD, oDs, oDn, k1, k2, notND]
      · obtain ⟨m2, l2⟩ := h2 v rfl
        have p2 := is_position_ev v (pos_bound ok m2).1 (pos_bound ok m2).2
        have i2 := in_ints v (L.map (·.2))
        rw [decide_eq_true m2] at i2
        simp only [List.map_map] at k2 i2
        simp [f_is_interval, b_is_interval, defF_ev, startE, kpl, List.replicate, ivD, oDs, oDn, k1, k2, notND, p2, i2, l2]
    · obtain ⟨m1, l1⟩ := h1 u rfl
      have p1 := is_position_ev u (pos_bound ok m1).1 (pos_bound ok m1).2
      have i1 := in_ints u (L.map (·.2))
      rw [decide_eq_true m1] at i1
      rcases v with _ | v
      · simp only [List.map_map] at k2 i1
        simp [f_is_interval, b_is_interval, defF_ev, startE, kpl, List.replicate, ivD, oDs, oDn, k1, k2, notND, p1, i1, l1]
      · obtain ⟨m2, l2⟩ := h2 v rfl
        have p2 := is_position_ev v (pos_bound ok m2).1 (pos_bound ok m2).2
        have i2 := in_ints v (L.map (·.2))
        rw [decide_eq_true m2] at i2
        simp only [List.map_map] at k2 i1 i2
        simp [f_is_interval, b_is_interval, defF_ev, startE, kpl, List.replicate, ivD, oDs, oDn, k1, k2, notND, p1, i1, l1, p2, i2, l2]
theorem sttK_len (S : Stt) : (sttK S).length = S.length := by unfold sttK; rw [List.length_map]
theorem lineK_len (L : Line) : (lineK L).length = L.length := by unfold lineK; rw [List.length_map]
theorem is_state_ev {L : Line} (ok : LineOk L) {S : Stt} (h : StV L S) : f_is_state [.fz (.dic (lineK L)), .fz (.dic (sttK S))] = some (.fz (.bl true), [.fz (.dic (lineK L)), .fz (.dic (sttK S))]) := by
  have hm := ok.most
  have hs := h.ok.1
  obtain ⟨ys, go1, ha1⟩ := all_gen (vs := [2]) (g := gNm 2) (Fe := cll [(vr 2)] [] f_is_host) (ρ := [some (.fz (.dic (lineK L))), some (.fz (.dic (sttK S))), none]) (st := fun y => [some (.fz (.dic (lineK L))), some (.fz (.dic (sttK S))), some (.fz y)]) (xs := (sttK S).map fun p => dOf p.1)
    (fun y hy => by simp) (fun y hy => by
      obtain ⟨z, hz, rfl⟩ := List.mem_map.mp hy
      unfold sttK at hz
      obtain ⟨p, hp, rfl⟩ := List.mem_map.mp hz
      obtain ⟨a, ha⟩ := h.inL p hp
      have := is_host_ev p.1 (ok.host _ (lookup_mem ha))
      simp [dOf, this]) (fun y hy => by simp) (by rw [List.length_map, sttK_len]; exact line8 (by omega))
  obtain ⟨zs, go2, ha2⟩ := all_gen (vs := [2]) (g := gNm 2) (Fe := andF (bin (op2 .isin) (vr 2) (vr 1)) (cll [(vr 0), (vr 2), (bin ixD (vr 1) (vr 2))] [] f_is_interval)) (ρ := [some (.fz (.dic (lineK L))), some (.fz (.dic (sttK S))), none]) (st := fun y => [some (.fz (.dic (lineK L))), some (.fz (.dic (sttK S))), some (.fz y)]) (xs := (lineK L).map fun p => dOf p.1)
    (fun y hy => by simp) (fun y hy => by
      obtain ⟨z, hz, rfl⟩ := List.mem_map.mp hy
      unfold lineK at hz
      obtain ⟨p, hp, rfl⟩ := List.mem_map.mp hz
      have hl : L.lookup p.1 = some p.2 := lk_nodup ok.ndh hp
      obtain ⟨iv, hi⟩ := h.ok.2 _ _ hl
      have k1 := find_stt hi
      have k2 := is_interval_ev ok hl (h.iv _ (lookup_mem hi))
      simp [dOf, k1, k2]) (fun y hy => by simp) (by rw [List.length_map, lineK_len]; exact line8 (by omega))
  have l1 := sttK_len S
  have l2 := lineK_len L
  have e : ((sttK S).length : Int) = ((lineK L).length : Int) := by rw [l1, l2, hs]
  have c := check_line_ev ok
  simp [f_is_state, b_is_state, defF_ev, startE, kpl, List.replicate, c, go1, ha1, go2, ha2, e]
theorem check_state_ev {L : Line} (ok : LineOk L) {S : Stt} (h : StV L S) : f_check_state [.fz (.dic (lineK L)), .fz (.dic (sttK S))] = some (.fz .non, [.fz (.dic (lineK L)), .fz (.dic (sttK S))]) := by
  simp [f_check_state, b_check_state, defF_ev, startE, kpl, List.replicate, is_state_ev ok h]
end LW

set_option Elab.async false
set_option maxRecDepth 100000
set_option exponentiation.threshold 100000
namespace LW
open PySem FL
/-- .. with a frozen state -/
theorem initF_ev {L : Line} {S : Stt} (hm : S.length < 64) (nd : (S.map (·.1)).Nodup) : f_Switches___init__ [.ob "Switches" [], .fz (.dic (lineK L)), .fz (.dic (sttK S))] = some (.fz .non, [swT L (resort S), .fz (.dic (lineK L)), .fz (.dic (sttK S))]) := by
  have k1 := sorted_stt S hm
  have k2 : ((sortS (S.map (·.1))).map D.str).length ≤ sizeLine := by rw [List.length_map, sortS_len, List.length_map]; exact line8 (by omega)
  have go := dc_gen (vs := [3]) (g := gNm 3) (Fk := vr 3) (Fe := bin ixD (vr 2) (vr 3)) (ρ := [some (.ob "Switches" [("places", .fz (.dic (lineK L)))]), some (.fz (.dic (lineK L))), some (.fz (.dic (sttK S))), none]) (st := fun y => [some (.ob "Switches" [("places", .fz (.dic (lineK L)))]), some (.fz (.dic (lineK L))), some (.fz (.dic (sttK S))), some (.fz y)])
    (f := fun y => match y with
      | .str x => ivD (look S x)
      | _ => .non) (kf := fun y => match y with
      | .str x => .inr x
      | _ => .inl 0) (xs := (sortS (S.map (·.1))).map .str) (acc := [])
    (fun y hy => by simp) (fun y hy => by
      obtain ⟨x, hx, e⟩ := List.mem_map.mp hy
      subst e
      exact ⟨.str x, by simp, rfl⟩) (fun y hy => by
      obtain ⟨x, hx, e⟩ := List.mem_map.mp hy
      subst e
      obtain ⟨iv, hiv⟩ := look_mem ((sortS_perm _).mem_iff.mp hx)
      refine ⟨.fz (ivD (look S x)), ?_, rfl⟩
      rw [look_of hiv]
      simp [find_stt hiv]) (fun y hy => by simp) (by simpa using k2) (by
      rw [List.map_map]
      simp only [List.map_nil, List.nil_append]
      exact List.pairwise_map.mpr ((sortS_nodup nd).imp fun h e => h (Sum.inr.inj e)))
  have e : (((sortS (S.map (·.1))).map D.str).map fun x => ((match x with
      | .str x => (.inr x : L2.Key)
      | _ => .inl 0), (match x with
      | .str x => ivD (look S x)
      | _ => .non))) = sttK (resort S) := by
    unfold sttK resort
    rw [List.map_map, List.map_map]
    rfl
  rw [List.nil_append, e] at go
  simp [f_Switches___init__, b_Switches___init__, defF_ev, startE, kpl, List.replicate, k1, go, List.lookup_cons, swT]
/-- where a run of frames starts: from silent switches, or from a state -/
def stOf (L : Line) : Option Stt → Stt
  | none => start0 L
  | some S => resort S
def stD : Option Stt → FL.D
  | none => .non
  | some S => .dic (sttK S)
def OkO (L : Line) (o : Option Stt) : Prop := ∀ S, o = some S → StV L S
theorem stOf_v {L : Line} (ok : LineOk L) {o : Option Stt} (h : OkO L o) : StV L (stOf L o) := by
  cases o with
  | none => exact start_v ok
  | some S => exact (h S rfl).resort
theorem started_ev {L : Line} (ok : LineOk L) {fs : Frs} (f : ∀ p ∈ fs, FrOk L p) (hl : fs.length ≤ 300) {o : Option Stt} (h : OkO L o) :
    f_started [.fz (.dic (lineK L)), .fz (.lst (frsL fs)), .fz (stD o)] = some (.nw (swT L (stOf L o)), [.fz (.dic (lineK L)), .fz (.lst (frsL fs)), .fz (stD o)]) := by
  have k1 := check_frames_ev ok f hl
  cases o with
  | none =>
    have k2 := silent_ev ok
    have k3 := make_ev ok
    simp only [mkFn_ev] at k3
    simp [f_started, b_started, defF_ev, startE, kpl, List.replicate, k1, k2, k3, stD, stOf]
    obtain ⟨fl, e⟩ : ∃ fl, swT L (start0 L) = .ob "Switches" fl := ⟨_, rfl⟩
    rw [e]
    simp
  | some S =>
    have hS := h S rfl
    have k2 := check_state_ev ok hS
    have k3 := initF_ev (L := L) (S := S) (by have := hS.ok.1; have := ok.most; omega) hS.nd
    obtain ⟨fl, e⟩ : ∃ fl, swT L (resort S) = .ob "Switches" fl := ⟨_, rfl⟩
    have nn : isND (.dic (sttK S)) = some (.fz (.bl false)) := rfl
    rw [e] at k3
    simp [f_started, b_started, defF_ev, startE, kpl, List.replicate, k1, k2, k3, stD, stOf, e, nn]
end LW

set_option Elab.async false
set_option maxRecDepth 100000
set_option exponentiation.threshold 100000
namespace LW
open PySem FL
theorem swT_ob (L : Line) (S : Stt) : ∃ fl, swT L S = .ob "Switches" fl ∧ fl.lookup ("pass_on" : Str) = none := ⟨_, rfl, by simp [List.lookup_cons]⟩
/-- frames sent one behind another, in a comprehension of their kinds -/
theorem kinds_go {L : Line} (ok : LineOk L) (a1 a2 : Option T) : ∀ (fs : Frs) (S : Stt) (acc : List FL.D), StOk L S → (∀ p ∈ fs, FrOk L p) → acc.length + fs.length ≤ 1000 →
    lcGo [4] (gNm 4) none (bin ixD (mth "Switches" "pass_on" (vr 3) [vr 4] [] f_Switches_pass_on) (cst (.int 0))) (frsL fs) acc [some (.fz (.dic (lineK L))), a1, a2, some (swT L S), none] = some (acc ++ (plays L S fs).1.map .str, [some (.fz (.dic (lineK L))), a1, a2, some (swT L (plays L S fs).2), none])
  | [], S, acc, h, f, hl => by simp [frsL, lcGo, plays]
  | p :: fs, S, acc, h, f, hl => by
    have k := pass_ok ok h (f p List.mem_cons_self)
    rw [List.length_cons] at hl
    have ih := kinds_go ok a1 a2 fs (nxt L S p) (acc ++ [.str (kd L S p)]) (h.nxt (f p List.mem_cons_self)) (fun q hq => f q (List.mem_cons_of_mem _ hq)) (by rw [List.length_append, List.length_singleton]; omega)
    have hz : acc.length < sizeLine := Nat.lt_of_lt_of_le (show acc.length < 1000 by omega) (line8 (Nat.le_refl _))
    have e : frsL (p :: fs) = frD p.1 p.2 :: frsL fs := rfl
    obtain ⟨fl, e3, e4⟩ := swT_ob L S
    rw [e]
    rw [e3] at k
    simp [lcGo, e3, e4, k, hz]
    rw [ih]
    simp [plays]
theorem kinds_of_ev {L : Line} (ok : LineOk L) {fs : Frs} (f : ∀ p ∈ fs, FrOk L p) (hl : fs.length ≤ 300) {o : Option Stt} (h : OkO L o) :
    f_kinds_of [.fz (.dic (lineK L)), .fz (.lst (frsL fs)), .fz (stD o)] = some (.nw (.ow (.lst ((plays L (stOf L o) fs).1.map .str))), [.fz (.dic (lineK L)), .fz (.lst (frsL fs)), .fz (stD o)]) := by
  have k1 := started_ev ok f hl h
  have k2 := kinds_go ok (some (.fz (.lst (frsL fs)))) (some (.fz (stD o))) fs (stOf L o) [] (stOf_v ok h).ok f (by simp; omega)
  rw [List.nil_append] at k2
  simp [f_kinds_of, b_kinds_of, defF_ev, startE, kpl, List.replicate, k1, k2]
theorem known_go {L : Line} (ok : LineOk L) (a1 a2 : Option T) : ∀ (fs : Frs) (S : Stt) (x : Option T), StOk L S → (∀ p ∈ fs, FrOk L p) →
    ∃ x', forGo (gNm 4) l_known_after_1 (frsL fs) [some (.fz (.dic (lineK L))), a1, a2, some (swT L S), x] = some (.nx, [some (.fz (.dic (lineK L))), a1, a2, some (swT L (plays L S fs).2), x'])
  | [], S, x, h, f => ⟨x, rfl⟩
  | p :: fs, S, x, h, f => by
    have k := pass_ok ok h (f p List.mem_cons_self)
    obtain ⟨x', ih⟩ := known_go ok a1 a2 fs (nxt L S p) (some (.fz (frD p.1 p.2))) (h.nxt (f p List.mem_cons_self)) (fun q hq => f q (List.mem_cons_of_mem _ hq))
    refine ⟨x', ?_⟩
    have e : frsL (p :: fs) = frD p.1 p.2 :: frsL fs := rfl
    obtain ⟨fl, e3, e4⟩ := swT_ob L S
    rw [e, forGo_cons (ρ1 := [some (.fz (.dic (lineK L))), a1, a2, some (swT L S), some (.fz (frD p.1 p.2))]) (by simp) (ρ2 := [some (.fz (.dic (lineK L))), a1, a2, some (swT L (nxt L S p)), some (.fz (frD p.1 p.2))]) ?_, ih]
    · simp [plays]
    · rw [e3] at k
      simp [l_known_after_1, e3, e4, k]
theorem known_ev {L : Line} (ok : LineOk L) {fs : Frs} (f : ∀ p ∈ fs, FrOk L p) (hl : fs.length ≤ 300) {o : Option Stt} (h : OkO L o) :
    f_known_after [.fz (.dic (lineK L)), .fz (.lst (frsL fs)), .fz (stD o)] = some (.nw (.ow (.dic (sttK (plays L (stOf L o) fs).2))), [.fz (.dic (lineK L)), .fz (.lst (frsL fs)), .fz (stD o)]) := by
  have k1 := started_ev ok f hl h
  obtain ⟨x', k2⟩ := known_go ok (some (.fz (.lst (frsL fs)))) (some (.fz (stD o))) fs (stOf L o) none (stOf_v ok h).ok f
  have e1 : swT L (stOf L o) = .ob "Switches" [("places", .fz (.dic (lineK L))), ("intervals", .ow (.dic (sttK (stOf L o))))] := rfl
  have e2 : swT L (plays L (stOf L o) fs).2 = .ob "Switches" [("places", .fz (.dic (lineK L))), ("intervals", .ow (.dic (sttK (plays L (stOf L o) fs).2)))] := rfl
  rw [e1, e2] at k2
  rw [e1] at k1
  simp [f_known_after, b_known_after, defF_ev, startE, kpl, List.replicate, k1, k2, List.lookup_cons]
/-- the indices of the frames that reach a position -/
theorem kindF_ev {L : Line} {S : Stt} {s t : Str} {a : Int} {iv : Iv} (hs : L.lookup s = some a) (ht : S.lookup t = some iv) :
    f_kind_by [.fz (.dic (lineK L)), .fz (.dic (sttK S)), .fz (frD s t)] = some (.fz (.str (kindS iv a)), [.fz (.dic (lineK L)), .fz (.dic (sttK S)), .fz (frD s t)]) := by
  have h1 := find_line hs
  have h2 := find_stt ht
  rcases iv with _ | ⟨u, v⟩
  · simp [f_kind_by, b_kind_by, defF_ev, startE, kpl, List.replicate, frD, h1, h2, ivD, kindS]
  · simp [f_kind_by, b_kind_by, defF_ev, startE, kpl, List.replicate, frD, h1, h2, ivD, kindS, contains_some]
    cases cont (some (u, v)) a <;> simp
end LW

set_option Elab.async false
set_option maxRecDepth 100000
set_option exponentiation.threshold 100000
namespace LW
open PySem FL
theorem check_host_ev {L : Line} (ok : LineOk L) {x : Str} {a : Int} (hx : L.lookup x = some a) : f_check_host [.fz (.dic (lineK L)), .fz (.str x)] = some (.fz .non, [.fz (.dic (lineK L)), .fz (.str x)]) := by
  have k1 := is_host_ev x (ok.host _ (lookup_mem hx))
  have k2 := find_line hx
  have k3 : op2 .notin (.str x) (.dic (lineK L)) = some (.fz (.bl false)) := by
    show (inD (.str x) (.dic (lineK L))).bind (fun b => bR (!b)) = _
    have e : inD (.str x) (.dic (lineK L)) = some true := by
      show (some (.inr x : L2.Key)).map (fun k => (dfind (lineK L) k).isSome) = _
      rw [Option.map_some, k2]
      rfl
    rw [e]
    rfl
  simp [f_check_host, b_check_host, defF_ev, startE, kpl, List.replicate, k1, k3]
theorem single_ev {L : Line} (ok : LineOk L) {S : Stt} (h : StV L S) {p : Str × Str} (f : FrOk L p) : f_check_single [.fz (.dic (lineK L)), .fz (.dic (sttK S)), .fz (.str p.1), .fz (.str p.2)] = some (.fz .non, [.fz (.dic (lineK L)), .fz (.dic (sttK S)), .fz (.str p.1), .fz (.str p.2)]) := by
  obtain ⟨a, ha⟩ := f.a
  obtain ⟨b, hb⟩ := f.b
  have k1 := check_state_ev ok h
  have k2 := check_host_ev ok ha
  have k3 := check_host_ev ok hb
  have k4 : (p.1 == p.2) = false := by simpa using f.ne
  simp [f_check_single, b_check_single, defF_ev, startE, kpl, List.replicate, k1, k2, k3, k4]
theorem kind_of_ev {L : Line} (ok : LineOk L) {S : Stt} (h : StV L S) {p : Str × Str} (f : FrOk L p) : f_kind_of [.fz (.dic (lineK L)), .fz (.dic (sttK S)), .fz (.str p.1), .fz (.str p.2)] = some (.fz (.str (kd L S p)), [.fz (.dic (lineK L)), .fz (.dic (sttK S)), .fz (.str p.1), .fz (.str p.2)]) := by
  obtain ⟨a, ha⟩ := f.a
  obtain ⟨b, hb⟩ := f.b
  obtain ⟨iv, hi⟩ := h.ok.2 _ _ hb
  have k1 := single_ev ok h f
  have k2 := kindF_ev (S := S) ha hi
  unfold kd
  rw [look_of hi, pos_of ha]
  simp only [frD] at k2
  simp [f_kind_of, b_kind_of, defF_ev, startE, kpl, List.replicate, k1, k2]
theorem reach_of_ev {L : Line} (ok : LineOk L) {S : Stt} (h : StV L S) {p : Str × Str} (f : FrOk L p) : f_reach_of [.fz (.dic (lineK L)), .fz (.dic (sttK S)), .fz (.str p.1), .fz (.str p.2)] = some (.fz (ivD (some (rc L S p))), [.fz (.dic (lineK L)), .fz (.dic (sttK S)), .fz (.str p.1), .fz (.str p.2)]) := by
  obtain ⟨a, ha⟩ := f.a
  obtain ⟨b, hb⟩ := f.b
  have k1 := kind_of_ev ok h f
  have k2 := reach_ev (k := kd L S p) ha hb
  unfold rc
  rw [pos_of ha, pos_of hb]
  simp only [frD] at k2
  simp [f_reach_of, b_reach_of, defF_ev, startE, kpl, List.replicate, k1, k2]
end LW

set_option Elab.async false
set_option maxRecDepth 100000
set_option exponentiation.threshold 100000
namespace LW
open PySem FL
/-! ### the reel -/
structure Spr where
  g : List Int
  x : List Int
  n : Int
  s : Int
def Spr.D (p : Spr) : FL.D := .lst [.lst (p.g.map .int), .lst (p.x.map .int), .int p.n, .int p.s]
structure SprOk (B : Nat) (p : Spr) : Prop where
  g0 : ∀ c ∈ p.g, 0 ≤ c
  gl : p.g.length ≤ 63
  x0 : ∀ e ∈ p.x, 0 ≤ e ∧ e < 1000003
  xl : p.x.length ≤ 64
  xn : 1 ≤ p.x.length
  s0 : 0 ≤ p.s
  s1 : p.s < 10000000000000000000000000000000000000000
  n0 : 0 ≤ p.n
  n1 : p.n ≤ B
theorem SprOk.up {B B' : Nat} {q : Spr} (h : SprOk B q) (e : B ≤ B') : SprOk B' q := ⟨h.g0, h.gl, h.x0, h.xl, h.xn, h.s0, h.s1, h.n0, by have := h.n1; omega⟩
theorem at_int2 {l : List Int} {k : Int} (h0 : 0 ≤ k) (h1 : k < l.length) : ∃ e ∈ l, L2.atI (l.map FL.D.int) k = some (.int e) := by
  have i : k.toNat < l.length := by omega
  refine ⟨l[k.toNat], List.getElem_mem _, ?_⟩
  rw [at_int h0 (by rw [List.length_map]; exact h1), List.getElem?_map, List.getElem?_eq_getElem i]
  rfl
@[simp] theorem ixq0 : L2.ixN 4 0 = some 0 := rfl
@[simp] theorem ixq2 : L2.ixN 4 2 = some 2 := rfl
@[simp] theorem ixq3 : L2.ixN 4 3 = some 3 := rfl
@[simp] theorem atq3 {α : Type} {a b c d : α} : L2.atI [a, b, c, d] 3 = some d := rfl
theorem cut_tail (x : Int) (l : List Int) : cutD ((x :: l).map FL.D.int) (some 1) none = l.map .int := by
  unfold cutD
  rw [HT.sIx_none]
  have e : HT.sIx ((x :: l).map FL.D.int).length 0 (some 1) = 1 := by
    have := HT.sIx_nat ((x :: l).map FL.D.int).length 0 1
    rw [List.length_map, List.length_cons] at this ⊢
    rw [show ((1 : Nat) : Int) = 1 from rfl] at this
    rw [this]
    omega
  rw [e, List.map_cons, List.drop_one, List.tail_cons, List.length_cons, Nat.add_sub_cancel, List.take_of_length_le (Nat.le_refl _)]
theorem draw_ok {B : Nat} {p : Spr} (hB : B ≤ 1000000000) (h : SprOk B p) {m : Int} (h0 : 0 < m) (h1 : m < 2 ^ 200) :
    ∃ k q, f__law_draw [.ow p.D, .fz (.int m)] = some (.fz (.int k), [.ow (Spr.D q), .fz (.int m)]) ∧ 0 ≤ k ∧ k < m ∧ SprOk (B + 1) q := by
  obtain ⟨g, x, n, s⟩ := p
  obtain ⟨g0, gl, x0, xl, xn, s0, s1, n0, n1⟩ := h
  simp only at g0 gl x0 xl xn s0 s1 n0 n1
  have hm : m.natAbs < 2 ^ 256 := by
    have : m.natAbs < 2 ^ 200 := by omega
    exact Nat.lt_trans this (by decide)
  cases g with
  | cons r g =>
    have ne := ne_nil (xs := (r :: g).map FL.D.int) (flat_ints 39 (r :: g))
    have em : ((r :: g).map FL.D.int).isEmpty = false := rfl
    rw [em] at ne
    have ct := cut_tail r g
    have r0 := g0 r List.mem_cons_self
    rw [List.length_cons] at gl
    have sl : ∀ k, k ≤ 100 → k ≤ sizeLine := fun k hk => line8 (by omega)
    have q0 : 0 ≤ r % m := Int.emod_nonneg _ (by omega)
    have q1 : r % m < m := Int.emod_lt_of_pos _ h0
    by_cases c : m ≤ r
    · have l1 := sl (1 + g.length) (by omega)
      have l2 := sl (List.replicate 1 [FL.D.int (r / m)]).flatten.length (by simp)
      refine ⟨r % m, ⟨r / m :: g, x, n, s⟩, ?_, q0, q1, ⟨fun c hc => ?_, by simpa using gl, x0, xl, xn, s0, s1, n0, by simp only; omega⟩⟩
      · simp only [List.map_cons] at ne ct
        simp [f__law_draw, b__law_draw, defF_ev, startE, kpl, List.replicate, Spr.D, ne, h0, hm, c, repR, slc_ev, part_cst, ct, l1]
      · rcases List.mem_cons.mp hc with e | e
        · rw [e]; exact Int.ediv_nonneg r0 (by omega)
        · exact g0 c (List.mem_cons_of_mem _ e)
    · have l1 := sl (0 + g.length) (by omega)
      rw [Nat.zero_add] at l1
      refine ⟨r % m, ⟨g, x, n, s⟩, ?_, q0, q1, ⟨fun c hc => g0 c (List.mem_cons_of_mem _ hc), by simp only; omega, x0, xl, xn, s0, s1, n0, by simp only; omega⟩⟩
      simp only [List.map_cons] at ne ct
      simp [f__law_draw, b__law_draw, defF_ev, startE, kpl, List.replicate, Spr.D, ne, h0, hm, c, repR, slc_ev, part_cst, ct, l1]
  | nil =>
    have ne := ne_nil (xs := []) rfl
    have sm : ∀ i : Int, 0 ≤ i → i < 2 ^ 200 → i.natAbs < big := fun i a b => small_big (k := 200) (by decide) (by omega)
    have xp : (0 : Int) < (x.length : Int) := by omega
    have xq : 0 < x.length := by omega
    have k0 : 0 ≤ (n + 1) % (x.length : Int) := Int.emod_nonneg _ (by omega)
    have k1 : (n + 1) % (x.length : Int) < x.length := Int.emod_lt_of_pos _ xp
    obtain ⟨e, em, ee⟩ := at_int2 k0 k1
    obtain ⟨e0, e1⟩ := x0 e em
    have b1 := sm s s0 (by omega)
    have b2 := sm (e + 11) (by omega) (by omega)
    have b3 := sm (n + 1) (by omega) (by omega)
    have b4 : 32452867 < big := small_big (k := 64) (by decide) (by decide)
    have b5 : 999953 < big := small_big (k := 64) (by decide) (by decide)
    have b6 : 18446744073709551616 < big := small_big (k := 100) (by decide) (by decide)
    have b7 : 9223372036854775808 < big := small_big (k := 100) (by decide) (by decide)
    have v0 : 0 ≤ (s * s + (e + 11) * 32452867 + (n + 1) * 999953) % 170141183460469231731687303715884105727 := Int.emod_nonneg _ (by decide)
    have v1 : (s * s + (e + 11) * 32452867 + (n + 1) * 999953) % 170141183460469231731687303715884105727 < 170141183460469231731687303715884105727 := Int.emod_lt_of_pos _ (by decide)
    generalize hV : (s * s + (e + 11) * 32452867 + (n + 1) * 999953) % 170141183460469231731687303715884105727 = V at *
    refine ⟨V / 2199023255552 % m, ⟨[], x, n + 1, V⟩, ?_, Int.emod_nonneg _ (by omega), Int.emod_lt_of_pos _ h0, ⟨g0, by simp, x0, xl, xn, v0, Int.lt_trans v1 (by decide), by simp only; omega, by simp only; omega⟩⟩
    simp at ne
    simp [f__law_draw, b__law_draw, defF_ev, startE, kpl, List.replicate, Spr.D, ne, h0, hm, xq, ee, b1, b2, b3, b4, b5, b6, b7, hV]
end LW

set_option Elab.async false
set_option maxRecDepth 100000
set_option exponentiation.threshold 100000
namespace LW
open PySem FL
def fzq (p : Option FL.D) : Option T := p.map .fz
@[simp] theorem fzq_s (d : FL.D) : fzq (some d) = some (.fz d) := rfl
@[simp] theorem fzq_n : fzq none = none := rfl
@[simp] theorem okS_fzq (p : Option FL.D) : okS (fzq p) = true := by cases p <;> rfl
theorem reel_go (scr : FL.D) : ∀ (l : List Int) (s : Int) (c : Option FL.D), 0 ≤ s → s < 10 ^ 40 →
    ∃ s' c', forGo (gNm 2) l__law_reel_1 (l.map .int) [some (.fz scr), some (.fz (.int s)), fzq c, none] = some (.nx, [some (.fz scr), some (.fz (.int s')), fzq c', none]) ∧ 0 ≤ s' ∧ s' < 10 ^ 40
  | [], s, c, s0, s1 => ⟨s, c, rfl, s0, s1⟩
  | i :: l, s, c, s0, s1 => by
    have b1 : s.natAbs < big := small_big (k := 200) (by decide) (by omega)
    have b6 : 18446744073709551616 < big := small_big (k := 100) (by decide) (by decide)
    have b7 : 9223372036854775808 < big := small_big (k := 100) (by decide) (by decide)
    have v0 : 0 ≤ (s * s + i % 1000000000000000003 + 29) % 170141183460469231731687303715884105727 := Int.emod_nonneg _ (by decide)
    have v1 : (s * s + i % 1000000000000000003 + 29) % 170141183460469231731687303715884105727 < 170141183460469231731687303715884105727 := Int.emod_lt_of_pos _ (by decide)
    obtain ⟨s', c', e, h⟩ := reel_go scr l ((s * s + i % 1000000000000000003 + 29) % 170141183460469231731687303715884105727) (some (.int i)) v0 (Int.lt_trans v1 (by decide))
    refine ⟨s', c', ?_, h⟩
    rw [List.map_cons, forGo_cons (ρ1 := [some (.fz scr), some (.fz (.int s)), fzq (some (.int i)), none]) (by simp) (ρ2 := [some (.fz scr), some (.fz (.int ((s * s + i % 1000000000000000003 + 29) % 170141183460469231731687303715884105727))), fzq (some (.int i)), none]) ?_, e]
    simp [l__law_reel_1, b1, b6, b7]
theorem reel_ok (ns : List Int) (h : ns.length ≤ 63) : ∃ q, f__law_reel [.fz (.lst (ns.map .int))] = some (.nw (.ow (Spr.D q)), [.fz (.lst (ns.map .int))]) ∧ SprOk 0 q := by
  obtain ⟨l, e, hl⟩ := cut_map ns none (some 63)
  obtain ⟨s, c, go, s0, s1⟩ := reel_go (.lst (ns.map .int)) l (29 ^ 27) none (by decide) (by decide)
  have go1 := lc_gen (vs := [2]) (g := gNm 2) (Ft := some (bin (op2 .ge) (vr 2) (bin (op2 .pow) (cst (.int 10)) (cst (.int 18))))) (Fe := bin (op2 .sub) (vr 2) (bin (op2 .pow) (cst (.int 10)) (cst (.int 18)))) (ρ := [some (.fz (.lst (ns.map .int))), some (.fz (.int s)), none, none])
    (st := fun y => [some (.fz (.lst (ns.map .int))), some (.fz (.int s)), some (.fz y), none])
    (c := fun y => match y with
      | .int i => decide (10 ^ 18 ≤ i)
      | _ => false) (f := fun y => match y with
      | .int i => .int (i - 10 ^ 18)
      | _ => .non) (xs := l.map .int) (acc := [])
    (fun y hy => by simp) (fun y hy => by
      obtain ⟨i, _, rfl⟩ := List.mem_map.mp hy
      simp) (fun y hy _ => by
      obtain ⟨i, _, rfl⟩ := List.mem_map.mp hy
      exact ⟨.fz (.int (i - 10 ^ 18)), by simp, rfl⟩) (fun y hy => by simp) (by simp; exact line8 (by omega))
  have em1 : (((l.map FL.D.int).filter fun y => match y with
      | .int i => decide (10 ^ 18 ≤ i)
      | _ => false).map fun y => match y with
      | .int i => FL.D.int (i - 10 ^ 18)
      | _ => FL.D.non) = ((l.filter fun i => decide (10 ^ 18 ≤ i)).map fun i => i - 10 ^ 18).map .int := by
    rw [List.filter_map, List.map_map, List.map_map]
    rfl
  rw [em1, List.nil_append] at go1
  have go2 := lc_gen (vs := [2]) (g := gNm 2) (Ft := none) (Fe := bin (op2 .mod) (vr 2) (cst (.int 1000003))) (ρ := [some (.fz (.lst (ns.map .int))), some (.fz (.int s)), none, some (.ow (.lst (((l.filter fun i => decide (10 ^ 18 ≤ i)).map fun i => i - 10 ^ 18).map .int)))])
    (st := fun y => [some (.fz (.lst (ns.map .int))), some (.fz (.int s)), some (.fz y), some (.ow (.lst (((l.filter fun i => decide (10 ^ 18 ≤ i)).map fun i => i - 10 ^ 18).map .int)))])
    (c := fun _ => true) (f := fun y => match y with
      | .int i => .int (i % 1000003)
      | _ => .non) (xs := l.map .int) (acc := [])
    (fun y hy => by simp) (fun y hy => rfl) (fun y hy _ => by
      obtain ⟨i, _, rfl⟩ := List.mem_map.mp hy
      exact ⟨.fz (.int (i % 1000003)), by simp, rfl⟩) (fun y hy => by simp) (by simp; exact line8 (by omega))
  have em2 : (((l.map FL.D.int).filter fun _ => true).map fun y => match y with
      | .int i => FL.D.int (i % 1000003)
      | _ => FL.D.non) = (l.map fun i => i % 1000003).map .int := by
    rw [List.filter_eq_self.mpr (fun _ _ => rfl), List.map_map, List.map_map]
    rfl
  rw [em2, List.nil_append] at go2
  have fl := List.length_filter_le (fun i => decide ((10 : Int) ^ 18 ≤ i)) l
  refine ⟨⟨(l.filter fun i => decide (10 ^ 18 ≤ i)).map fun i => i - 10 ^ 18, (l.map fun i => i % 1000003) ++ [57], 0, s⟩, ?_, ⟨fun c hc => ?_, by simp only [List.length_map]; omega, fun e he => ?_, by simp; omega, by simp, s0, s1, Int.le_refl _, Int.le_refl _⟩⟩
  · have l1 : l.length + 1 ≤ sizeLine := line8 (by omega)
    simp only [List.map_map] at go1 go2
    simp only [Int.reducePow, fzq_n] at go go1 go2
    simp [f__law_reel, b__law_reel, defF_ev, startE, kpl, List.replicate, slc_ev, part_cst, e, go, go1, go2, l1, Spr.D]
  · obtain ⟨i, hi, rfl⟩ := List.mem_map.mp hc
    have := of_decide_eq_true (List.mem_filter.mp hi).2
    omega
  · rcases List.mem_append.mp he with z | z
    · obtain ⟨i, _, rfl⟩ := List.mem_map.mp z
      exact ⟨Int.emod_nonneg _ (by decide), Int.emod_lt_of_pos _ (by decide)⟩
    · simp at z
      rw [z]
      decide
end LW

set_option Elab.async false
set_option maxRecDepth 100000
set_option exponentiation.threshold 100000
namespace LW
open PySem FL
/-! ### lines of hosts -/
def P1 : List Str := (letters.cps.toList.map fun c => (⟨#[c]⟩ : Str)) ++ (["ab", "ba", "zz", "abcdefgh", "all", "flood"] : List Str) ++ (["ha", "hb", "hc", "hd", "he", "hf", "hg", "hh", "hi", "hj"] : List Str)
theorem P1_len : P1.length = 42 := by decide +kernel
theorem P1_nodup : P1.Nodup := by decide +kernel
theorem P1_host : P1.all hostB = true := by decide +kernel
theorem chars_let : listF (.str "abcdefghijklmnopqrstuvwxyz") = some (.nw (.ow (.lst ((letters.cps.toList.map fun c => (⟨#[c]⟩ : Str)).map .str)))) := by
  show (if (letters : Str).cps.size ≤ sizeLine then some (R.nw (.ow (.lst (charsOf letters)))) else none) = _
  rw [if_pos (line8 (by decide +kernel))]
  unfold charsOf
  rw [List.map_map]
  rfl
theorem let_len : (letters.cps.toList.map fun c => (⟨#[c]⟩ : Str)).length = 26 := by decide +kernel
def envN (q : Spr) (m way cnt : FL.D) (L : Line) (P : List Str) (pl : Int) (c : Option FL.D) : En := [some (.ow q.D), some (.fz m), some (.fz way), some (.fz cnt), some (.ow (.dic (lineK L))), some (.ow (.lst (P.map .str))), some (.fz (.int pl)), fzq c, none, none, none, none]
theorem mix_go (a1 a2 a3 a4 a5 a6 : Option T) : ∀ (xs : List FL.D) (acc : List FL.D) (P : List Str) (q : Spr) (B : Nat), xs.length ≤ P.length → P.length ≤ 1000 → acc.length + xs.length ≤ 1000 → SprOk B q → B + xs.length ≤ 1000000 →
    ∃ (ys P' : List Str) (q' : Spr), lcGo [7] (gNm 7) none (mtF paD (vr 8) [cll [vr 0, cal (d1 lenF) [vr 8]] [] f__law_draw]) xs acc [some (.ow q.D), a1, a2, a3, a4, a5, a6, none, some (.ow (.lst (P.map .str))), none, none, none] = some (acc ++ ys.map .str, [some (.ow (Spr.D q')), a1, a2, a3, a4, a5, a6, none, some (.ow (.lst (P'.map .str))), none, none, none]) ∧ ys.length = xs.length ∧ (ys ++ P').Perm P ∧ SprOk (B + xs.length) q'
  | [], acc, P, q, B, h1, h2, h3, h4, h5 => ⟨[], P, q, by simp [lcGo], rfl, List.Perm.refl _, h4⟩
  | x :: xs, acc, P, q, B, h1, h2, h3, h4, h5 => by
    rw [List.length_cons] at h1 h3 h5
    obtain ⟨k, q1, e1, k0, k1, o1⟩ := draw_ok (B := B) (p := q) (by omega) h4 (m := ((P.length : Nat) : Int)) (by omega) (by omega)
    have hk : k.toNat < P.length := by omega
    have hz : acc.length < sizeLine := Nat.lt_of_lt_of_le (show acc.length < 1000 by omega) (line8 (Nat.le_refl _))
    have pa := paD_ev (xs := P.map .str) (k := k) (y := .str P[k.toNat]) k0 (by rw [List.length_map]; exact k1) (by rw [List.length_map]; exact h2) (by rw [List.getElem?_map, List.getElem?_eq_getElem hk]; rfl)
    rw [erase_map] at pa
    have hl : (P.eraseIdx k.toNat).length = P.length - 1 := List.length_eraseIdx_of_lt hk
    obtain ⟨ys, P', q', e2, l2, p2, o2⟩ := mix_go a1 a2 a3 a4 a5 a6 xs (acc ++ [.str P[k.toNat]]) (P.eraseIdx k.toNat) q1 (B + 1) (by omega) (by omega) (by rw [List.length_append, List.length_singleton]; omega) o1 (by omega)
    refine ⟨P[k.toNat] :: ys, P', q', ?_, by simp [l2], ?_, o2.up (by rw [List.length_cons]; omega)⟩
    · simp [lcGo, mtF_ev, e1, pa, hz]
      rw [e2]
      simp
    · exact (List.Perm.cons _ p2).trans (erase_perm hk)
theorem pos_map {L : Line} (nd : (L.map (·.1)).Nodup) : (L.map (·.1)).map (fun y => (y, posL L y)) = L := by
  rw [List.map_map]
  conv => rhs; rw [← List.map_id L]
  refine List.map_congr_left fun p hp => ?_
  show (p.1, posL L p.1) = p
  have : L.lookup p.1 = some p.2 := by
    have : ∀ {L : Line}, (L.map (·.1)).Nodup → p ∈ L → L.lookup p.1 = some p.2 := by
      intro L
      induction L with
      | nil => intro _ h; cases h
      | cons z L ih =>
        intro nd h
        rw [List.map_cons, List.nodup_cons] at nd
        obtain ⟨y, b⟩ := z
        rw [List.lookup_cons]
        rcases List.mem_cons.mp h with e | hm
        · rw [e]; simp
        · cases q : (p.1 == y) with
          | true =>
            have := beq_iff_eq.mp q
            exact absurd (show y ∈ L.map (·.1) from List.mem_map.mpr ⟨p, hm, this⟩) nd.1
          | false => exact ih nd.2 hm
    exact this nd hp
  rw [pos_of this]
theorem LineOk.perm {L M : Line} (ok : LineOk L) (p : M.Perm L) : LineOk M := by
  refine ⟨by rw [p.length_eq]; exact ok.one, by rw [p.length_eq]; exact ok.most, fun q hq => ok.host q (p.mem_iff.mp hq), fun q hq => ok.lo q (p.mem_iff.mp hq), fun q hq => ok.hi q (p.mem_iff.mp hq), (p.map _).nodup_iff.mpr ok.ndh, (p.map _).nodup_iff.mpr ok.ndp⟩
end LW

set_option Elab.async false
set_option maxRecDepth 100000
set_option exponentiation.threshold 100000
namespace LW
open PySem FL
theorem h_go (ρ1 ρ2 ρ3 ρ4 ρ5 ρ6 ρ7 ρ8 ρ9 ρa ρc : Option T) : lcGo [10] (gNm 10) none (bin (op2 .add) (cst (.str "h")) (vr 10)) (charsOf "abcdefghij") [] [ρ1, ρ2, ρ3, ρ4, ρ5, ρ6, ρ7, ρ8, ρ9, ρa, none, ρc] = some ((["ha", "hb", "hc", "hd", "he", "hf", "hg", "hh", "hi", "hj"] : List Str).map .str, [ρ1, ρ2, ρ3, ρ4, ρ5, ρ6, ρ7, ρ8, ρ9, ρa, none, ρc]) := by
  have go := lc_gen (vs := [10]) (g := gNm 10) (Ft := none) (Fe := bin (op2 .add) (cst (.str "h")) (vr 10)) (ρ := [ρ1, ρ2, ρ3, ρ4, ρ5, ρ6, ρ7, ρ8, ρ9, ρa, none, ρc])
    (st := fun y => [ρ1, ρ2, ρ3, ρ4, ρ5, ρ6, ρ7, ρ8, ρ9, ρa, some (.fz y), ρc])
    (c := fun _ => true) (f := fun y => match y with
      | .str c => .str ("h" ++ c)
      | _ => .non) (xs := charsOf "abcdefghij") (acc := [])
    (fun y hy => by simp) (fun y hy => rfl) (fun y hy _ => by
      unfold charsOf at hy
      obtain ⟨k, _, rfl⟩ := List.mem_map.mp hy
      have l2 : ("h" : Str).length + (⟨#[k]⟩ : Str).length ≤ sizeLine := line8 (show 1 + 1 ≤ 1000 by decide)
      exact ⟨.fz (.str ("h" ++ ⟨#[k]⟩)), by simp [l2], rfl⟩) (fun y hy => by simp) (by rw [charsOf_length]; exact line8 (by decide))
  rw [go, List.nil_append]
  congr 1
end LW

set_option Elab.async false
set_option maxRecDepth 100000
set_option exponentiation.threshold 100000
namespace LW
open PySem FL
theorem seq_step {A B : Ss} {ρ ρ1 : En} (h : A ρ = some (.nx, ρ1)) : seqF A B ρ = B ρ1 := by
  show ((A ρ).bind fun p => match p.1 with
    | .nx => B p.2
    | fl => some (fl, p.2)) = _
  rw [h]
  rfl
def envS (q : Spr) (L : Line) (m : FL.D) (hs : List Str) (fs : Frs) (way : Int) (few : List Str) (a b c d : Option T) : En := [some (.ow q.D), some (.fz (.dic (lineK L))), some (.fz m), some (.fz (.lst (hs.map .str))), some (.ow (.lst (frsL fs))), some (.fz (.int way)), some (.fz (.lst (few.map .str))), a, b, c, d, none]
theorem at_str {l : List Str} {k : Int} (h0 : 0 ≤ k) (h1 : k < l.length) : ∃ e ∈ l, L2.atI (l.map FL.D.str) k = some (.str e) := by
  have i : k.toNat < l.length := by omega
  refine ⟨l[k.toNat], List.getElem_mem _, ?_⟩
  rw [at_int h0 (by rw [List.length_map]; exact h1), List.getElem?_map, List.getElem?_eq_getElem i]
  rfl
theorem others_go (ρ0 ρ1 ρ2 ρ3 ρ4 ρ5 ρ6 ρ7 ρ8 ρt : Option T) (s : Str) (P : List Str) (hP : P.length ≤ 1000) :
    lcGo [11] (gNm 11) (some (bin (op2 .ne) (vr 11) (vr 9))) (vr 11) (P.map .str) [] [ρ0, ρ1, ρ2, ρ3, ρ4, ρ5, ρ6, ρ7, ρ8, some (.fz (.str s)), ρt, none] = some ((P.filter fun x => !(x == s)).map .str, [ρ0, ρ1, ρ2, ρ3, ρ4, ρ5, ρ6, ρ7, ρ8, some (.fz (.str s)), ρt, none]) := by
  have go := lc_gen (vs := [11]) (g := gNm 11) (Ft := some (bin (op2 .ne) (vr 11) (vr 9))) (Fe := vr 11) (ρ := [ρ0, ρ1, ρ2, ρ3, ρ4, ρ5, ρ6, ρ7, ρ8, some (.fz (.str s)), ρt, none])
    (st := fun y => [ρ0, ρ1, ρ2, ρ3, ρ4, ρ5, ρ6, ρ7, ρ8, some (.fz (.str s)), ρt, some (.fz y)])
    (c := fun y => match y with
      | .str x => !(x == s)
      | _ => false) (f := fun y => y) (xs := P.map .str) (acc := [])
    (fun y hy => by simp) (fun y hy => by
      obtain ⟨x, _, rfl⟩ := List.mem_map.mp hy
      simp) (fun y hy _ => ⟨.fz y, by simp, rfl⟩) (fun y hy => by simp) (by simp; exact line8 hP)
  rw [go, List.nil_append, List.map_id', List.filter_map]
  rfl
theorem flat_strs (P : List Str) : (P.map FL.D.str).all (flat 39) = true := List.all_eq_true.mpr fun x hx => by
  obtain ⟨p, _, rfl⟩ := List.mem_map.mp hx
  rfl
theorem flat_frs (fs : Frs) : (frsL fs).all (flat 39) = true := List.all_eq_true.mpr fun x hx => by
  obtain ⟨p, _, rfl⟩ := List.mem_map.mp hx
  rfl
theorem send_ev {L : Line} {m : FL.D} {hs few : List Str} {way : Int} (nd : hs.Nodup) (h2 : 2 ≤ hs.length) (h3 : hs.length ≤ 63) (f1 : 1 ≤ few.length) (f2 : few.length ≤ 63) (fin : ∀ x ∈ few, x ∈ hs) {fs : Frs} (ff : ∀ p ∈ fs, p.1 ∈ hs ∧ p.2 ∈ hs ∧ p.1 ≠ p.2) (fl : fs.length < 999) {q : Spr} {B : Nat} (o : SprOk B q) (hB : B + 10 ≤ 1000000) (a b c d : Option T) :
    ∃ (s t : Str) (q' : Spr) (b' d' : Option T), l__law_sends_1 (envS q L m hs fs way few a b c d) = some (.nx, envS q' L m hs (fs ++ [(s, t)]) way few a b' (some (.fz (.str s))) d') ∧ s ∈ hs ∧ t ∈ hs ∧ s ≠ t ∧ SprOk (B + 4) q' := by
  -- the pool
  obtain ⟨P, q1, s1, hP, o1⟩ : ∃ (P : List Str) (q1 : Spr), (setF 8 (frF (iteF' (andF (bin (op2 .eq) (vr 5) (cst (.int 1))) (bin (op2 .gt) (cll [(vr 0), (cst (.int 4))] [] f__law_draw) (cst (.int 0)))) (vr 6) (vr 3)))) (envS q L m hs fs way few a b c d) = some (.nx, envS q1 L m hs fs way few a (some (.fz (.lst (P.map .str)))) c d) ∧ (P = few ∨ P = hs) ∧ SprOk (B + 1) q1 := by
    by_cases w : way = 1
    · subst w
      obtain ⟨k, q1, e1, k0, k1, o1⟩ := draw_ok (B := B) (p := q) (by omega) o (m := 4) (by decide) (by decide)
      by_cases z : 0 < k
      · exact ⟨few, q1, by simp [envS, e1, z], .inl rfl, o1⟩
      · exact ⟨hs, q1, by simp [envS, e1, z], .inr rfl, o1⟩
    · exact ⟨hs, q, by simp [envS, w], .inr rfl, o.up (by omega)⟩
  have Pl : 1 ≤ P.length ∧ P.length ≤ 63 := by rcases hP with e | e <;> rw [e] <;> omega
  have Pin : ∀ x ∈ P, x ∈ hs := fun x hx => by
    rcases hP with e | e
    · rw [e] at hx; exact fin x hx
    · rw [e] at hx; exact hx
  -- the sender
  obtain ⟨k, q2, e2, k0, k1, o2⟩ := draw_ok (B := B + 1) (p := q1) (by omega) o1 (m := ((P.length : Nat) : Int)) (by omega) (by omega)
  obtain ⟨s0, s0P, es0⟩ := at_str k0 k1
  have s2 : (setF 9 (bin ixD (vr 8) (cll [(vr 0), (cal (d1 lenF) [(vr 8)])] [] f__law_draw))) (envS q1 L m hs fs way few a (some (.fz (.lst (P.map .str)))) c d) = some (.nx, envS q2 L m hs fs way few a (some (.fz (.lst (P.map .str)))) (some (.fz (.str s0))) d) := by
    simp [envS, e2, es0]
  obtain ⟨s, q3, s3, sin, o3⟩ : ∃ (s : Str) (q3 : Spr), (ifF (andF (bin (op2 .eq) (vr 5) (cst (.int 2))) (andF (bin (op2 .ne) (vr 4) (froz [] lstF)) (bin (op2 .eq) (cll [(vr 0), (cst (.int 2))] [] f__law_draw) (cst (.int 0))))) (setF 9 (bin ixD (bin ixD (vr 4) (uno ngD (cst (.int 1)))) (cst (.int 1)))) nxF) (envS q2 L m hs fs way few a (some (.fz (.lst (P.map .str)))) (some (.fz (.str s0))) d) = some (.nx, envS q3 L m hs fs way few a (some (.fz (.lst (P.map .str)))) (some (.fz (.str s))) d) ∧ s ∈ hs ∧ SprOk (B + 3) q3 := by
    by_cases w : way = 2
    · subst w
      have ne := ne_nil (flat_frs fs)
      rcases List.eq_nil_or_concat fs with e | ⟨gs, p, e⟩
      · subst e
        exact ⟨s0, q2, by simp [frsL] at ne; simp [envS, frsL, ne], Pin _ s0P, o2.up (by omega)⟩
      · rw [List.concat_eq_append] at e
        have em : (frsL fs).isEmpty = false := by rw [e]; unfold frsL; simp
        rw [em] at ne
        obtain ⟨k, q3, e3, k0, k1, o3⟩ := draw_ok (B := B + 1 + 1) (p := q2) (by omega) o2 (m := 2) (by decide) (by decide)
        by_cases z : k = 0
        · have la : L2.atI (frsL fs) (-1) = some (frD p.1 p.2) := by
            rw [e]
            have : frsL (gs ++ [p]) = frsL gs ++ [frD p.1 p.2] := by unfold frsL; rw [List.map_append]; rfl
            rw [this]
            exact at_last
          have i1 : ixD (frD p.1 p.2) (.int 1) = some (.fz (.str p.2)) := rfl
          refine ⟨p.2, q3, by simp [envS, ne, e3, z, la, i1], (ff p (by rw [e]; simp)).2.1, o3⟩
        · exact ⟨s0, q3, by simp [envS, ne, e3, z], Pin _ s0P, o3⟩
    · exact ⟨s0, q2, by simp [envS, w], Pin _ s0P, o2.up (by omega)⟩
  -- the others
  have og := others_go (some (.ow q3.D)) (some (.fz (.dic (lineK L)))) (some (.fz m)) (some (.fz (.lst (hs.map .str)))) (some (.ow (.lst (frsL fs)))) (some (.fz (.int way))) (some (.fz (.lst (few.map .str)))) a (some (.fz (.lst (P.map .str))))
  have s4 : (setF 10 (lcF [11] (itV 8) (gNm 11) (some (bin (op2 .ne) (vr 11) (vr 9))) (vr 11))) (envS q3 L m hs fs way few a (some (.fz (.lst (P.map .str)))) (some (.fz (.str s))) d) = some (.nx, envS q3 L m hs fs way few a (some (.fz (.lst (P.map .str)))) (some (.fz (.str s))) (some (.ow (.lst ((P.filter fun x => !(x == s)).map .str))))) := by
    have g1 := og d s P (by omega)
    simp [envS, g1]
  obtain ⟨O, s5, oin, one, ol⟩ : ∃ O : List Str, (setF 10 (frF (iteF' (bin (op2 .ne) (vr 10) (froz [] lstF)) (vr 10) (lcF [11] (itV 3) (gNm 11) (some (bin (op2 .ne) (vr 11) (vr 9))) (vr 11))))) (envS q3 L m hs fs way few a (some (.fz (.lst (P.map .str)))) (some (.fz (.str s))) (some (.ow (.lst ((P.filter fun x => !(x == s)).map .str))))) = some (.nx, envS q3 L m hs fs way few a (some (.fz (.lst (P.map .str)))) (some (.fz (.str s))) (some (.fz (.lst (O.map .str))))) ∧ (∀ x ∈ O, x ∈ hs ∧ x ≠ s) ∧ O ≠ [] ∧ O.length ≤ 63 := by
    have ne := ne_nil (flat_strs (P.filter fun x => !(x == s)))
    by_cases z : P.filter (fun x => !(x == s)) = []
    · have g2 := og (some (.ow (.lst []))) s hs (by omega)
      rw [z] at ne ⊢
      refine ⟨hs.filter fun x => !(x == s), ?_, fun x hx => ⟨(List.mem_filter.mp hx).1, by simpa using (List.mem_filter.mp hx).2⟩, ?_, Nat.le_trans (List.length_filter_le _ _) h3⟩
      · simp at ne
        simp [envS, ne, g2]
      · intro e
        have hall : ∀ x ∈ hs, x = s := fun x hx => by
          cases q : (x == s) with
          | true => exact beq_iff_eq.mp q
          | false =>
            have : x ∈ hs.filter fun x => !(x == s) := List.mem_filter.mpr ⟨hx, by rw [q]; rfl⟩
            rw [e] at this; cases this
        match hs, h2, nd, hall with
        | x :: y :: r, _, nd, hall =>
          have e1 := hall x (by simp)
          have e2 := hall y (by simp)
          rw [List.nodup_cons] at nd
          exact nd.1 (by rw [e1, ← e2]; simp)
    · have em : ((P.filter fun x => !(x == s)).map FL.D.str).isEmpty = false := by
        cases q : P.filter (fun x => !(x == s)) with
        | nil => exact absurd q z
        | cons _ _ => rfl
      rw [em] at ne
      refine ⟨P.filter fun x => !(x == s), by simp [envS, ne], fun x hx => ⟨Pin _ (List.mem_filter.mp hx).1, by simpa using (List.mem_filter.mp hx).2⟩, z, Nat.le_trans (List.length_filter_le _ _) Pl.2⟩
  have Ol : 1 ≤ O.length := by
    cases O with
    | nil => exact absurd rfl one
    | cons _ _ => simp
  obtain ⟨k4, q4, e4, k40, k41, o4⟩ := draw_ok (B := B + 3) (p := q3) (by omega) o3 (m := ((O.length : Nat) : Int)) (by omega) (by omega)
  obtain ⟨t, tO, et⟩ := at_str k40 k41
  have ap := apD_ev (xs := frsL fs) (d := frD s t) (by unfold frsL; rw [List.length_map]; omega)
  have ef : frsL (fs ++ [(s, t)]) = frsL fs ++ [frD s t] := by unfold frsL; rw [List.map_append]; rfl
  have s6 : (exF (mtF apD (vr 4) [(froz [(vr 9), (bin ixD (vr 10) (cll [(vr 0), (cal (d1 lenF) [(vr 10)])] [] f__law_draw))] tupF)])) (envS q3 L m hs fs way few a (some (.fz (.lst (P.map .str)))) (some (.fz (.str s))) (some (.fz (.lst (O.map .str))))) = some (.nx, envS q4 L m hs (fs ++ [(s, t)]) way few a (some (.fz (.lst (P.map .str)))) (some (.fz (.str s))) (some (.fz (.lst (O.map .str))))) := by
    simp only [frD] at ap ef
    simp [envS, mtF_ev, e4, et, ap, ef]
  refine ⟨s, t, q4, some (.fz (.lst (P.map .str))), some (.fz (.lst (O.map .str))), ?_, sin, (oin t tO).1, fun e => (oin t tO).2 e.symm, o4⟩
  unfold l__law_sends_1
  rw [seq_step s1, seq_step s2, seq_step s3, seq_step s4, seq_step s5]
  exact s6
theorem sends_go {L : Line} {m : FL.D} {hs few : List Str} {way : Int} (nd : hs.Nodup) (h2 : 2 ≤ hs.length) (h3 : hs.length ≤ 63) (f1 : 1 ≤ few.length) (f2 : few.length ≤ 63) (fin : ∀ x ∈ few, x ∈ hs) : ∀ (xs : List FL.D) (fs : Frs) (q : Spr) (B : Nat) (a b c d : Option T), (∀ p ∈ fs, p.1 ∈ hs ∧ p.2 ∈ hs ∧ p.1 ≠ p.2) → fs.length + xs.length < 999 → SprOk B q → B + 4 * xs.length + 10 ≤ 1000000 →
    ∃ (gs : Frs) (q' : Spr) (a' b' c' d' : Option T), forGo (gNm 7) l__law_sends_1 xs (envS q L m hs fs way few a b c d) = some (.nx, envS q' L m hs gs way few a' b' c' d') ∧ gs.length = fs.length + xs.length ∧ (∀ p ∈ gs, p.1 ∈ hs ∧ p.2 ∈ hs ∧ p.1 ≠ p.2) ∧ SprOk (B + 4 * xs.length) q'
  | [], fs, q, B, a, b, c, d, ff, fl, o, hB => ⟨fs, q, a, b, c, d, by simp [forGo], by simp, ff, o⟩
  | x :: xs, fs, q, B, a, b, c, d, ff, fl, o, hB => by
    rw [List.length_cons] at fl hB
    obtain ⟨s, t, q1, b1, d1, e1, si, ti, st, o1⟩ := send_ev (L := L) (m := m) (few := few) (way := way) nd h2 h3 f1 f2 fin ff (by omega) o (by omega) (some (.fz x)) b c d
    obtain ⟨gs, q2, a2, b2, c2, d2, e2, l2, m2, o2⟩ := sends_go nd h2 h3 f1 f2 fin xs (fs ++ [(s, t)]) q1 (B + 4) (some (.fz x)) b1 (some (.fz (.str s))) d1 (fun p hp => by
      rcases List.mem_append.mp hp with z | z
      · exact ff p z
      · simp at z; rw [z]; exact ⟨si, ti, st⟩) (by rw [List.length_append, List.length_singleton]; omega) o1 (by omega)
    refine ⟨gs, q2, a2, b2, c2, d2, ?_, by rw [l2, List.length_append, List.length_singleton, List.length_cons]; omega, m2, o2.up (by rw [List.length_cons]; omega)⟩
    rw [forGo_cons (ρ1 := envS q L m hs fs way few (some (.fz x)) b c d) (by simp [envS]) e1, e2]
theorem take_map (hs : List Str) (n : Nat) : cutD (hs.map FL.D.str) none (some (n : Int)) = (hs.take n).map .str := by
  unfold cutD
  rw [HT.sIx_none, HT.sIx_nat, List.drop_zero, Nat.sub_zero, List.length_map]
  rcases Nat.le_total n hs.length with h | h
  · rw [Nat.min_eq_left h, List.map_take]
  · rw [Nat.min_eq_right h, List.take_of_length_le h, List.take_of_length_le (by rw [List.length_map]; exact Nat.le_refl _)]
theorem frs_in {L : Line} {fs : Frs} (h : ∀ p ∈ fs, p.1 ∈ L.map (·.1) ∧ p.2 ∈ L.map (·.1) ∧ p.1 ≠ p.2) : ∀ p ∈ fs, FrOk L p := fun p hp => by
  obtain ⟨a1, a2, a3⟩ := h p hp
  exact ⟨lookup_ex a1, lookup_ex a2, a3⟩
theorem sends_ok {B : Nat} {q : Spr} (hq : SprOk B q) {L : Line} (ok : LineOk L) {m : Int} (m0 : 0 ≤ m) (m1 : m ≤ 300) (hB : B + 2000 ≤ 1000000) :
    ∃ (fs : Frs) (q' : Spr), f__law_sends [.ow q.D, .fz (.dic (lineK L)), .fz (.int m)] = some (.nw (.ow (.lst (frsL fs))), [.ow (Spr.D q'), .fz (.dic (lineK L)), .fz (.int m)]) ∧ fs.length ≤ m.toNat ∧ (∀ p ∈ fs, FrOk L p) ∧ SprOk (B + 1300) q' := by
  have hm := ok.most
  have k1 := sorted_line L (by omega)
  have hl : (sortS (L.map (·.1))).length = L.length := by rw [sortS_len, List.length_map]
  have hn := sortS_nodup ok.ndh
  have hmem : ∀ x, x ∈ sortS (L.map (·.1)) ↔ x ∈ L.map (·.1) := fun x => (sortS_perm _).mem_iff
  have one := ok.one
  generalize sortS (L.map (·.1)) = hs at *
  obtain ⟨k, q1, e1, k0, k1', o1⟩ := draw_ok (B := B) (p := q) (by omega) hq (m := 3) (by decide) (by decide)
  have tk := take_map hs 3
  rw [show ((3 : Nat) : Int) = 3 from rfl] at tk
  have b1 : m.natAbs < big := small_big (k := 64) (by decide) (by omega)
  have b2 : 1 < big := small_big (k := 64) (by decide) (by decide)
  have b3 : 0 < big := small_big (k := 64) (by decide) (by decide)
  by_cases c : 1 < hs.length
  · have it := itR1_int (F := bin (op2 .mul) (vr 2) (cal (d1 intF) [(bin (op2 .gt) (cal (d1 lenF) [(vr 3)]) (cst (.int 1)))])) (ρ := envS q1 L (.int m) hs [] k (hs.take 3) none none none none) (ρ' := envS q1 L (.int m) hs [] k (hs.take 3) none none none none) (j := m) (by
      have c' : (1 : Int) < (hs.length : Int) := by omega
      simp [envS, c, c', b1, b2]) m0 (by omega)
    have hr : (rangeD 0 m).length = m.toNat := by unfold rangeD; simp
    obtain ⟨gs, q', a', b', c', d', go, l2, m2, o2⟩ := sends_go (L := L) (m := .int m) (few := hs.take 3) (way := k) hn (by omega) (by omega) (by rw [List.length_take]; omega) (by rw [List.length_take]; omega) (fun x hx => List.mem_of_mem_take hx) (rangeD 0 m) [] q1 (B + 1) none none none none (fun p hp => by cases hp) (by rw [hr]; simp; omega) o1 (by rw [hr]; omega)
    refine ⟨gs, q', ?_, by rw [l2, hr]; simp, frs_in fun p hp => ⟨(hmem _).mp (m2 p hp).1, (hmem _).mp (m2 p hp).2.1, (m2 p hp).2.2⟩, o2.up (by rw [hr]; omega)⟩
    simp only [envS, frsL, List.map_nil, List.map_take] at go it
    simp only [frsL]
    simp [f__law_sends, b__law_sends, defF_ev, startE, kpl, List.replicate, k1, e1, slc_ev, part_cst, tk, it, go]
  · have it := itR1_int (F := bin (op2 .mul) (vr 2) (cal (d1 intF) [(bin (op2 .gt) (cal (d1 lenF) [(vr 3)]) (cst (.int 1)))])) (ρ := envS q1 L (.int m) hs [] k (hs.take 3) none none none none) (ρ' := envS q1 L (.int m) hs [] k (hs.take 3) none none none none) (j := 0) (by
      have c' : ¬ (1 : Int) < (hs.length : Int) := by omega
      simp [envS, c, c', b1, b3]) (Int.le_refl _) (by decide)
    have er : rangeD 0 0 = [] := rfl
    rw [er] at it
    refine ⟨[], q1, ?_, by simp, (fun p hp => by cases hp), o1.up (by omega)⟩
    simp only [envS, frsL, List.map_nil, List.map_take] at it
    simp only [frsL, List.map_nil]
    simp [f__law_sends, b__law_sends, defF_ev, startE, kpl, List.replicate, k1, e1, slc_ev, part_cst, tk, it, forGo]
end LW

set_option Elab.async false
set_option maxRecDepth 100000
set_option exponentiation.threshold 100000
namespace LW
open PySem FL
/-! ### room for repr -/
theorem hosts_ok {x : Str} (h : hostB x = true) : okT x = true ∧ x.length ≤ 8 := by
  unfold hostB at h
  obtain ⟨h, h3⟩ := Bool.and_eq_true_iff.mp h
  obtain ⟨h1, h2⟩ := Bool.and_eq_true_iff.mp h
  refine ⟨?_, of_decide_eq_true h2⟩
  unfold okT
  rw [List.all_eq_true]
  intro c hc
  have hc := of_decide_eq_true (List.all_eq_true.mp h3 c hc)
  have : ∀ c ∈ letters.cps.toList, c < 16 ^ 8 := by decide +kernel
  exact decide_eq_true (this c hc)
theorem okI_pos {p : Int} (h : -(10 ^ 30) ≤ p ∧ p ≤ 10 ^ 30) : okI p = true := decide_eq_true (Nat.lt_of_le_of_lt (show p.natAbs ≤ 10 ^ 30 by omega) (by decide))
theorem line_room {L : Line} (ok : LineOk L) (n : Nat) : okL (n + 1) (.dic (lineK L)) = true ∧ nod (.dic (lineK L)) ≤ 20000 := by
  have hm := ok.most
  refine ⟨?_, ?_⟩
  · simp only [okL]
    refine okLk_all fun x hx => ?_
    unfold lineK at hx
    obtain ⟨p, hp, rfl⟩ := List.mem_map.mp hx
    refine ⟨(hosts_ok (ok.host p hp)).1, ?_⟩
    cases n <;> (simp only [okL]; exact okI_pos ⟨ok.lo p hp, ok.hi p hp⟩)
  · simp only [nod]
    have h1 : nodK (lineK L) ≤ (lineK L).length * (400 + 2) := nodK_le fun x hx => by
      unfold lineK at hx
      obtain ⟨p, hp, rfl⟩ := List.mem_map.mp hx
      have := (hosts_ok (ok.host p hp)).2
      simp only [dOf, nod]
      omega
    have h2 : (lineK L).length = L.length := by unfold lineK; rw [List.length_map]
    rw [h2] at h1
    have h3 : L.length * (400 + 2) ≤ 40 * (400 + 2) := Nat.mul_le_mul_right _ hm
    omega
theorem frs_room {L : Line} (ok : LineOk L) {fs : Frs} (f : ∀ p ∈ fs, FrOk L p) (hl : fs.length ≤ 300) (n : Nat) : okL (n + 2) (.lst (frsL fs)) = true ∧ nod (.lst (frsL fs)) ≤ 10000 := by
  have hh : ∀ p ∈ fs, (okT p.1 = true ∧ p.1.length ≤ 8) ∧ (okT p.2 = true ∧ p.2.length ≤ 8) := fun p hp => by
    obtain ⟨a, ha⟩ := (f p hp).a
    obtain ⟨b, hb⟩ := (f p hp).b
    exact ⟨hosts_ok (ok.host _ (lookup_mem ha)), hosts_ok (ok.host _ (lookup_mem hb))⟩
  refine ⟨?_, ?_⟩
  · simp only [okL]
    refine okLs_all fun x hx => ?_
    obtain ⟨p, hp, rfl⟩ := List.mem_map.mp hx
    obtain ⟨⟨h1, _⟩, h2, _⟩ := hh p hp
    unfold frD
    simp only [okL]
    refine okLs_all fun x hx => ?_
    simp only [List.mem_cons, List.not_mem_nil, or_false] at hx
    rcases hx with rfl | rfl
    · cases n <;> (simp only [okL]; exact h1)
    · cases n <;> (simp only [okL]; exact h2)
  · simp only [nod]
    have h1 : nodL (frsL fs) ≤ (frsL fs).length * (25 + 1) := nodL_le fun x hx => by
      obtain ⟨p, hp, rfl⟩ := List.mem_map.mp hx
      obtain ⟨⟨_, h1⟩, _, h2⟩ := hh p hp
      unfold frD
      simp only [nod, nodL]
      omega
    have h2 : (frsL fs).length = fs.length := by unfold frsL; rw [List.length_map]
    rw [h2] at h1
    have h3 : fs.length * (25 + 1) ≤ 300 * (25 + 1) := Nat.mul_le_mul_right _ hl
    omega
theorem iv_nod {L : Line} (ok : LineOk L) {x : Str} {iv : Iv} (h : IvOk L x iv) (n : Nat) : okL (n + 1) (ivD iv) = true ∧ nod (ivD iv) ≤ 700 := by
  rcases iv with _ | ⟨u, v⟩
  · exact ⟨by simp [ivD, okL], by simp [ivD, nod]⟩
  · have hu : ∀ m, okL m (oD u) = true ∧ nod (oD u) ≤ 340 := fun m => by
      cases u with
      | none => exact ⟨by simp [oD, okL], by simp [oD, nod]⟩
      | some i =>
        refine ⟨?_, by simp [oD, nod]⟩
        have := pos_bound ok (h.1 i rfl).1
        simp only [oD]
        cases m <;> (simp only [okL]; exact okI_pos this)
    have hv : ∀ m, okL m (oD v) = true ∧ nod (oD v) ≤ 340 := fun m => by
      cases v with
      | none => exact ⟨by simp [oD, okL], by simp [oD, nod]⟩
      | some i =>
        refine ⟨?_, by simp [oD, nod]⟩
        have := pos_bound ok (h.2 i rfl).1
        simp only [oD]
        cases m <;> (simp only [okL]; exact okI_pos this)
    refine ⟨?_, ?_⟩
    · simp only [ivD, okL, okLs, (hu n).1, (hv n).1]; rfl
    · simp only [ivD, nod, nodL]
      have := (hu 0).2
      have := (hv 0).2
      omega
theorem stt_room {L : Line} (ok : LineOk L) {S : Stt} (h : StV L S) (n : Nat) : okL (n + 2) (.dic (sttK S)) = true ∧ nod (.dic (sttK S)) ≤ 30000 := by
  have hm := ok.most
  have hh : ∀ p ∈ S, okT p.1 = true ∧ p.1.length ≤ 8 := fun p hp => by
    obtain ⟨a, ha⟩ := h.inL p hp
    exact hosts_ok (ok.host _ (lookup_mem ha))
  refine ⟨?_, ?_⟩
  · simp only [okL]
    refine okLk_all fun x hx => ?_
    unfold sttK at hx
    obtain ⟨p, hp, rfl⟩ := List.mem_map.mp hx
    exact ⟨(hh p hp).1, (iv_nod ok (h.iv p hp) n).1⟩
  · simp only [nod]
    have h1 : nodK (sttK S) ≤ (sttK S).length * (740 + 2) := nodK_le fun x hx => by
      unfold sttK at hx
      obtain ⟨p, hp, rfl⟩ := List.mem_map.mp hx
      have := (hh p hp).2
      have := (iv_nod ok (h.iv p hp) 0).2
      simp only [dOf, nod]
      omega
    rw [sttK_len, h.ok.1] at h1
    have h3 : L.length * (740 + 2) ≤ 40 * (740 + 2) := Nat.mul_le_mul_right _ hm
    omega
theorem stt_shown {L : Line} (ok : LineOk L) {S : Stt} (h : StV L S) : reprF (.dic (sttK S)) = some (.fz (.str (shD (.dic (sttK S))))) := by
  obtain ⟨a, b⟩ := stt_room ok h 2
  exact reprF_ok (n := 4) a (by decide) (by omega)
theorem three_room {L : Line} (ok : LineOk L) {fs : Frs} (f : ∀ p ∈ fs, FrOk L p) (hl : fs.length ≤ 300) {S : Stt} (h : StV L S) : reprF (.lst [.dic (lineK L), .lst (frsL fs), .dic (sttK S)]) = some (.fz (.str (shD (.lst [.dic (lineK L), .lst (frsL fs), .dic (sttK S)])))) := by
  obtain ⟨a, b⟩ := line_room ok 2
  obtain ⟨c, d⟩ := frs_room ok f hl 1
  obtain ⟨e, g⟩ := stt_room ok h 1
  refine reprF_ok (n := 4) ?_ (by decide) ?_
  · simp only [okL, okLs]
    simp only [okL] at a c e
    rw [a, c, e]
    rfl
  · simp only [nod, nodL] at b d g ⊢
    omega
end LW

set_option Elab.async false
set_option maxRecDepth 100000
namespace LW
open PySem FL
section
variable {α : Type} {vs : List Nat} {g : Tg} {Fe Fk : Sm} {ρ : En} {inj : α → FL.D} {st : α → En} {f : α → FL.D}
/-- a comprehension over what the items mean -/
theorem lc_map : ∀ {xs : List α} {acc : List FL.D}, (∀ x ∈ xs, g (inj x) ρ = some (st x)) → (∀ x ∈ xs, ∃ r, Fe (st x) = some (r, st x) ∧ frz (st x) r = some (f x, st x)) → (∀ x ∈ xs, wipeE (st x) vs = ρ) → acc.length + xs.length ≤ sizeLine →
    lcGo vs g none Fe (xs.map inj) acc ρ = some (acc ++ xs.map f, ρ)
  | [], acc, _, _, _, _ => by simp [lcGo]
  | x :: xs, acc, hg, he, hw, hl => by
    have h1 := hg x List.mem_cons_self
    have h3 := hw x List.mem_cons_self
    obtain ⟨r, h4, h5⟩ := he x List.mem_cons_self
    rw [List.length_cons] at hl
    have ih := lc_map (xs := xs) (acc := acc ++ [f x]) (fun y hy => hg y (List.mem_cons_of_mem _ hy)) (fun y hy => he y (List.mem_cons_of_mem _ hy)) (fun y hy => hw y (List.mem_cons_of_mem _ hy)) (by rw [List.length_append, List.length_singleton]; omega)
    rw [List.map_cons]
    unfold lcGo
    rw [h1]
    show (Fe (st x)).bind _ = _
    rw [h4]
    show (frz (st x) r).bind _ = _
    rw [h5]
    show (if acc.length < sizeLine then lcGo vs g none Fe (xs.map inj) (acc ++ [f x]) (wipeE (st x) vs) else none) = _
    rw [if_pos (by omega), h3, ih, List.map_cons, List.append_assoc, List.singleton_append]
end
section
variable {α : Type} {vs : List Nat} {g : Tg} {F Fe Fk : Sm} {ρ : En} {inj : α → FL.D} {st : α → En} {f : α → FL.D} {c : α → Bool}
theorem lc_mapc : ∀ {xs : List α} {acc : List FL.D}, (∀ x ∈ xs, g (inj x) ρ = some (st x)) → (∀ x ∈ xs, tst (some F) (st x) = some (c x, st x)) → (∀ x ∈ xs, ∃ r, Fe (st x) = some (r, st x) ∧ frz (st x) r = some (f x, st x)) → (∀ x ∈ xs, wipeE (st x) vs = ρ) → acc.length + xs.length ≤ sizeLine →
    lcGo vs g (some F) Fe (xs.map inj) acc ρ = some (acc ++ (xs.filter c).map f, ρ)
  | [], acc, _, _, _, _, _ => by simp [lcGo]
  | x :: xs, acc, hg, ht, he, hw, hl => by
    have h1 := hg x List.mem_cons_self
    have h2 := ht x List.mem_cons_self
    have h3 := hw x List.mem_cons_self
    obtain ⟨r, h4, h5⟩ := he x List.mem_cons_self
    rw [List.length_cons] at hl
    rw [List.map_cons]
    unfold lcGo
    rw [h1]
    show (tst (some F) (st x)).bind _ = _
    rw [h2]
    cases hc : c x with
    | false =>
      have ih := lc_mapc (xs := xs) (acc := acc) (fun y hy => hg y (List.mem_cons_of_mem _ hy)) (fun y hy => ht y (List.mem_cons_of_mem _ hy)) (fun y hy => he y (List.mem_cons_of_mem _ hy)) (fun y hy => hw y (List.mem_cons_of_mem _ hy)) (by omega)
      show lcGo vs g (some F) Fe (xs.map inj) acc (wipeE (st x) vs) = _
      rw [h3, ih, List.filter_cons_of_neg (by simp [hc])]
    | true =>
      have ih := lc_mapc (xs := xs) (acc := acc ++ [f x]) (fun y hy => hg y (List.mem_cons_of_mem _ hy)) (fun y hy => ht y (List.mem_cons_of_mem _ hy)) (fun y hy => he y (List.mem_cons_of_mem _ hy)) (fun y hy => hw y (List.mem_cons_of_mem _ hy)) (by rw [List.length_append, List.length_singleton]; omega)
      show (Fe (st x)).bind _ = _
      rw [h4]
      show (frz (st x) r).bind _ = _
      rw [h5]
      show (if acc.length < sizeLine then lcGo vs g (some F) Fe (xs.map inj) (acc ++ [f x]) (wipeE (st x) vs) else none) = _
      rw [if_pos (by omega), h3, ih, List.filter_cons_of_pos hc, List.map_cons, List.append_assoc, List.singleton_append]
end
end LW

set_option Elab.async false
set_option maxRecDepth 100000
set_option exponentiation.threshold 100000
namespace LW
open PySem FL
/-! ### the tables of the switches from -4 to 34 -/
def Win : List Int := Wl (-4) 35
theorem mem_win {p : Int} : p ∈ Win ↔ -4 ≤ p ∧ p < 35 := mem_W
theorem win_nd : Win.Nodup := nd_W _ _
def tabE (W : List Int) (f : Int → Line) : List (L2.Key × FL.D) := W.map fun p => (.inl p, .dic (lineK (f p)))
theorem tab_find (f : Int → Line) {p : Int} : ∀ {W : List Int}, p ∈ W → dfind (tabE W f) (.inl p) = some (.dic (lineK (f p)))
  | [], h => by cases h
  | q :: W, h => by
    unfold tabE dfind
    rw [List.map_cons]
    by_cases c : q = p
    · subst c
      rw [List.find?_cons_of_pos (by simp)]
      rfl
    · rw [List.find?_cons_of_neg (by simp; exact c)]
      have := tab_find f (W := W) ((List.mem_cons.mp h).resolve_left fun z => c z.symm)
      exact this
def fup (f : Int → Line) (p : Int) (l : Line) : Int → Line := fun q => if q = p then l else f q
theorem tab_same {f g : Int → Line} : ∀ {W : List Int}, (∀ p ∈ W, f p = g p) → tabE W f = tabE W g := fun {W} h => List.map_congr_left fun p hp => by rw [h p hp]
theorem tab_set (f : Int → Line) {p : Int} {l : Line} : ∀ {W : List Int}, W.Nodup → setE (tabE W f) (.inl p) (.dic (lineK l)) = tabE W (fup f p l)
  | [], _ => rfl
  | q :: W, nd => by
    rw [List.nodup_cons] at nd
    show (if (Sum.inl q : L2.Key) = Sum.inl p then ((Sum.inl q : L2.Key), FL.D.dic (lineK l)) :: tabE W f else (Sum.inl q, .dic (lineK (f q))) :: setE (tabE W f) (.inl p) (.dic (lineK l))) = (Sum.inl q, .dic (lineK (fup f p l q))) :: tabE W (fup f p l)
    by_cases c : q = p
    · subst c
      rw [if_pos rfl]
      have e1 : fup f q l q = l := if_pos rfl
      rw [e1, tab_same (f := f) (g := fup f q l) fun p hp => (if_neg (fun z => nd.1 (by rw [← z]; exact hp))).symm]
    · rw [if_neg (fun z => c (Sum.inl.inj z)), tab_set f nd.2]
      have e1 : fup f p l q = f q := if_neg c
      rw [e1]
/-- an entry put into a table -/
def putL (l : Line) (x : Str) (v : Int) : Line := if (l.any fun p => decide (p.1 = x)) = true then l.map fun p => if p.1 = x then (p.1, v) else p else l ++ [(x, v)]
theorem dput_L (l : Line) (x : Str) (v : Int) : dput (lineK l) (.inr x) (.int v) = lineK (putL l x v) := by
  unfold dput putL lineK
  have e : ((l.map fun p => ((.inr p.1 : L2.Key), FL.D.int p.2)).any fun kv => decide (kv.1 = (Sum.inr x : L2.Key))) = l.any fun p => decide (p.1 = x) := by
    rw [List.any_map]
    congr 1
    funext p
    by_cases h : p.1 = x
    · simp [h]
    · simp [h]
  rw [e]
  split
  · rw [List.map_map, List.map_map]
    congr 1
    funext p
    by_cases h : p.1 = x
    · simp [h]
    · simp [h]
  · simp
theorem put_len (l : Line) (x : Str) (v : Int) : (putL l x v).length ≤ l.length + 1 := by
  unfold putL
  split
  · rw [List.length_map]; omega
  · rw [List.length_append]; simp
theorem map_look {x y : Str} {v : Int} : ∀ l : Line, (l.map fun p => if p.1 = x then (p.1, v) else p).lookup y = (l.lookup y).map fun w => if y = x then v else w
  | [] => rfl
  | (z, w) :: l => by
    rw [List.map_cons]
    by_cases c : z = x
    · rw [if_pos c, List.lookup_cons, List.lookup_cons, map_look l]
      cases q : (y == z) with
      | true =>
        have : y = z := by simpa using q
        simp [this, c]
      | false => simp
    · rw [if_neg c, List.lookup_cons, List.lookup_cons, map_look l]
      cases q : (y == z) with
      | true =>
        have : y = z := by simpa using q
        simp [this, c]
      | false => simp
theorem lookup_app {x y : Str} {v : Int} : ∀ {l : Line}, (l.any fun p => decide (p.1 = x)) = false → (l ++ [(x, v)]).lookup y = if y = x then some v else l.lookup y
  | [], _ => by
    show List.lookup y [(x, v)] = _
    rw [List.lookup_cons]
    by_cases c : y = x
    · simp [c]
    · have : (y == x) = false := by simpa using c
      rw [this, if_neg c]
  | (z, w) :: l, h => by
    rw [List.any_cons, Bool.or_eq_false_iff] at h
    have hz : z ≠ x := by simpa using h.1
    rw [List.cons_append, List.lookup_cons, List.lookup_cons, lookup_app h.2]
    cases q : (y == z) with
    | true =>
      have : y = z := by simpa using q
      show some w = if y = x then some v else some w
      rw [if_neg (show ¬ y = x by rw [this]; exact hz)]
    | false => rfl
theorem put_look (l : Line) (x y : Str) (v : Int) : (putL l x v).lookup y = if y = x then some v else l.lookup y := by
  unfold putL
  split
  · rename_i h
    rw [map_look]
    obtain ⟨p, hp, e⟩ := List.any_eq_true.mp h
    have e := of_decide_eq_true e
    by_cases c : y = x
    · rw [if_pos c, c]
      obtain ⟨i, hi⟩ := lookup_ex (L := l) (x := x) (by rw [← e]; exact List.mem_map.mpr ⟨p, hp, rfl⟩)
      rw [hi]
      simp
    · rw [if_neg c]
      cases l.lookup y with
      | none => rfl
      | some w => simp [c]
  · rename_i h
    exact lookup_app (Bool.not_eq_true _ ▸ h)
theorem find_L (l : Line) (x : Str) : dfind (lineK l) (.inr x) = (l.lookup x).map FL.D.int := dfind_map FL.D.int x l
/-- one step of a walk over the switches -/
def mvD (p : Int × Int) : FL.D := .tup [.int p.1, .int p.2]
def nm (w : Option Int) (p sd : Int) : List (Int × Int) := ((match w with
  | none => [-1, 1]
  | some d => if d = 0 then [] else [d]).filter fun o => !decide (o = 0 - sd)).map fun o => (p + o, o)
def envF (L : Line) (s t : Str) (f : Int → Line) (fd : List Int) (mv : List (Int × Int)) (a b c d : Option T) : En := [some (.dd (tabE Win f)), some (.fz (.dic (lineK L))), some (.fz (frD s t)), some (.fz (.int (-4))), some (.fz (.int 34)), some (.fz (.str s)), some (.fz (.str t)), some (.ow (.lst (fd.map .int))), some (.ow (.lst (mv.map mvD))), a, b, c, d, none]
theorem s9 {n : Nat} (h : n ≤ 100000) : n ≤ sizeLine := Nat.le_trans (by omega) line_ge
theorem pop_mv (mv : List (Int × Int)) (p sd : Int) : (mv ++ [(p, sd)]).map mvD = mv.map mvD ++ [.tup [.int p, .int sd]] := by
  rw [List.map_append]; rfl
theorem turn_out {L : Line} {s t : Str} {f : Int → Line} {fd : List Int} {mv : List (Int × Int)} {p sd : Int} (hp : p ∉ Win) (a b c d : Option T) :
    l__law_flow_1 (envF L s t f fd (mv ++ [(p, sd)]) a b c d) = some (.nx, envF L s t f fd mv (some (.fz (.int p))) (some (.fz (.int sd))) c d) := by
  unfold envF
  rw [pop_mv]
  have po := poD_ev (xs := mv.map mvD) (y := FL.D.tup [.int p, .int sd])
  have hn : ¬ (-4 ≤ p ∧ p < 35) := fun z => hp (mem_win.mpr z)
  generalize mv.map mvD = MD at *
  by_cases c1 : (-4 : Int) ≤ p
  · have c2 : ¬ p ≤ 34 := by omega
    simp [l__law_flow_1, mtF_ev, po, c1, c2]
  · simp [l__law_flow_1, mtF_ev, po, c1]
def wD : Option Int → FL.D
  | none => .non
  | some d => .int d
theorem wD_get (o : Option Int) : (o.map FL.D.int).getD .non = wD o := by cases o <;> rfl
theorem turn_in {L : Line} {s t : Str} {f : Int → Line} {fd : List Int} {mv : List (Int × Int)} {p sd : Int} (hp : p ∈ Win) (hl : (f p).length < 100000) (h1 : fd.length < 900) (h2 : mv.length < 900) (a b c d : Option T) :
    ∃ a' b' c' d', l__law_flow_1 (envF L s t f fd (mv ++ [(p, sd)]) a b c d) = some (.nx, envF L s t (fup f p (putL (f p) s (0 - sd))) (fd ++ [p]) (mv ++ nm ((f p).lookup t) p sd) a' b' c' d') := by
  have po := poD_ev (xs := mv.map mvD) (y := FL.D.tup [.int p, .int sd])
  obtain ⟨c1, c2⟩ := mem_win.mp hp
  have c2' : p ≤ 34 := by omega
  have tf := tab_find f hp
  have ts := tab_set f (p := p) (l := putL (f p) s (0 - sd)) win_nd
  have dp := dput_L (f p) s (0 - sd)
  have fL := find_L (f p) t
  have kl : (lineK (f p)).length < sizeLine := by unfold lineK; rw [List.length_map]; exact Nat.lt_of_lt_of_le hl (s9 (Nat.le_refl _))
  have ap : apD (.lst (fd.map .int)) [.int p] = some (.lst ((fd ++ [p]).map .int), .non) := by
    rw [apD_ev (by rw [List.length_map]; omega), List.map_append]; rfl
  have wg := wD_get ((f p).lookup t)
  rw [← fL] at wg
  generalize hw : (f p).lookup t = w at *
  -- the turn's first steps
  have kI : ∀ i : Int, keyOf (.int i) = some (.inl i) := fun i => rfl
  have kS : ∀ x : Str, keyOf (.str x) = some (.inr x) := fun x => rfl
  have s0 : ∀ B : Ss, (seqF (asgF (gTp 2 [(gNm 9), (gNm 10)]) (mtF poD (vr 8) [])) (ifF (chn (op2 .le) (op2 .le) (vr 3) (vr 9) (vr 4)) (seqF (exF (mtF apD (vr 7) [(vr 9)])) (seqF (setF 11 (ddGet 0 (vr 9) 6)) (seqF (ddSt 0 9 5 (bin (op2 .sub) (cst (.int 0)) (vr 10))) B))) nxF)) (envF L s t f fd (mv ++ [(p, sd)]) a b c d) =
      B [some (.dd (tabE Win (fup f p (putL (f p) s (0 - sd))))), some (.fz (.dic (lineK L))), some (.fz (frD s t)), some (.fz (.int (-4))), some (.fz (.int 34)), some (.fz (.str s)), some (.fz (.str t)), some (.ow (.lst ((fd ++ [p]).map .int))), some (.ow (.lst (mv.map mvD))), some (.fz (.int p)), some (.fz (.int sd)), some (.fz (wD w)), d, none] := by
    intro B
    unfold envF
    rw [pop_mv]
    have e0 : (0 : Int) - sd = -sd := by omega
    rw [e0] at ts dp ⊢
    generalize mv.map mvD = MD at *
    generalize (fd ++ [p]).map FL.D.int = FD2 at *
    generalize fd.map FL.D.int = FD at *
    generalize tabE Win (fup f p (putL (f p) s (-sd))) = TB2 at *
    generalize tabE Win f = TB at *
    generalize lineK (putL (f p) s (-sd)) = LK2 at *
    generalize lineK (f p) = LK1 at *
    generalize lineK L = LK at *
    simp [mtF_ev, po, c1, c2', ap, tf, wg, dp, kl, ts, kI, kS]
  have s1 : ∀ (os : List Int) (T1 : T), (T1 = .ow (.lst (os.map .int)) ∨ T1 = .fz (.lst (os.map .int))) → os.length ≤ 2 → (exF (extF (vr 8) (lcF [13] (itV 12) (gNm 13) (some (bin (op2 .ne) (vr 13) (bin (op2 .sub) (cst (.int 0)) (vr 10)))) (froz [(bin (op2 .add) (vr 9) (vr 13)), (vr 13)] tupF))))
      [some (.dd (tabE Win (fup f p (putL (f p) s (0 - sd))))), some (.fz (.dic (lineK L))), some (.fz (frD s t)), some (.fz (.int (-4))), some (.fz (.int 34)), some (.fz (.str s)), some (.fz (.str t)), some (.ow (.lst ((fd ++ [p]).map .int))), some (.ow (.lst (mv.map mvD))), some (.fz (.int p)), some (.fz (.int sd)), some (.fz (wD w)), some T1, none] =
      some (.nx, [some (.dd (tabE Win (fup f p (putL (f p) s (0 - sd))))), some (.fz (.dic (lineK L))), some (.fz (frD s t)), some (.fz (.int (-4))), some (.fz (.int 34)), some (.fz (.str s)), some (.fz (.str t)), some (.ow (.lst ((fd ++ [p]).map .int))), some (.ow (.lst ((mv ++ (os.filter fun o => !decide (o = 0 - sd)).map fun o => (p + o, o)).map mvD))), some (.fz (.int p)), some (.fz (.int sd)), some (.fz (wD w)), some (.fz (.lst (os.map .int))), none]) := by
    intro os T1 hT hos
    have go := lc_mapc (vs := [13]) (g := gNm 13) (F := bin (op2 .ne) (vr 13) (bin (op2 .sub) (cst (.int 0)) (vr 10))) (Fe := froz [(bin (op2 .add) (vr 9) (vr 13)), (vr 13)] tupF) (ρ := [some (.dd (tabE Win (fup f p (putL (f p) s (0 - sd))))), some (.fz (.dic (lineK L))), some (.fz (frD s t)), some (.fz (.int (-4))), some (.fz (.int 34)), some (.fz (.str s)), some (.fz (.str t)), some (.ow (.lst ((fd ++ [p]).map .int))), some (.ow (.lst (mv.map mvD))), some (.fz (.int p)), some (.fz (.int sd)), some (.fz (wD w)), some (.fz (.lst (os.map .int))), none])
      (inj := FL.D.int) (st := fun o => [some (.dd (tabE Win (fup f p (putL (f p) s (0 - sd))))), some (.fz (.dic (lineK L))), some (.fz (frD s t)), some (.fz (.int (-4))), some (.fz (.int 34)), some (.fz (.str s)), some (.fz (.str t)), some (.ow (.lst ((fd ++ [p]).map .int))), some (.ow (.lst (mv.map mvD))), some (.fz (.int p)), some (.fz (.int sd)), some (.fz (wD w)), some (.fz (.lst (os.map .int))), some (.fz (.int o))]) (f := fun o => mvD (p + o, o)) (c := fun o => !decide (o = 0 - sd)) (xs := os) (acc := [])
      (fun o ho => by simp) (fun o ho => by
        by_cases e : o = 0 - sd
        · simp [tst, e]
        · have e2 : ¬ o = -sd := by omega
          simp [tst, e2]) (fun o ho => ⟨.fz (mvD (p + o, o)), by simp [mvD], rfl⟩) (fun o ho => by simp) (s9 (by simp; omega))
    rw [List.nil_append] at go
    have el : (mv.map mvD).length + ((os.filter fun o => !decide (o = 0 - sd)).map fun o => mvD (p + o, o)).length ≤ sizeLine := s9 (by
      rw [List.length_map, List.length_map]
      have := List.length_filter_le (fun o : Int => !decide (o = 0 - sd)) os
      omega)
    have ea : (mv ++ (os.filter fun o => !decide (o = 0 - sd)).map fun o => (p + o, o)).map mvD = mv.map mvD ++ (os.filter fun o => !decide (o = 0 - sd)).map fun o => mvD (p + o, o) := by
      rw [List.map_append, List.map_map]; rfl
    rw [ea]
    generalize ((os.filter fun o => !decide (o = 0 - sd)).map fun o => mvD (p + o, o)) = NM at *
    generalize mv.map mvD = MD at *
    generalize (fd ++ [p]).map FL.D.int = FD2 at *
    generalize tabE Win (fup f p (putL (f p) s (0 - sd))) = TB2 at *
    generalize os.map FL.D.int = OS at *
    generalize lineK L = LK at *
    rcases hT with rfl | rfl <;> simp [go, el]
  have l2 : (2 : Nat) ≤ sizeLine := s9 (by decide)
  have l1 : (1 : Nat) ≤ sizeLine := s9 (by decide)
  have s2 : ∃ (os : List Int) (T1 : T), (T1 = .ow (.lst (os.map .int)) ∨ T1 = .fz (.lst (os.map .int))) ∧ os.length ≤ 2 ∧ nm w p sd = ((os.filter fun o => !decide (o = 0 - sd)).map fun o => (p + o, o)) ∧ (setF 12 (iteF' (uno isND (vr 11)) (froz [(uno ngD (cst (.int 1))), (cst (.int 1))] lstF) (repF (froz [(vr 11)] lstF) (cal (d1 intF) [(bin (op2 .ne) (vr 11) (cst (.int 0)))]))))
      [some (.dd (tabE Win (fup f p (putL (f p) s (0 - sd))))), some (.fz (.dic (lineK L))), some (.fz (frD s t)), some (.fz (.int (-4))), some (.fz (.int 34)), some (.fz (.str s)), some (.fz (.str t)), some (.ow (.lst ((fd ++ [p]).map .int))), some (.ow (.lst (mv.map mvD))), some (.fz (.int p)), some (.fz (.int sd)), some (.fz (wD w)), d, none] =
      some (.nx, [some (.dd (tabE Win (fup f p (putL (f p) s (0 - sd))))), some (.fz (.dic (lineK L))), some (.fz (frD s t)), some (.fz (.int (-4))), some (.fz (.int 34)), some (.fz (.str s)), some (.fz (.str t)), some (.ow (.lst ((fd ++ [p]).map .int))), some (.ow (.lst (mv.map mvD))), some (.fz (.int p)), some (.fz (.int sd)), some (.fz (wD w)), some T1, none]) := by
    generalize mv.map mvD = MD at *
    generalize (fd ++ [p]).map FL.D.int = FD2 at *
    generalize tabE Win (fup f p (putL (f p) s (0 - sd))) = TB2 at *
    generalize lineK L = LK at *
    cases w with
    | none => exact ⟨[-1, 1], _, .inl rfl, by simp, rfl, by simp [wD, isND, l2]⟩
    | some dr =>
      by_cases c0 : dr = 0
      · subst c0
        refine ⟨[], _, .inl rfl, by simp, rfl, ?_⟩
        simp [wD, isND, l1, repR]
      · refine ⟨[dr], _, .inl rfl, by simp, by unfold nm; simp only [c0, if_false], ?_⟩
        simp [wD, isND, l1, repR, c0]
  obtain ⟨os, T1, hT, hos, en, e2⟩ := s2
  refine ⟨some (.fz (.int p)), some (.fz (.int sd)), some (.fz (wD w)), some (.fz (.lst (os.map .int))), ?_⟩
  unfold l__law_flow_1
  rw [s0, seq_step e2, s1 os T1 hT hos, ← en]
  rfl
end LW

set_option Elab.async false
set_option maxRecDepth 100000
set_option exponentiation.threshold 100000
namespace LW
open PySem FL
abbrev flC : Sm := bin (op2 .ne) (vr 8) (froz [] lstF)
/-- the switches that a frame passes one after the other in a direction -/
inductive Trail (f : Int → Line) (t : Str) (dir : Int) : Int → List Int → Prop
  | out {p : Int} : p ∉ Win → Trail f t dir p []
  | goal {p : Int} : p ∈ Win → (f p).lookup t = some 0 → Trail f t dir p [p]
  | step {p : Int} {ps : List Int} : p ∈ Win → ((f p).lookup t = none ∨ (f p).lookup t = some dir) → Trail f t dir (p + dir) ps → Trail f t dir p (p :: ps)
theorem Trail.congr {f g : Int → Line} {t : Str} {dir : Int} (h : ∀ q, (g q).lookup t = (f q).lookup t) {p : Int} {ps : List Int} (r : Trail f t dir p ps) : Trail g t dir p ps := by
  induction r with
  | out a => exact .out a
  | goal a b => exact .goal a (by rw [h]; exact b)
  | step a b c ih => exact .step a (by rw [h]; exact b) ih
theorem flat_mv (mv : List (Int × Int)) : (mv.map mvD).all (flat 39) = true := List.all_eq_true.mpr fun x hx => by
  obtain ⟨p, _, rfl⟩ := List.mem_map.mp hx
  rfl
theorem cond_go {L : Line} {s t : Str} {f : Int → Line} {fd : List Int} {mv : List (Int × Int)} {a b c d : Option T} : flC (envF L s t f fd mv a b c d) = some (.fz (.bl (!mv.isEmpty)), envF L s t f fd mv a b c d) := by
  have e := ne_nil (flat_mv mv)
  unfold envF
  rw [List.isEmpty_map] at e
  generalize mv.map mvD = MD at *
  simp [e]
theorem cond_app {L : Line} {s t : Str} {f : Int → Line} {fd : List Int} {mv : List (Int × Int)} {q : Int × Int} {a b c d : Option T} : flC (envF L s t f fd (mv ++ [q]) a b c d) = some (.fz (.bl true), envF L s t f fd (mv ++ [q]) a b c d) := by
  rw [cond_go]
  have : (mv ++ [q]).isEmpty = false := by cases mv <;> rfl
  rw [this]; rfl
theorem nm_go {w : Option Int} {p dir : Int} (hd : dir = 1 ∨ dir = -1) (h : w = none ∨ w = some dir) : nm w p dir = [(p + dir, dir)] := by
  rcases hd with rfl | rfl <;> rcases h with rfl | rfl <;> rfl
theorem nm_zero (p sd : Int) : nm (some 0) p sd = [] := rfl
theorem fup_look {f : Int → Line} {p : Int} {s x : Str} {v : Int} (q : Int) : (fup f p (putL (f p) s v) q).lookup x = if q = p ∧ x = s then some v else (f q).lookup x := by
  unfold fup
  by_cases c : q = p
  · subst c
    rw [if_pos rfl, put_look]
    by_cases c2 : x = s
    · rw [if_pos c2, if_pos ⟨rfl, c2⟩]
    · rw [if_neg c2, if_neg (fun z => c2 z.2)]
  · rw [if_neg c, if_neg (fun z => c z.1)]
theorem fup_len {f : Int → Line} {p : Int} {s : Str} {v : Int} (q : Int) : (fup f p (putL (f p) s v) q).length ≤ (f q).length + 1 := by
  unfold fup
  by_cases c : q = p
  · subst c
    rw [if_pos rfl]
    exact put_len _ _ _
  · rw [if_neg c]; omega
theorem run_ev {L : Line} {s t : Str} (hne : s ≠ t) {dir : Int} (hd : dir = 1 ∨ dir = -1) : ∀ (ps : List Int) (p : Int) (f : Int → Line), Trail f t dir p ps → (∀ q, (f q).length + ps.length < 90000) →
    ∃ (f2 : Int → Line) (k : Nat), k ≤ ps.length + 1 ∧ (∀ q x, (f2 q).lookup x = if q ∈ ps ∧ x = s then some (0 - dir) else (f q).lookup x) ∧ (∀ q, (f2 q).length ≤ (f q).length + ps.length) ∧
      ∀ (fd : List Int) (mv : List (Int × Int)) (N : Nat) (a b c d : Option T), fd.length + ps.length ≤ 800 → mv.length ≤ 800 → ∃ a' b' c' d', whGo flC l__law_flow_1 (k + N) (envF L s t f fd (mv ++ [(p, dir)]) a b c d) = whGo flC l__law_flow_1 N (envF L s t f2 (fd ++ ps) mv a' b' c' d')
  | [], p, f, r, hl => by
    cases r with
    | out hp =>
      refine ⟨f, 1, by simp, fun q x => by simp, fun q => by simp, fun fd mv N a b c d h1 h2 => ⟨some (.fz (.int p)), some (.fz (.int dir)), c, d, ?_⟩⟩
      rw [Nat.add_comm 1 N, wh_step cond_app (turn_out hp a b c d), List.append_nil]
  | p0 :: ps, p9, f, r, hl => by
    have e0 : p0 = p9 := by cases r <;> rfl
    subst e0
    have st : ∀ (w : Option Int) (hw : (f p0).lookup t = w) (hp : p0 ∈ Win) (fd : List Int) (mv : List (Int × Int)) (N : Nat) (a b c d : Option T), fd.length < 900 → mv.length < 900 → ∃ a' b' c' d', whGo flC l__law_flow_1 (N + 1) (envF L s t f fd (mv ++ [(p0, dir)]) a b c d) = whGo flC l__law_flow_1 N (envF L s t (fup f p0 (putL (f p0) s (0 - dir))) (fd ++ [p0]) (mv ++ nm w p0 dir) a' b' c' d') := fun w hw hp fd mv N a b c d h1 h2 => by
      obtain ⟨a', b', c', d', e⟩ := turn_in (L := L) (s := s) (t := t) (f := f) (sd := dir) hp (by have := hl p0; omega) h1 h2 a b c d
      rw [hw] at e
      exact ⟨a', b', c', d', wh_step cond_app e⟩
    have look1 : ∀ q x, (fup f p0 (putL (f p0) s (0 - dir)) q).lookup x = if q = p0 ∧ x = s then some (0 - dir) else (f q).lookup x := fun q x => fup_look q
    cases r with
    | goal hp hw =>
      refine ⟨fup f p0 (putL (f p0) s (0 - dir)), 1, by simp, fun q x => by rw [look1]; simp, fun q => by have := fup_len (f := f) (p := p0) (s := s) (v := 0 - dir) q; simpa using this, fun fd mv N a b c d h1 h2 => ?_⟩
      obtain ⟨a', b', c', d', e⟩ := st _ hw hp fd mv N a b c d (by rw [List.length_cons] at h1; omega) (by omega)
      rw [nm_zero, List.append_nil] at e
      exact ⟨a', b', c', d', by rw [Nat.add_comm 1 N]; exact e⟩
    | step hp hw r =>
      have r' : Trail (fup f p0 (putL (f p0) s (0 - dir))) t dir (p0 + dir) ps := r.congr fun q => by rw [look1, if_neg (fun z => hne z.2.symm)]
      have hl' : ∀ q, (fup f p0 (putL (f p0) s (0 - dir)) q).length + ps.length < 90000 := fun q => by
        have := fup_len (f := f) (p := p0) (s := s) (v := 0 - dir) q
        have := hl q
        rw [List.length_cons] at this
        omega
      obtain ⟨f2, k, hk, lk, ln, go⟩ := run_ev hne hd ps (p0 + dir) _ r' hl'
      refine ⟨f2, k + 1, by rw [List.length_cons]; omega, fun q x => ?_, fun q => ?_, fun fd mv N a b c d h1 h2 => ?_⟩
      · rw [lk, look1]
        by_cases c1 : q ∈ ps ∧ x = s
        · rw [if_pos c1, if_pos ⟨List.mem_cons_of_mem _ c1.1, c1.2⟩]
        · rw [if_neg c1]
          by_cases c2 : q = p0 ∧ x = s
          · rw [if_pos c2, if_pos ⟨by rw [c2.1]; exact List.mem_cons_self, c2.2⟩]
          · rw [if_neg c2, if_neg]
            rintro ⟨m, e⟩
            rcases List.mem_cons.mp m with m | m
            · exact c2 ⟨m, e⟩
            · exact c1 ⟨m, e⟩
      · have h1 := ln q
        have h2 := fup_len (f := f) (p := p0) (s := s) (v := 0 - dir) q
        rw [List.length_cons]
        omega
      · rw [List.length_cons] at h1
        obtain ⟨a', b', c', d', e⟩ := st _ rfl hp fd mv (k + N) a b c d (by omega) (by omega)
        rw [nm_go hd hw] at e
        obtain ⟨a2, b2, c2, d2, e2⟩ := go (fd ++ [p0]) mv N a' b' c' d' (by rw [List.length_append, List.length_singleton]; omega) h2
        refine ⟨a2, b2, c2, d2, ?_⟩
        have ek : k + 1 + N = k + N + 1 := by omega
        rw [ek, e, e2, List.append_assoc]
        rfl
end LW

set_option Elab.async false
set_option maxRecDepth 100000
set_option exponentiation.threshold 100000
namespace LW
open PySem FL
def sg (d : Int) : Int := if d < 0 then -1 else if 0 < d then 1 else 0
theorem W_nil {lo hi : Int} (h : hi ≤ lo) : Wl lo hi = [] := by
  apply List.eq_nil_iff_forall_not_mem.mpr
  intro q hq
  have := mem_W.mp hq
  omega
theorem W_cons {lo hi : Int} (h : lo < hi) : Wl lo hi = lo :: Wl (lo + 1) hi := by
  unfold Wl
  have e : (hi - lo).toNat = (hi - (lo + 1)).toNat + 1 := by omega
  rw [e, List.range_succ_eq_map, List.map_cons, List.map_map]
  refine congr (congrArg _ (by simp)) (List.map_congr_left fun k _ => ?_)
  show lo + ((k + 1 : Nat) : Int) = lo + 1 + (k : Int)
  omega
theorem W_snoc {lo hi : Int} (h : lo ≤ hi) : Wl lo (hi + 1) = Wl lo hi ++ [hi] := by
  unfold Wl
  have e : (hi + 1 - lo).toNat = (hi - lo).toNat + 1 := by omega
  rw [e, List.range_succ, List.map_append, List.map_singleton]
  congr 2
  omega
theorem W_app {lo m hi : Int} (h1 : lo ≤ m) (h2 : m ≤ hi) : Wl lo m ++ Wl m hi = Wl lo hi := by
  obtain ⟨n, rfl⟩ : ∃ n : Nat, hi = m + n := ⟨(hi - m).toNat, by omega⟩
  induction n with
  | zero => rw [W_nil (lo := m) (by omega)]; simp
  | succ n ih =>
    have e : m + ((n + 1 : Nat) : Int) = (m + (n : Int)) + 1 := by omega
    rw [e, W_snoc (lo := m) (by omega), W_snoc (lo := lo) (by omega), ← List.append_assoc, ih (by omega)]
theorem W_pw (lo hi : Int) : (Wl lo hi).Pairwise (· ≤ ·) := by
  unfold Wl
  refine List.pairwise_map.mpr ?_
  have := List.pairwise_lt_range (n := (hi - lo).toNat)
  exact this.imp fun {a b} h => by omega
/-! ### trails -/
theorem trailR_free {f : Int → Line} {t : Str} : ∀ (n : Nat) (p : Int), (35 - p).toNat = n → -4 ≤ p → (∀ q ∈ Win, p ≤ q → (f q).lookup t = none ∨ (f q).lookup t = some 1) → Trail f t 1 p (Wl p 35)
  | 0, p, hn, hp, h => by
    rw [W_nil (by omega)]
    exact .out fun z => by have := mem_win.mp z; omega
  | n + 1, p, hn, hp, h => by
    rw [W_cons (by omega)]
    exact .step (mem_win.mpr ⟨hp, by omega⟩) (h p (mem_win.mpr ⟨hp, by omega⟩) (Int.le_refl _)) (trailR_free n (p + 1) (by omega) (by omega) fun q hq hl => h q hq (by omega))
theorem trailR_to {f : Int → Line} {t : Str} {b : Int} (hb : b < 35) (h0 : (f b).lookup t = some 0) : ∀ (n : Nat) (p : Int), (b - p).toNat = n → p ≤ b → -4 ≤ p → (∀ q ∈ Win, p ≤ q → q < b → (f q).lookup t = none ∨ (f q).lookup t = some 1) → Trail f t 1 p (Wl p (b + 1))
  | 0, p, hn, hpb, hp, h => by
    have e : p = b := by omega
    subst e
    rw [W_cons (by omega), W_nil (by omega)]
    exact .goal (mem_win.mpr ⟨hp, hb⟩) h0
  | n + 1, p, hn, hpb, hp, h => by
    rw [W_cons (by omega)]
    exact .step (mem_win.mpr ⟨hp, by omega⟩) (h p (mem_win.mpr ⟨hp, by omega⟩) (Int.le_refl _) (by omega)) (trailR_to hb h0 n (p + 1) (by omega) (by omega) (by omega) fun q hq hl hr => h q hq (by omega) hr)
theorem trailL_free {f : Int → Line} {t : Str} : ∀ (n : Nat) (p : Int), (p + 5).toNat = n → p < 35 → (∀ q ∈ Win, q ≤ p → (f q).lookup t = none ∨ (f q).lookup t = some (-1)) → Trail f t (-1) p (Wl (-4) (p + 1)).reverse
  | 0, p, hn, hp, h => by
    rw [W_nil (by omega)]
    exact .out fun z => by have := mem_win.mp z; omega
  | n + 1, p, hn, hp, h => by
    rw [W_snoc (by omega), List.reverse_append]
    have r := trailL_free (f := f) (t := t) n (p - 1) (by omega) (by omega) fun q hq hl => h q hq (by omega)
    have e : p - 1 + 1 = p := by omega
    rw [e] at r
    exact .step (mem_win.mpr ⟨by omega, hp⟩) (h p (mem_win.mpr ⟨by omega, hp⟩) (Int.le_refl _)) r
theorem trailL_to {f : Int → Line} {t : Str} {b : Int} (hb : -4 ≤ b) (h0 : (f b).lookup t = some 0) : ∀ (n : Nat) (p : Int), (p - b).toNat = n → b ≤ p → p < 35 → (∀ q ∈ Win, b < q → q ≤ p → (f q).lookup t = none ∨ (f q).lookup t = some (-1)) → Trail f t (-1) p (Wl b (p + 1)).reverse
  | 0, p, hn, hpb, hp, h => by
    have e : p = b := by omega
    subst e
    rw [W_cons (by omega), W_nil (by omega)]
    exact .goal (mem_win.mpr ⟨hb, hp⟩) h0
  | n + 1, p, hn, hpb, hp, h => by
    rw [W_snoc (by omega), List.reverse_append]
    have r := trailL_to (f := f) (t := t) hb h0 n (p - 1) (by omega) (by omega) (by omega) fun q hq hl hr => h q hq hl (by omega)
    have e : p - 1 + 1 = p := by omega
    rw [e] at r
    exact .step (mem_win.mpr ⟨by omega, hp⟩) (h p (mem_win.mpr ⟨by omega, hp⟩) (by omega) (Int.le_refl _)) r
/-! ### the whole flow -/
theorem flow_top {L : Line} {s t : Str} {a : Int} (hs : L.lookup s = some a) {f f2 : Int → Line} {fd : List Int} {x1 x2 x3 x4 : Option T} (w : whGo flC l__law_flow_1 fuel (envF L s t f [] [(a, 0)] none none none none) = some (.nx, envF L s t f2 fd [] x1 x2 x3 x4)) :
    f__law_flow [.dd (tabE Win f), .fz (.dic (lineK L)), .fz (frD s t), .fz (.int (-4)), .fz (.int 34)] = some (.nw (.ow (.lst ((sortI fd).map .int))), [.dd (tabE Win f2), .fz (.dic (lineK L)), .fz (frD s t), .fz (.int (-4)), .fz (.int 34)]) := by
  have fs := find_line hs
  have so : sortedF (.lst (fd.map .int)) = some (.nw (.ow (.lst ((sortI fd).map .int)))) := by
    show (match intsOf (fd.map FL.D.int) with
      | some ns => some (R.nw (.ow (.lst ((sortI ns).map .int))))
      | none => _) = _
    rw [intsOf_map]
  have l1 : (1 : Nat) ≤ sizeLine := s9 (by decide)
  have w' : whF flC l__law_flow_1 (envF L s t f [] [(a, 0)] none none none none) = some (.nx, envF L s t f2 fd [] x1 x2 x3 x4) := w
  unfold envF frD mvD at w'
  simp only [List.map_cons, List.map_nil] at w'
  unfold frD
  generalize tabE Win f2 = TB2 at *
  generalize tabE Win f = TB at *
  generalize fd.map FL.D.int = FD at *
  generalize lineK L = LK at *
  generalize hwh : whF flC l__law_flow_1 = wh at *
  simp [f__law_flow, b__law_flow, defF_ev, startE, kpl, List.replicate, fs, l1, hwh, w', so]
end LW

set_option Elab.async false
set_option maxRecDepth 100000
set_option exponentiation.threshold 100000
namespace LW
open PySem FL
/-- what a flow leaves -/
def Flowed (L : Line) (s t : Str) (a : Int) (f : Int → Line) (V : List Int) : Prop := ∃ f2 : Int → Line,
  f__law_flow [.dd (tabE Win f), .fz (.dic (lineK L)), .fz (frD s t), .fz (.int (-4)), .fz (.int 34)] = some (.nw (.ow (.lst ((sortI V).map .int))), [.dd (tabE Win f2), .fz (.dic (lineK L)), .fz (frD s t), .fz (.int (-4)), .fz (.int 34)]) ∧
  (∀ q x, (f2 q).lookup x = if q ∈ V ∧ x = s then some (sg (a - q)) else (f q).lookup x) ∧ ∀ q, (f2 q).length ≤ (f q).length + 200
theorem sg_pos {d : Int} (h : 0 < d) : sg d = 1 := by unfold sg; rw [if_neg (by omega), if_pos h]
theorem sg_neg {d : Int} (h : d < 0) : sg d = -1 := by unfold sg; rw [if_pos h]
theorem sg_zero : sg 0 = 0 := rfl
theorem flow_both {L : Line} {s t : Str} (hne : s ≠ t) {a : Int} (hs : L.lookup s = some a) (ha : a ∈ Win) {f : Int → Line} (hl : ∀ q, (f q).length < 80000) (w0 : (f a).lookup t = none) {rs ls : List Int} (hr : Trail f t 1 (a + 1) rs) (hL : Trail f t (-1) (a - 1) ls) (lr : rs.length ≤ 50) (ll : ls.length ≤ 50) (gr : ∀ q ∈ rs, a < q) (gl : ∀ q ∈ ls, q < a) :
    Flowed L s t a f (a :: rs ++ ls) := by
  obtain ⟨x1, x2, x3, x4, e1⟩ := turn_in (L := L) (s := s) (t := t) (f := f) (fd := []) (mv := []) (p := a) (sd := 0) ha (by have := hl a; omega) (by simp) (by simp) none none none none
  rw [w0] at e1
  have hnm : nm none a 0 = [(a + -1, -1), (a + 1, 1)] := rfl
  rw [hnm] at e1
  have look1 : ∀ q x, (fup f a (putL (f a) s (0 - 0)) q).lookup x = if q = a ∧ x = s then some (0 - 0) else (f q).lookup x := fun q x => fup_look q
  have len1 : ∀ q, (fup f a (putL (f a) s (0 - 0)) q).length ≤ (f q).length + 1 := fun q => fup_len q
  generalize fup f a (putL (f a) s (0 - 0)) = f1 at *
  have r1 : Trail f1 t 1 (a + 1) rs := hr.congr fun q => by rw [look1, if_neg (fun z => hne z.2.symm)]
  obtain ⟨f2, k1, hk1, look2, len2, go1⟩ := run_ev (L := L) hne (.inl rfl) rs (a + 1) f1 r1 (fun q => by have := hl q; have := len1 q; omega)
  have r2 : Trail f2 t (-1) (a + -1) ls := hL.congr fun q => by rw [look2, if_neg (fun z => hne z.2.symm), look1, if_neg (fun z => hne z.2.symm)]
  obtain ⟨f3, k2, hk2, look3, len3, go2⟩ := run_ev (L := L) hne (.inr rfl) ls (a + -1) f2 r2 (fun q => by have := hl q; have := len1 q; have := len2 q; omega)
  obtain ⟨N, hN⟩ : ∃ N, fuel = (k1 + (k2 + (N + 1))) + 1 := ⟨fuel - k1 - k2 - 2, by have := fuel_ge; omega⟩
  obtain ⟨y1, y2, y3, y4, e2⟩ := go1 ([] ++ [a]) [(a + -1, -1)] (k2 + (N + 1)) x1 x2 x3 x4 (by simp; omega) (by simp)
  obtain ⟨z1, z2, z3, z4, e3⟩ := go2 ([] ++ [a] ++ rs) [] (N + 1) y1 y2 y3 y4 (by simp; omega) (by simp)
  refine ⟨f3, flow_top (f2 := f3) (x1 := z1) (x2 := z2) (x3 := z3) (x4 := z4) hs ?_, fun q x => ?_, fun q => ?_⟩
  · rw [hN]
    have c0 : flC (envF L s t f [] ([] ++ [(a, 0)]) none none none none) = some (.fz (.bl true), envF L s t f [] ([] ++ [(a, 0)]) none none none none) := cond_app
    have st := wh_step (n := k1 + (k2 + (N + 1))) c0 e1
    have em : ([] ++ [(a, (0 : Int))] : List (Int × Int)) = [(a, 0)] := rfl
    rw [em] at st
    rw [st]
    have em2 : ([] ++ [(a + -1, -1), (a + 1, 1)] : List (Int × Int)) = [(a + -1, -1)] ++ [(a + 1, 1)] := rfl
    rw [em2, e2]
    have em3 : ([(a + -1, -1)] : List (Int × Int)) = [] ++ [(a + -1, -1)] := rfl
    rw [em3, e3]
    have ce : flC (envF L s t f3 ([] ++ [a] ++ rs ++ ls) [] z1 z2 z3 z4) = some (.fz (.bl false), envF L s t f3 ([] ++ [a] ++ rs ++ ls) [] z1 z2 z3 z4) := cond_go
    rw [wh_end ce]
    rfl
  · rw [look3, look2, look1]
    by_cases hx : x = s
    · by_cases c1 : q ∈ ls
      · have := gl q c1
        rw [if_pos ⟨c1, hx⟩, if_pos ⟨List.mem_append_right _ c1, hx⟩, sg_pos (by omega)]
        rfl
      · rw [if_neg (fun z => c1 z.1)]
        by_cases c2 : q ∈ rs
        · have := gr q c2
          rw [if_pos ⟨c2, hx⟩, if_pos ⟨List.mem_append_left _ (List.mem_cons_of_mem _ c2), hx⟩, sg_neg (by omega)]
          rfl
        · rw [if_neg (fun z => c2 z.1)]
          by_cases c3 : q = a
          · rw [if_pos ⟨c3, hx⟩, if_pos ⟨by rw [c3]; exact List.mem_append_left _ List.mem_cons_self, hx⟩, c3, Int.sub_self, Int.sub_self, sg_zero]
          · rw [if_neg (fun z => c3 z.1), if_neg]
            rintro ⟨m, _⟩
            rcases List.mem_append.mp m with m | m
            · rcases List.mem_cons.mp m with m | m
              · exact c3 m
              · exact c2 m
            · exact c1 m
    · rw [if_neg (fun z => hx z.2), if_neg (fun z => hx z.2), if_neg (fun z => hx z.2), if_neg (fun z => hx z.2)]
  · have := len1 q; have := len2 q; have := len3 q; omega
theorem flow_one {L : Line} {s t : Str} (hne : s ≠ t) {a : Int} (hs : L.lookup s = some a) (ha : a ∈ Win) {f : Int → Line} (hl : ∀ q, (f q).length < 80000) {d : Int} (hd : d = 1 ∨ d = -1) (w0 : (f a).lookup t = some d) {ps : List Int} (hr : Trail f t d (a + d) ps) (lr : ps.length ≤ 50) (gr : ∀ q ∈ ps, sg (a - q) = 0 - d) :
    Flowed L s t a f (a :: ps) := by
  obtain ⟨x1, x2, x3, x4, e1⟩ := turn_in (L := L) (s := s) (t := t) (f := f) (fd := []) (mv := []) (p := a) (sd := 0) ha (by have := hl a; omega) (by simp) (by simp) none none none none
  rw [w0] at e1
  have hnm : nm (some d) a 0 = [(a + d, d)] := by rcases hd with rfl | rfl <;> rfl
  rw [hnm] at e1
  have look1 : ∀ q x, (fup f a (putL (f a) s (0 - 0)) q).lookup x = if q = a ∧ x = s then some (0 - 0) else (f q).lookup x := fun q x => fup_look q
  have len1 : ∀ q, (fup f a (putL (f a) s (0 - 0)) q).length ≤ (f q).length + 1 := fun q => fup_len q
  generalize fup f a (putL (f a) s (0 - 0)) = f1 at *
  have r1 : Trail f1 t d (a + d) ps := hr.congr fun q => by rw [look1, if_neg (fun z => hne z.2.symm)]
  obtain ⟨f2, k1, hk1, look2, len2, go1⟩ := run_ev (L := L) hne hd ps (a + d) f1 r1 (fun q => by have := hl q; have := len1 q; omega)
  obtain ⟨N, hN⟩ : ∃ N, fuel = (k1 + (N + 1)) + 1 := ⟨fuel - k1 - 2, by have := fuel_ge; omega⟩
  obtain ⟨y1, y2, y3, y4, e2⟩ := go1 ([] ++ [a]) [] (N + 1) x1 x2 x3 x4 (by simp; omega) (by simp)
  refine ⟨f2, flow_top (f2 := f2) (x1 := y1) (x2 := y2) (x3 := y3) (x4 := y4) hs ?_, fun q x => ?_, fun q => ?_⟩
  · rw [hN]
    have c0 : flC (envF L s t f [] ([] ++ [(a, 0)]) none none none none) = some (.fz (.bl true), envF L s t f [] ([] ++ [(a, 0)]) none none none none) := cond_app
    have st := wh_step (n := k1 + (N + 1)) c0 e1
    have em : ([] ++ [(a, (0 : Int))] : List (Int × Int)) = [(a, 0)] := rfl
    rw [em] at st
    rw [st, e2]
    have ce : flC (envF L s t f2 ([] ++ [a] ++ ps) [] y1 y2 y3 y4) = some (.fz (.bl false), envF L s t f2 ([] ++ [a] ++ ps) [] y1 y2 y3 y4) := cond_go
    rw [wh_end ce]
    rfl
  · rw [look2, look1]
    by_cases hx : x = s
    · by_cases c2 : q ∈ ps
      · rw [if_pos ⟨c2, hx⟩, if_pos ⟨List.mem_cons_of_mem _ c2, hx⟩, gr q c2]
      · rw [if_neg (fun z => c2 z.1)]
        by_cases c3 : q = a
        · rw [if_pos ⟨c3, hx⟩, if_pos ⟨by rw [c3]; exact List.mem_cons_self, hx⟩, c3, Int.sub_self, Int.sub_self, sg_zero]
        · rw [if_neg (fun z => c3 z.1), if_neg]
          rintro ⟨m, _⟩
          rcases List.mem_cons.mp m with m | m
          · exact c3 m
          · exact c2 m
    · rw [if_neg (fun z => hx z.2), if_neg (fun z => hx z.2), if_neg (fun z => hx z.2)]
  · have := len1 q; have := len2 q; omega
/-! ### the tables tell the state -/
structure Tab (L : Line) (S : Stt) (f : Int → Line) : Prop where
  lk : ∀ p ∈ Win, ∀ x, (f p).lookup x = if cont (look S x) p = true then some (sg (posL L x - p)) else none
def Small (L : Line) : Prop := ∀ p ∈ L, 0 ≤ p.2 ∧ p.2 ≤ 30
def loR (r : Rg) : Int := r.1.getD (-4)
def hiR (r : Rg) : Int := r.2.getD 34
def reachW (r : Rg) : List Int := Wl (loR r) (hiR r + 1)
theorem perm_lr {lo a hi : Int} (h1 : lo ≤ a) (h2 : a ≤ hi) : sortI (a :: Wl (a + 1) (hi + 1) ++ (Wl lo a).reverse) = Wl lo (hi + 1) := by
  symm
  refine sortI_eq ?_ (W_pw _ _)
  have e : Wl lo (hi + 1) = Wl lo a ++ (a :: Wl (a + 1) (hi + 1)) := by
    rw [← W_cons (by omega), W_app h1 (by omega)]
  rw [e]
  exact (List.perm_append_comm).trans (List.Perm.append_left _ (List.reverse_perm _).symm)
theorem mem_lr {lo a hi q : Int} (h1 : lo ≤ a) (h2 : a ≤ hi) : q ∈ (a :: Wl (a + 1) (hi + 1) ++ (Wl lo a).reverse) ↔ lo ≤ q ∧ q ≤ hi := by
  rw [List.mem_append, List.mem_cons, List.mem_reverse, mem_W, mem_W]
  omega
theorem iv_own {L : Line} {x : Str} {iv : Iv} (h : IvOk L x iv) (hs : iv ≠ none) : cont iv (posL L x) = true := by
  rcases iv with _ | ⟨u, v⟩
  · exact absurd rfl hs
  · rw [cont_iff]
    exact ⟨fun i e => (h.1 i e).2, fun i e => (h.2 i e).2⟩
theorem flow_ok {L : Line} (ok : LineOk L) (sm : Small L) {S : Stt} (v : StV L S) {p : Str × Str} (fr : FrOk L p) {f : Int → Line} (tb : Tab L S f) (hl : ∀ q, (f q).length < 80000) :
    ∃ f2 : Int → Line, f__law_flow [.dd (tabE Win f), .fz (.dic (lineK L)), .fz (frD p.1 p.2), .fz (.int (-4)), .fz (.int 34)] = some (.nw (.ow (.lst ((reachW (rc L S p)).map .int))), [.dd (tabE Win f2), .fz (.dic (lineK L)), .fz (frD p.1 p.2), .fz (.int (-4)), .fz (.int 34)]) ∧
      Tab L (nxt L S p) f2 ∧ ∀ q, (f2 q).length ≤ (f q).length + 200 := by
  obtain ⟨s, t⟩ := p
  obtain ⟨⟨a, ha⟩, ⟨b, hb⟩, hne⟩ := fr
  have hne : s ≠ t := hne
  have ha : L.lookup s = some a := ha
  have hb : L.lookup t = some b := hb
  have ea := pos_of ha
  have eb := pos_of hb
  have sa := sm _ (lookup_mem ha)
  have sb := sm _ (lookup_mem hb)
  simp only at sa sb
  have wa : a ∈ Win := mem_win.mpr (by omega)
  have wb : b ∈ Win := mem_win.mpr (by omega)
  have hab : a ≠ b := fun z => by
    have h1 : (s, a) ∈ L := lookup_mem ha
    have h2 : (t, b) ∈ L := lookup_mem hb
    obtain ⟨i, hi, ei⟩ := List.getElem_of_mem h1
    obtain ⟨j, hj, ej⟩ := List.getElem_of_mem h2
    have hij : i = j := by
      have e1 : (L.map (·.2))[i]'(by rw [List.length_map]; exact hi) = (L.map (·.2))[j]'(by rw [List.length_map]; exact hj) := by
        rw [List.getElem_map, List.getElem_map, ei, ej]
        exact z
      exact (List.getElem_inj ok.ndp).mp e1
    subst hij
    rw [ei] at ej
    exact hne (congrArg Prod.fst ej)
  have own := v.look t
  have key : ∀ lo hi : Int, reachW (rc L S (s, t)) = Wl lo (hi + 1) → (∀ q ∈ Win, cont (some (rc L S (s, t))) q = true ↔ lo ≤ q ∧ q ≤ hi) → lo ≤ a → a ≤ hi → Flowed L s t a f (a :: Wl (a + 1) (hi + 1) ++ (Wl lo a).reverse) →
      ∃ f2 : Int → Line, f__law_flow [.dd (tabE Win f), .fz (.dic (lineK L)), .fz (frD s t), .fz (.int (-4)), .fz (.int 34)] = some (.nw (.ow (.lst ((reachW (rc L S (s, t))).map .int))), [.dd (tabE Win f2), .fz (.dic (lineK L)), .fz (frD s t), .fz (.int (-4)), .fz (.int 34)]) ∧
      Tab L (nxt L S (s, t)) f2 ∧ ∀ q, (f2 q).length ≤ (f q).length + 200 := fun lo hi er hc h1 h2 ⟨f2, e1, e2, e3⟩ => by
    rw [perm_lr h1 h2] at e1
    refine ⟨f2, by rw [er]; exact e1, ⟨fun q hq x => ?_⟩, e3⟩
    rw [e2, tb.lk q hq, look_nxt v.ok ⟨⟨a, ha⟩, ⟨b, hb⟩, hne⟩]
    simp only [mem_lr h1 h2]
    by_cases hx : x = s
    · rw [if_pos hx, hx]
      have hown : look S s = none ∨ cont (look S s) a = true := by
        by_cases c : look S s = none
        · exact .inl c
        · right
          have := iv_own (v.look s) c
          rw [ea] at this
          exact this
      have hra : cont (some (rc L S (s, t))) a = true := (hc a wa).mpr ⟨h1, h2⟩
      have jc := join_cont (p := q) hown hra
      by_cases c1 : lo ≤ q ∧ q ≤ hi
      · rw [if_pos ⟨c1, rfl⟩, if_pos (jc.mpr (.inr ((hc q hq).mpr c1))), ea]
      · rw [if_neg (fun z => c1 z.1)]
        by_cases c2 : cont (look S s) q = true
        · rw [if_pos c2, if_pos (jc.mpr (.inl c2))]
        · rw [if_neg c2, if_neg]
          intro z
          rcases jc.mp z with z | z
          · exact c2 z
          · exact c1 ((hc q hq).mp z)
    · rw [if_neg (fun z => hx z.2), if_neg hx]
  have w0 := tb.lk a wa t
  have wt := tb.lk b wb t
  rw [eb, Int.sub_self, sg_zero] at wt
  rw [eb] at w0
  by_cases cn : look S t = none
  · have hk : kd L S (s, t) = "all" := by
      unfold kd
      rw [cn]; rfl
    have hr : rc L S (s, t) = (none, none) := by unfold rc; rw [hk]; rfl
    have no : ∀ q ∈ Win, (f q).lookup t = none := fun q hq => by
      rw [tb.lk q hq t, cn]
      exact if_neg (by simp [cont])
    refine key (-4) 34 (by rw [hr]; rfl) (fun q hq => by
      rw [hr]
      have := mem_win.mp hq
      simp [cont]
      omega) (by omega) (by omega) ?_
    have hR := trailR_free (f := f) (t := t) _ (a + 1) rfl (by omega) fun q hq _ => .inl (no q hq)
    have hL := trailL_free (f := f) (t := t) _ (a - 1) rfl (by omega) fun q hq _ => .inl (no q hq)
    have e : a - 1 + 1 = a := by omega
    rw [e] at hL
    exact flow_both hne ha wa hl (no a wa) hR hL (by rw [len_W]; omega) (by rw [List.length_reverse, len_W]; omega) (fun q hq => by have := mem_W.mp hq; omega) fun q hq => by have := mem_W.mp (List.mem_reverse.mp hq); omega
  · have cb := iv_own own cn
    rw [eb] at cb
    rw [if_pos cb] at wt
    by_cases ca : cont (look S t) a = true
    · -- direct
      have hk : kd L S (s, t) = "direct" := by
        unfold kd
        rw [ea]
        cases q : look S t with
        | none => exact absurd q cn
        | some iv =>
          rw [q] at ca
          unfold kindS
          simp [ca]
      have hr : rc L S (s, t) = (some (if b < a then b else a), some (if b > a then b else a)) := by unfold rc; rw [hk, ea, eb]; rfl
      rw [if_pos ca] at w0
      by_cases lt : a < b
      · rw [sg_pos (by omega)] at w0
        have hT := trailR_to (f := f) (t := t) (b := b) (by omega) wt _ (a + 1) rfl (by omega) (by omega) fun q hq h1 h2 => by
          rw [tb.lk q hq t, if_pos (iv_conv ca cb (by omega) (by omega)), eb, sg_pos (by omega)]
          exact .inr rfl
        have fo := flow_one hne ha wa hl (.inl rfl) w0 hT (by rw [len_W]; omega) fun q hq => by
          have := mem_W.mp hq
          rw [sg_neg (by omega)]
          rfl
        refine key a b (by rw [hr]; unfold reachW loR hiR; simp only [Option.getD_some]; rw [if_neg (by omega), if_pos (by omega)]) (fun q hq => by
          rw [hr, cont_iff]
          constructor
          · intro z
            have z1 := z.1 _ rfl
            have z2 := z.2 _ rfl
            rw [if_neg (by omega)] at z1
            rw [if_pos (by omega)] at z2
            exact ⟨z1, z2⟩
          · intro z
            refine ⟨fun i e => ?_, fun i e => ?_⟩
            · cases e; rw [if_neg (by omega)]; exact z.1
            · cases e; rw [if_pos (by omega)]; exact z.2) (Int.le_refl _) (by omega) ?_
        rw [W_nil (lo := a) (Int.le_refl _), List.reverse_nil, List.append_nil]
        exact fo
      · rw [sg_neg (by omega)] at w0
        have hT := trailL_to (f := f) (t := t) (b := b) (by omega) wt _ (a + -1) rfl (by omega) (by omega) fun q hq h1 h2 => by
          rw [tb.lk q hq t, if_pos (iv_conv cb ca (by omega) (by omega)), eb, sg_neg (by omega)]
          exact .inr rfl
        have e : a + -1 + 1 = a := by omega
        rw [e] at hT
        have fo := flow_one hne ha wa hl (.inr rfl) w0 hT (by rw [List.length_reverse, len_W]; omega) fun q hq => by
          have := mem_W.mp (List.mem_reverse.mp hq)
          rw [sg_pos (by omega)]
          rfl
        refine key b a (by rw [hr]; unfold reachW loR hiR; simp only [Option.getD_some]; rw [if_pos (by omega), if_neg (by omega)]) (fun q hq => by
          rw [hr, cont_iff]
          constructor
          · intro z
            have z1 := z.1 _ rfl
            have z2 := z.2 _ rfl
            rw [if_pos (by omega)] at z1
            rw [if_neg (by omega)] at z2
            exact ⟨z1, z2⟩
          · intro z
            refine ⟨fun i e => ?_, fun i e => ?_⟩
            · cases e; rw [if_pos (by omega)]; exact z.1
            · cases e; rw [if_neg (by omega)]; exact z.2) (by omega) (Int.le_refl _) ?_
        rw [W_nil (lo := a + 1) (by omega)]
        exact fo
    · -- flood
      have hk : kd L S (s, t) = "flood" := by
        unfold kd
        rw [ea]
        cases q : look S t with
        | none => exact absurd q cn
        | some iv =>
          rw [q] at ca
          unfold kindS
          simp [ca]
      have hr : rc L S (s, t) = if a < b then (none, some b) else (some b, none) := by unfold rc; rw [hk, ea, eb]; rfl
      rw [if_neg ca] at w0
      by_cases lt : a < b
      · rw [if_pos lt] at hr
        have hT := trailR_to (f := f) (t := t) (b := b) (by omega) wt _ (a + 1) rfl (by omega) (by omega) fun q hq h1 h2 => by
          rw [tb.lk q hq t, eb, sg_pos (by omega)]
          by_cases c : cont (look S t) q = true
          · rw [if_pos c]; exact .inr rfl
          · rw [if_neg c]; exact .inl rfl
        have hL := trailL_free (f := f) (t := t) _ (a - 1) rfl (by omega) fun q hq h1 => by
          rw [tb.lk q hq t, if_neg]
          · exact .inl rfl
          · exact fun z => ca (iv_conv z cb (by omega) (by omega))
        have e : a - 1 + 1 = a := by omega
        rw [e] at hL
        refine key (-4) b (by rw [hr]; rfl) (fun q hq => by
          have := mem_win.mp hq
          rw [hr]
          simp [cont]
          omega) (by omega) (by omega) ?_
        exact flow_both hne ha wa hl w0 hT hL (by rw [len_W]; omega) (by rw [List.length_reverse, len_W]; omega) (fun q hq => by have := mem_W.mp hq; omega) fun q hq => by have := mem_W.mp (List.mem_reverse.mp hq); omega
      · rw [if_neg lt] at hr
        have hR := trailR_free (f := f) (t := t) _ (a + 1) rfl (by omega) fun q hq h1 => by
          rw [tb.lk q hq t, if_neg]
          · exact .inl rfl
          · exact fun z => ca (iv_conv cb z (by omega) (by omega))
        have hT := trailL_to (f := f) (t := t) (b := b) (by omega) wt _ (a - 1) rfl (by omega) (by omega) fun q hq h1 h2 => by
          rw [tb.lk q hq t, eb, sg_neg (by omega)]
          by_cases c : cont (look S t) q = true
          · rw [if_pos c]; exact .inr rfl
          · rw [if_neg c]; exact .inl rfl
        have e : a - 1 + 1 = a := by omega
        rw [e] at hT
        refine key b 34 (by rw [hr]; rfl) (fun q hq => by
          have := mem_win.mp hq
          rw [hr]
          simp [cont]
          omega) (by omega) (by omega) ?_
        exact flow_both hne ha wa hl w0 hR hT (by rw [len_W]; omega) (by rw [List.length_reverse, len_W]; omega) (fun q hq => by have := mem_W.mp hq; omega) fun q hq => by have := mem_W.mp (List.mem_reverse.mp hq); omega
end LW

set_option Elab.async false
set_option maxRecDepth 100000
set_option exponentiation.threshold 100000
namespace LW
open PySem FL
/-- ends at positions from 0 to 30, in order -/
structure Rng (r : Rg) : Prop where
  lo : ∀ i, r.1 = some i → 0 ≤ i ∧ i ≤ 30
  hi : ∀ i, r.2 = some i → 0 ≤ i ∧ i ≤ 30
  le : loR r ≤ hiR r
theorem Rng.lo4 {r : Rg} (h : Rng r) : -4 ≤ loR r ∧ loR r ≤ 30 := by
  unfold loR
  cases e : r.1 with
  | none => simp
  | some i => have := h.lo i e; simp; omega
theorem Rng.hi34 {r : Rg} (h : Rng r) : 0 ≤ hiR r ∧ hiR r ≤ 34 := by
  unfold hiR
  cases e : r.2 with
  | none => simp
  | some i => have := h.hi i e; simp; omega
theorem rng_cont {r : Rg} (h : Rng r) {q : Int} (hq : q ∈ Win) : cont (some r) q = true ↔ loR r ≤ q ∧ q ≤ hiR r := by
  have w := mem_win.mp hq
  obtain ⟨u, v⟩ := r
  rw [cont_iff]
  unfold loR hiR
  constructor
  · intro z
    refine ⟨?_, ?_⟩
    · cases u with
      | none => simp; omega
      | some i => exact z.1 i rfl
    · cases v with
      | none => simp; omega
      | some i => exact z.2 i rfl
  · intro z
    exact ⟨fun i e => by cases e; exact z.1, fun i e => by cases e; exact z.2⟩
theorem win_filter {r : Rg} (h : Rng r) : Win.filter (fun q => cont (some r) q) = reachW r := by
  have h1 := h.lo4
  have h2 := h.hi34
  have h3 := h.le
  have e : Win = Wl (-4) (loR r) ++ (Wl (loR r) (hiR r + 1) ++ Wl (hiR r + 1) 35) := by
    rw [W_app (by omega) (by omega), W_app (by omega) (by omega)]; rfl
  have c : ∀ q ∈ Win, cont (some r) q = true ↔ loR r ≤ q ∧ q ≤ hiR r := fun q hq => rng_cont h hq
  have w : ∀ q, -4 ≤ q → q < 35 → q ∈ Win := fun q a b => mem_win.mpr ⟨a, b⟩
  rw [e, List.filter_append, List.filter_append]
  have f1 : (Wl (-4) (loR r)).filter (fun q => cont (some r) q) = [] := List.filter_eq_nil_iff.mpr fun q hq => by
    have := mem_W.mp hq
    intro z
    have := (c q (w q (by omega) (by omega))).mp z
    omega
  have f2 : (Wl (hiR r + 1) 35).filter (fun q => cont (some r) q) = [] := List.filter_eq_nil_iff.mpr fun q hq => by
    have := mem_W.mp hq
    intro z
    have := (c q (w q (by omega) (by omega))).mp z
    omega
  have f3 : (Wl (loR r) (hiR r + 1)).filter (fun q => cont (some r) q) = Wl (loR r) (hiR r + 1) := List.filter_eq_self.mpr fun q hq => by
    have := mem_W.mp hq
    exact (c q (w q (by omega) (by omega))).mpr ⟨by omega, by omega⟩
  rw [f1, f2, f3, List.nil_append, List.append_nil]
  rfl
theorem W_first {r : Rg} (h : Rng r) : L2.atI ((reachW r).map FL.D.int) 0 = some (.int (loR r)) := by
  unfold reachW
  rw [W_cons (by have := h.le; omega), List.map_cons, at_int (by decide) (by simp)]
  rfl
theorem W_last {r : Rg} (h : Rng r) : L2.atI ((reachW r).map FL.D.int) (-1) = some (.int (hiR r)) := by
  unfold reachW
  rw [W_snoc h.le, List.map_append]
  exact at_last
theorem W_nonnil {r : Rg} (h : Rng r) : reachW r ≠ [] := by
  unfold reachW
  rw [W_snoc h.le]
  simp
theorem W_len {r : Rg} (h : Rng r) : (reachW r).length ≤ 60 := by
  unfold reachW
  rw [len_W]
  have := h.lo4
  have := h.hi34
  omega
theorem eq_ints (ns : List Int) (m : List Int) : (ns.map FL.D.int).all (flat 39) = true := flat_ints 39 ns
theorem lends_nil {T1 : T} (h : T1 = .ow (.lst []) ∨ T1 = .fz (.lst [])) : f__law_ends [T1, .fz (.int (-4)), .fz (.int 34)] = some (.fz .non, [T1, .fz (.int (-4)), .fz (.int 34)]) := by
  have e := eq_nil (xs := []) rfl
  rcases h with rfl | rfl <;> simp [f__law_ends, b__law_ends, defF_ev, startE, kpl, List.replicate, e]
theorem lends_r {r : Rg} (hr : Rng r) {T1 : T} (h : T1 = .ow (.lst ((reachW r).map .int)) ∨ T1 = .fz (.lst ((reachW r).map .int))) : f__law_ends [T1, .fz (.int (-4)), .fz (.int 34)] = some (.fz (ivD (some r)), [T1, .fz (.int (-4)), .fz (.int 34)]) := by
  have e := eq_nil (xs := (reachW r).map FL.D.int) (flat_ints 39 _)
  have ne : ((reachW r).map FL.D.int).isEmpty = false := by
    cases c : (reachW r) with
    | nil => exact absurd c (W_nonnil hr)
    | cons x xs => rfl
  rw [ne] at e
  have i0 := W_first hr
  have i1 := W_last hr
  have l1 := hr.lo4
  have l2 := hr.hi34
  generalize (reachW r).map FL.D.int = RW at *
  obtain ⟨u, v⟩ := r
  have hu : ∀ i, u = some i → ¬ i = -4 := fun i e => by have := hr.lo i e; omega
  have hv : ∀ i, v = some i → ¬ i = 34 := fun i e => by have := hr.hi i e; omega
  unfold loR at i0
  unfold hiR at i1
  have o1 : ∀ i : Int, oD (some i) = .int i := fun i => rfl
  have o0 : oD none = .non := rfl
  cases u with
  | none =>
    cases v with
    | none => rcases h with rfl | rfl <;> simp [f__law_ends, b__law_ends, defF_ev, startE, kpl, List.replicate, e, i0, i1, ivD, o0, o1] <;> simp at i0 i1 <;> simp [i0, i1]
    | some j => have hj := hv j rfl; rcases h with rfl | rfl <;> simp at i0 i1 <;> simp [f__law_ends, b__law_ends, defF_ev, startE, kpl, List.replicate, e, i0, i1, ivD, o0, o1, hj]
  | some i =>
    have hi := hu i rfl
    cases v with
    | none => rcases h with rfl | rfl <;> simp at i0 i1 <;> simp [f__law_ends, b__law_ends, defF_ev, startE, kpl, List.replicate, e, i0, i1, ivD, o0, o1, hi]
    | some j => have hj := hv j rfl; rcases h with rfl | rfl <;> simp at i0 i1 <;> simp [f__law_ends, b__law_ends, defF_ev, startE, kpl, List.replicate, e, i0, i1, ivD, o0, o1, hi, hj]
theorem ne_iv (iv : Iv) : op2 .ne (ivD iv) (ivD iv) = some (.fz (.bl false)) := by
  rcases iv with _ | ⟨u, v⟩
  · rfl
  · cases u <;> cases v <;> simp [ivD, oD, op2, eqT, flat, eqF, all2, bR]
end LW

set_option Elab.async false
set_option maxRecDepth 100000
set_option exponentiation.threshold 100000
namespace LW
open PySem FL
theorem plays_snoc {L : Line} {p : Str × Str} : ∀ (fs : Frs) (S : Stt), plays L S (fs ++ [p]) = ((plays L S fs).1 ++ [kd L (plays L S fs).2 p], nxt L (plays L S fs).2 p)
  | [], S => rfl
  | q :: fs, S => by
    show (kd L S q :: (plays L (nxt L S q) (fs ++ [p])).1, (plays L (nxt L S q) (fs ++ [p])).2) = _
    rw [plays_snoc fs (nxt L S q)]
    rfl
theorem plays_len {L : Line} : ∀ (fs : Frs) (S : Stt), (plays L S fs).1.length = fs.length
  | [], S => rfl
  | q :: fs, S => by
    show ((plays L (nxt L S q) fs).1.length + 1) = _
    rw [plays_len fs]; rfl
theorem lr2_ev {F F2 : Sm} {ρ ρ1 ρ2 : En} {i j : Int} (h1 : F ρ = some (.fz (.int i), ρ1)) (h2 : F2 ρ1 = some (.fz (.int j), ρ2)) (hi : i.natAbs < 1000) (hj : j.natAbs < 1000) : lrF2 F F2 ρ = some (.nw (.ow (.lst ((Wl i j).map .int))), ρ2) := by
  show (F ρ).bind _ = _
  rw [h1]
  show (F2 ρ1).bind _ = _
  rw [h2]
  show (if okRg i j = true then some (R.nw (.ow (.lst (rangeD i j))), ρ2) else none) = _
  have : okRg i j = true := by
    unfold okRg big62
    simp
    omega
  rw [if_pos this, range_W]
def envK (L : Line) (sD : List FL.D) (f : Int → Line) (ks : List Str) (S : Stt) (c5 c6 c7 c8 c9 c10 c11 c12 : Option T) : En := [some (.fz (.dic (lineK L))), some (.fz (.lst sD)), some (.dd (tabE Win f)), some (.ow (.lst (ks.map .str))), some (.fz (.dic (sttK S))), c5, c6, c7, c8, c9, c10, c11, c12, none]
theorem tab_keys (f : Int → Line) : (tabE Win f).map (fun p => dOf p.1) = Win.map FL.D.int := by
  unfold tabE
  rw [List.map_map]
  rfl
theorem in_tab (l : Line) (x : Str) : op2 .isin (.str x) (.dic (lineK l)) = some (.fz (.bl (l.lookup x).isSome)) := by
  have : op2 .isin (.str x) (.dic (lineK l)) = some (.fz (.bl (dfind (lineK l) (.inr x)).isSome)) := rfl
  rw [this, find_L]
  cases l.lookup x <;> rfl
theorem iv_rng {L : Line} (sm : Small L) {x : Str} {a : Int} (hx : L.lookup x = some a) {r : Rg} (h : IvOk L x (some r)) : Rng r := by
  obtain ⟨u, v⟩ := r
  have hp := pos_of hx
  have sa := sm _ (lookup_mem hx)
  simp only at sa
  have inS : ∀ i, i ∈ L.map (·.2) → 0 ≤ i ∧ i ≤ 30 := fun i hi => by
    obtain ⟨p, hp, rfl⟩ := List.mem_map.mp hi
    exact sm p hp
  refine ⟨fun i e => inS i (h.1 i e).1, fun i e => inS i (h.2 i e).1, ?_⟩
  unfold loR hiR
  cases u with
  | none =>
    cases v with
    | none => decide
    | some j => have := h.2 j rfl; simp; omega
  | some i =>
    have h1 := h.1 i rfl
    cases v with
    | none => have := inS i h1.1; simp; omega
    | some j => have := h.2 j rfl; simp; omega
theorem name_turn {L : Line} (ok : LineOk L) (sm : Small L) {S : Stt} (v : StV L S) {f : Int → Line} (tb : Tab L S f) {x : Str} {a : Int} (hx : L.lookup x = some a) (sD : List FL.D) (ks : List Str) (c5 c6 c7 c8 c9 c10 c12 : Option T) :
    ∃ c', l__law_right_1 (envK L sD f ks S c5 c6 c7 c8 c9 c10 (some (.fz (.str x))) c12) = some (.nx, envK L sD f ks S c5 c6 c7 c8 c9 c10 (some (.fz (.str x))) c') := by
  obtain ⟨iv, hiv⟩ := v.ok.2 x a hx
  have hlk := look_of hiv
  have io := v.look x
  rw [hlk] at io
  have fs := find_stt hiv
  have tk : ∀ q ∈ Win, ((f q).lookup x).isSome = cont iv q := fun q hq => by
    rw [tb.lk q hq x, hlk]
    cases cont iv q <;> rfl
  have go := lc_mapc (vs := [13]) (g := gNm 13) (F := ddIn (vr 11) 2 (vr 13)) (Fe := vr 13) (ρ := envK L sD f ks S c5 c6 c7 c8 c9 c10 (some (.fz (.str x))) c12) (inj := FL.D.int) (st := fun q => [some (.fz (.dic (lineK L))), some (.fz (.lst sD)), some (.dd (tabE Win f)), some (.ow (.lst (ks.map .str))), some (.fz (.dic (sttK S))), c5, c6, c7, c8, c9, c10, some (.fz (.str x)), c12, some (.fz (.int q))]) (f := fun q => .int q) (c := fun q => cont iv q) (xs := Win) (acc := [])
    (fun q hq => by simp [envK]) (fun q hq => by
      have di := in_tab (f q) x
      rw [tk q hq] at di
      have kI : keyOf (.int q) = some (.inl q) := rfl
      have tf := tab_find f hq
      generalize tabE Win f = TB at *
      generalize cont iv q = cb at *
      simp only [tst, ddIn_ev]
      simp [kI, tf, di]) (fun q hq => ⟨.fz (.int q), by simp, rfl⟩) (fun q hq => by simp [envK]) (s9 (by simp [Win, len_W]))
  rw [List.nil_append] at go
  have it : itR2 (uno ngD (cst (.int 4))) (cst (.int 35)) (envK L sD f ks S c5 c6 c7 c8 c9 c10 (some (.fz (.str x))) c12) = some (Win.map .int, envK L sD f ks S c5 c6 c7 c8 c9 c10 (some (.fz (.str x))) c12) := by
    have : rangeD (-4) 35 = Win.map .int := range_W _ _
    rw [← this]
    rfl
  have e0 : (Win.filter fun q => cont iv q).map (fun q => FL.D.int q) = (Win.filter fun q => cont iv q).map FL.D.int := rfl
  rw [e0] at go
  have nv := ne_iv iv
  rcases iv with _ | r
  · have el : Win.filter (fun q => cont none q) = [] := List.filter_eq_nil_iff.mpr fun q _ => by simp [cont]
    rw [el] at go
    have le := lends_nil (T1 := .ow (.lst [])) (.inl rfl)
    have nn := ne_nil (xs := []) rfl
    refine ⟨some (.ow (.lst [])), ?_⟩
    unfold envK at *
    generalize tabE Win f = TB at *
    generalize sttK S = SK at *
    generalize ks.map FL.D.str = KS at *
    generalize lineK L = LK at *
    have iv0 : ivD none = .non := rfl
    rw [iv0] at fs nv
    simp [l__law_right_1, it, go, le, fs, nv, nn]
  · have rg := iv_rng sm hx io
    rw [win_filter rg] at go
    have le := lends_r rg (T1 := .ow (.lst ((reachW r).map .int))) (.inl rfl)
    have nn := ne_nil (xs := (reachW r).map FL.D.int) (flat_ints 39 _)
    have ne : ((reachW r).map FL.D.int).isEmpty = false := by
      cases c : (reachW r) with
      | nil => exact absurd c (W_nonnil rg)
      | cons x xs => rfl
    rw [ne] at nn
    have ns := ne_ints (reachW r)
    have i0 := W_first rg
    have i1 := W_last rg
    have l1 := rg.lo4
    have l2 := rg.hi34
    have rw_ : (Wl (loR r) (hiR r + 1)).map FL.D.int = (reachW r).map FL.D.int := rfl
    refine ⟨some (.ow (.lst ((reachW r).map .int))), ?_⟩
    unfold envK at *
    generalize tabE Win f = TB at *
    generalize sttK S = SK at *
    generalize ks.map FL.D.str = KS at *
    generalize lineK L = LK at *
    have lr := lr2_ev (F := bin ixD (vr 12) (cst (.int 0))) (F2 := bin (op2 .add) (bin ixD (vr 12) (uno ngD (cst (.int 1)))) (cst (.int 1))) (ρ := [some (.fz (.dic LK)), some (.fz (.lst sD)), some (.dd TB), some (.ow (.lst KS)), some (.fz (.dic SK)), c5, c6, c7, c8, c9, c10, some (.fz (.str x)), some (.ow (.lst ((reachW r).map .int))), none])
      (ρ1 := [some (.fz (.dic LK)), some (.fz (.lst sD)), some (.dd TB), some (.ow (.lst KS)), some (.fz (.dic SK)), c5, c6, c7, c8, c9, c10, some (.fz (.str x)), some (.ow (.lst ((reachW r).map .int))), none])
      (ρ2 := [some (.fz (.dic LK)), some (.fz (.lst sD)), some (.dd TB), some (.ow (.lst KS)), some (.fz (.dic SK)), c5, c6, c7, c8, c9, c10, some (.fz (.str x)), some (.ow (.lst ((reachW r).map .int))), none]) (i := loR r) (j := hiR r + 1)
      (by simp [i0]) (by simp [i1]) (by omega) (by omega)
    rw [rw_] at lr
    generalize (reachW r).map FL.D.int = RW at *
    generalize ivD (some r) = ivd at *
    simp [l__law_right_1, it, go, le, fs, nv, nn, lr, ns]
end LW

set_option Elab.async false
set_option maxRecDepth 100000
set_option exponentiation.threshold 100000
namespace LW
open PySem FL
theorem names_go {L : Line} (ok : LineOk L) (sm : Small L) {S : Stt} (v : StV L S) {f : Int → Line} (tb : Tab L S f) (sD : List FL.D) (ks : List Str) (c5 c6 c7 c8 c9 c10 : Option T) : ∀ (xs : List Str) (c11 c12 : Option T), (∀ x ∈ xs, ∃ a, L.lookup x = some a) →
    ∃ c11' c12', forGo (gNm 11) l__law_right_1 (xs.map .str) (envK L sD f ks S c5 c6 c7 c8 c9 c10 c11 c12) = some (.nx, envK L sD f ks S c5 c6 c7 c8 c9 c10 c11' c12')
  | [], c11, c12, _ => ⟨c11, c12, rfl⟩
  | x :: xs, c11, c12, h => by
    obtain ⟨a, ha⟩ := h x List.mem_cons_self
    obtain ⟨c', e⟩ := name_turn ok sm v tb ha sD ks c5 c6 c7 c8 c9 c10 c12
    obtain ⟨d1, d2, e2⟩ := names_go ok sm v tb sD ks c5 c6 c7 c8 c9 c10 xs (some (.fz (.str x))) c' fun y hy => h y (List.mem_cons_of_mem _ hy)
    exact ⟨d1, d2, by rw [List.map_cons, forGo_cons (by simp [envK]) e, e2]⟩
theorem take_frs (fs : Frs) (n : Nat) : cutD (frsL fs) none (some (n : Int)) = frsL (fs.take n) := by
  unfold cutD frsL
  rw [HT.sIx_none, HT.sIx_nat, List.drop_zero, Nat.sub_zero, List.length_map]
  rcases Nat.le_total n fs.length with h | h
  · rw [Nat.min_eq_left h, List.map_take]
  · rw [Nat.min_eq_right h, List.take_of_length_le h, List.take_of_length_le (by rw [List.length_map]; exact Nat.le_refl _)]
theorem kd_cases {L : Line} {S : Stt} {s t : Str} : kd L S (s, t) = if look S t = none then ("all" : Str) else if cont (look S t) (posL L s) = true then ("direct" : Str) else ("flood" : Str) := by
  unfold kd
  cases q : look S t with
  | none => simp only [if_true]; rfl
  | some iv =>
    rw [if_neg (by simp)]
    rfl
theorem pair_turn {L : Line} (ok : LineOk L) (sm : Small L) {fs done rest : Frs} {p : Str × Str} (hf : ∀ p ∈ fs, FrOk L p) (hl : fs.length ≤ 300) (e : fs = done ++ p :: rest) {f : Int → Line} (tb : Tab L (plays L (start0 L) done).2 f) (hlen : ∀ q, (f q).length < 80000) (c6 c7 c8 c9 c10 c11 c12 : Option T) :
    ∃ (f2 : Int → Line) (d6 d7 d8 d9 d10 d11 d12 : Option T), l__law_right_2 (envK L (frsL fs) f (plays L (start0 L) done).1 (plays L (start0 L) done).2 (some (.fz (frD p.1 p.2))) c6 c7 c8 c9 c10 c11 c12) =
      some (.nx, envK L (frsL fs) f2 (plays L (start0 L) (done ++ [p])).1 (plays L (start0 L) (done ++ [p])).2 (some (.fz (frD p.1 p.2))) d6 d7 d8 d9 d10 d11 d12) ∧ Tab L (plays L (start0 L) (done ++ [p])).2 f2 ∧ ∀ q, (f2 q).length ≤ (f q).length + 200 := by
  have hp : FrOk L p := hf p (by rw [e]; simp)
  have hd : ∀ q ∈ done, FrOk L q := fun q hq => hf q (by rw [e]; simp [hq])
  have v : StV L (plays L (start0 L) done).2 := (start_v ok).plays hd
  have hkl : (plays L (start0 L) done).1.length = done.length := plays_len _ _
  have hdl : done.length < 300 := by
    have := congrArg List.length e
    simp at this
    omega
  have ps := plays_snoc (L := L) (p := p) done (start0 L)
  have kw := known_ev ok (fs := done ++ [p]) (fun q hq => by
    rcases List.mem_append.mp hq with h | h
    · exact hd q h
    · rw [List.mem_singleton.mp h]; exact hp) (by rw [List.length_append, List.length_singleton]; omega) (o := none) (fun S h => by cases h)
  have est : stOf L none = start0 L := rfl
  rw [est, ps] at kw
  have tk : fs.take (done.length + 1) = done ++ [p] := by
    rw [e, List.take_append, List.take_of_length_le (by omega)]
    congr 1
    have : done.length + 1 - done.length = 1 := by omega
    rw [this]; rfl
  rw [ps]
  generalize (plays L (start0 L) done).2 = S at *
  generalize (plays L (start0 L) done).1 = ks at *
  have ko := kind_of_ev ok v hp
  have ro := reach_of_ev ok v hp
  obtain ⟨f2, fl, tb2, ln2⟩ := flow_ok ok sm v hp tb hlen
  have v2 : StV L (nxt L S p) := v.nxt hp
  obtain ⟨s, t⟩ := p
  obtain ⟨⟨a, ha⟩, ⟨b, hb⟩, hne⟩ := hp
  have ha : L.lookup s = some a := ha
  have hb : L.lookup t = some b := hb
  simp only at ko ro fl
  have sa := sm _ (lookup_mem ha)
  have sb := sm _ (lookup_mem hb)
  simp only at sa sb
  have wa : a ∈ Win := mem_win.mpr (by omega)
  have wb : b ∈ Win := mem_win.mpr (by omega)
  have rg : Rng (rc L S (s, t)) := iv_rng sm ha (ivok_reach (L := L) (p := (s, t)) ⟨⟨a, ha⟩, ⟨b, hb⟩, hne⟩ _)
  have hkd := kd_cases (L := L) (S := S) (s := s) (t := t)
  rw [pos_of ha] at hkd
  -- what the switches know of the target
  have tkn : ∀ q ∈ Win, ((f q).lookup t).isSome = cont (look S t) q := fun q hq => by
    rw [tb.lk q hq t]
    cases cont (look S t) q <;> rfl
  have fa := find_line ha
  have go3 : ∀ c6 c7 : Option T, lcGo [13] (gNm 13) (some (ddIn (bin ixD (vr 5) (cst (.int 1))) 2 (vr 13))) (vr 13) (Win.map FL.D.int) [] (envK L (frsL fs) f ks S (some (.fz (frD s t))) c6 c7 c8 c9 c10 c11 c12) = some ((Win.filter fun q => cont (look S t) q).map FL.D.int, envK L (frsL fs) f ks S (some (.fz (frD s t))) c6 c7 c8 c9 c10 c11 c12) := fun c6 c7 => by
    have go := lc_mapc (vs := [13]) (g := gNm 13) (F := ddIn (bin ixD (vr 5) (cst (.int 1))) 2 (vr 13)) (Fe := vr 13) (ρ := envK L (frsL fs) f ks S (some (.fz (frD s t))) c6 c7 c8 c9 c10 c11 c12) (inj := FL.D.int) (st := fun q => [some (.fz (.dic (lineK L))), some (.fz (.lst (frsL fs))), some (.dd (tabE Win f)), some (.ow (.lst (ks.map .str))), some (.fz (.dic (sttK S))), some (.fz (frD s t)), c6, c7, c8, c9, c10, c11, c12, some (.fz (.int q))]) (f := fun q => .int q) (c := fun q => cont (look S t) q) (xs := Win) (acc := [])
      (fun q hq => by simp [envK]) (fun q hq => by
        have di := in_tab (f q) t
        rw [tkn q hq] at di
        have kI : keyOf (.int q) = some (.inl q) := rfl
        have tf := tab_find f hq
        generalize tabE Win f = TB at *
        generalize cont (look S t) q = cb at *
        simp only [tst, ddIn_ev]
        simp [kI, tf, di, frD]) (fun q hq => ⟨.fz (.int q), by simp, rfl⟩) (fun q hq => by simp [envK]) (s9 (by simp [Win, len_W]))
    rw [List.nil_append] at go
    exact go
  have nn3 := ne_nil (xs := (Win.filter fun q => cont (look S t) q).map FL.D.int) (flat_ints 39 _)
  have di := in_tab (f a) t
  rw [tkn a wa] at di
  have tf := tab_find f wa
  have kI : keyOf (.int a) = some (.inl a) := rfl
  have tkeys := tab_keys f
  obtain ⟨kn, hkn, hk2⟩ : ∃ kn : Bool, ((Win.filter fun q => cont (look S t) q).map FL.D.int).isEmpty = !kn ∧ kd L S (s, t) = if kn = true then (if cont (look S t) a = true then ("direct" : Str) else ("flood" : Str)) else ("all" : Str) := by
    by_cases c : look S t = none
    · refine ⟨false, ?_, ?_⟩
      · have : (Win.filter fun q => cont (look S t) q) = [] := List.filter_eq_nil_iff.mpr fun q _ => by rw [c]; simp [cont]
        rw [this]; rfl
      · rw [hkd, if_pos c]; rfl
    · refine ⟨true, ?_, ?_⟩
      · have cb := iv_own (v.look t) c
        rw [pos_of hb] at cb
        cases q : (Win.filter fun q => cont (look S t) q) with
        | nil =>
          have := List.filter_eq_nil_iff.mp q b wb
          exact absurd cb this
        | cons x xs => rfl
      · rw [hkd, if_neg c, if_pos rfl]
  rw [hkn, Bool.not_not] at nn3
  have l2 : (2 : Nat) ≤ sizeLine := s9 (by decide)
  have apK : apD (.lst (ks.map .str)) [.str (kd L S (s, t))] = some (.lst ((ks ++ [kd L S (s, t)]).map .str), .non) := by
    rw [apD_ev (by rw [List.length_map]; omega), List.map_append]; rfl
  have lastK : L2.atI ((ks ++ [kd L S (s, t)]).map FL.D.str) (-1) = some (.str (kd L S (s, t))) := by
    rw [List.map_append]; exact at_last
  have lenK : ((ks ++ [kd L S (s, t)]).map FL.D.str).length = done.length + 1 := by
    rw [List.length_map, List.length_append, hkl]; rfl
  have cut := take_frs fs (done.length + 1)
  rw [tk, show ((done.length + 1 : Nat) : Int) = (done.length : Int) + 1 from by omega] at cut
  have lends := lends_r rg (T1 := .fz (.lst ((reachW (rc L S (s, t))).map .int))) (.inr rfl)
  have i0 := W_first rg
  have i1 := W_last rg
  have g1 := rg.lo4
  have g2 := rg.hi34
  have nsw := ne_ints (reachW (rc L S (s, t)))
  have nv := ne_iv (some (rc L S (s, t)))
  have rw_ : (Wl (loR (rc L S (s, t))) (hiR (rc L S (s, t)) + 1)).map FL.D.int = (reachW (rc L S (s, t))).map FL.D.int := rfl
  obtain ⟨d11, d12, e9⟩ := names_go ok sm v2 tb2 (frsL fs) (ks ++ [kd L S (s, t)]) (some (.fz (frD s t))) (some (.fz (.str (kd L S (s, t))))) (some (.fz (ivD (some (rc L S (s, t)))))) (some (.fz (.bl kn))) (some (.fz (.bl (cont (look S t) a)))) (some (.fz (.lst ((reachW (rc L S (s, t))).map .int)))) (L.map (·.1)) c11 c12 fun x hx => lookup_ex hx
  have ekeys : (lineK L).map (fun q => dOf q.1) = (L.map (·.1)).map FL.D.str := by unfold lineK; rw [List.map_map, List.map_map]; rfl
  refine ⟨f2, some (.fz (.str (kd L S (s, t)))), some (.fz (ivD (some (rc L S (s, t))))), some (.fz (.bl kn)), some (.fz (.bl (cont (look S t) a))), some (.fz (.lst ((reachW (rc L S (s, t))).map .int))), d11, d12, ?_, tb2, ln2⟩
  -- step by step
  have s1 : (setF 6 (cll [(vr 0), (vr 4), (bin ixD (vr 5) (cst (.int 0))), (bin ixD (vr 5) (cst (.int 1)))] [] f_kind_of)) (envK L (frsL fs) f ks S (some (.fz (frD s t))) c6 c7 c8 c9 c10 c11 c12) = some (.nx, envK L (frsL fs) f ks S (some (.fz (frD s t))) (some (.fz (.str (kd L S (s, t))))) c7 c8 c9 c10 c11 c12) := by
    unfold envK frD
    generalize tabE Win f = TB at *
    generalize sttK S = SK at *
    generalize ks.map FL.D.str = KS at *
    generalize lineK L = LK at *
    generalize frsL fs = FD at *
    simp [ko]
  have s2 : (setF 7 (cll [(vr 0), (vr 4), (bin ixD (vr 5) (cst (.int 0))), (bin ixD (vr 5) (cst (.int 1)))] [] f_reach_of)) (envK L (frsL fs) f ks S (some (.fz (frD s t))) (some (.fz (.str (kd L S (s, t))))) c7 c8 c9 c10 c11 c12) = some (.nx, envK L (frsL fs) f ks S (some (.fz (frD s t))) (some (.fz (.str (kd L S (s, t))))) (some (.fz (ivD (some (rc L S (s, t)))))) c8 c9 c10 c11 c12) := by
    unfold envK frD
    generalize tabE Win f = TB at *
    generalize sttK S = SK at *
    generalize ks.map FL.D.str = KS at *
    generalize lineK L = LK at *
    generalize frsL fs = FD at *
    simp [ro]
  have s3 : (setF 8 (bin (op2 .ne) (lcF [13] (itDD 2) (gNm 13) (some (ddIn (bin ixD (vr 5) (cst (.int 1))) 2 (vr 13))) (vr 13)) (froz [] lstF))) (envK L (frsL fs) f ks S (some (.fz (frD s t))) (some (.fz (.str (kd L S (s, t))))) (some (.fz (ivD (some (rc L S (s, t)))))) c8 c9 c10 c11 c12) = some (.nx, envK L (frsL fs) f ks S (some (.fz (frD s t))) (some (.fz (.str (kd L S (s, t))))) (some (.fz (ivD (some (rc L S (s, t)))))) (some (.fz (.bl kn))) c9 c10 c11 c12) := by
    have g3 := go3 (some (.fz (.str (kd L S (s, t))))) (some (.fz (ivD (some (rc L S (s, t))))))
    unfold envK at *
    generalize tabE Win f = TB at *
    generalize (Win.filter fun q => cont (look S t) q).map FL.D.int = FW at *
    generalize Win.map FL.D.int = WD at *
    generalize sttK S = SK at *
    generalize ks.map FL.D.str = KS at *
    generalize lineK L = LK at *
    generalize frsL fs = FD at *
    simp [tkeys, g3, nn3]
  have s4 : (setF 9 (ddIn (bin ixD (vr 5) (cst (.int 1))) 2 (bin ixD (vr 0) (bin ixD (vr 5) (cst (.int 0)))))) (envK L (frsL fs) f ks S (some (.fz (frD s t))) (some (.fz (.str (kd L S (s, t))))) (some (.fz (ivD (some (rc L S (s, t)))))) (some (.fz (.bl kn))) c9 c10 c11 c12) = some (.nx, envK L (frsL fs) f ks S (some (.fz (frD s t))) (some (.fz (.str (kd L S (s, t))))) (some (.fz (ivD (some (rc L S (s, t)))))) (some (.fz (.bl kn))) (some (.fz (.bl (cont (look S t) a)))) c10 c11 c12) := by
    unfold envK frD
    generalize cont (look S t) a = cb at *
    generalize tabE Win f = TB at *
    generalize sttK S = SK at *
    generalize ks.map FL.D.str = KS at *
    generalize lineK L = LK at *
    generalize frsL fs = FD at *
    simp [fa, kI, tf, di]
  have s5 : (exF (mtF apD (vr 3) [(iteF' (notF (vr 8)) (cst (.str "all")) (bin ixD (froz [(cst (.str "flood")), (cst (.str "direct"))] lstF) (cal (d1 intF) [(vr 9)])))])) (envK L (frsL fs) f ks S (some (.fz (frD s t))) (some (.fz (.str (kd L S (s, t))))) (some (.fz (ivD (some (rc L S (s, t)))))) (some (.fz (.bl kn))) (some (.fz (.bl (cont (look S t) a)))) c10 c11 c12) = some (.nx, envK L (frsL fs) f (ks ++ [kd L S (s, t)]) S (some (.fz (frD s t))) (some (.fz (.str (kd L S (s, t))))) (some (.fz (ivD (some (rc L S (s, t)))))) (some (.fz (.bl kn))) (some (.fz (.bl (cont (look S t) a)))) c10 c11 c12) := by
    unfold envK
    have t0 : L2.atI [FL.D.str "flood", .str "direct"] 0 = some (.str "flood") := rfl
    have t1 : L2.atI [FL.D.str "flood", .str "direct"] 1 = some (.str "direct") := rfl
    generalize (ks ++ [kd L S (s, t)]).map FL.D.str = KS2 at *
    generalize hkk : kd L S (s, t) = kk at *
    generalize cont (look S t) a = cb at *
    generalize tabE Win f = TB at *
    generalize sttK S = SK at *
    generalize ks.map FL.D.str = KS at *
    generalize lineK L = LK at *
    generalize frsL fs = FD at *
    cases kn with
    | false =>
      have hk3 : kk = "all" := hk2
      rw [hk3] at apK
      simp [mtF_ev, apK]
    | true =>
      cases cb with
      | false =>
        have hk3 : kk = "flood" := hk2
        rw [hk3] at apK
        simp [mtF_ev, apK, l2, t0]
      | true =>
        have hk3 : kk = "direct" := hk2
        rw [hk3] at apK
        simp [mtF_ev, apK, l2, t1]
  have s6 : (setF 10 (frF (cll [(vrD 2), (vr 0), (vr 5), (uno ngD (cst (.int 4))), (cst (.int 34))] [] f__law_flow))) (envK L (frsL fs) f (ks ++ [kd L S (s, t)]) S (some (.fz (frD s t))) (some (.fz (.str (kd L S (s, t))))) (some (.fz (ivD (some (rc L S (s, t)))))) (some (.fz (.bl kn))) (some (.fz (.bl (cont (look S t) a)))) c10 c11 c12) = some (.nx, envK L (frsL fs) f2 (ks ++ [kd L S (s, t)]) S (some (.fz (frD s t))) (some (.fz (.str (kd L S (s, t))))) (some (.fz (ivD (some (rc L S (s, t)))))) (some (.fz (.bl kn))) (some (.fz (.bl (cont (look S t) a)))) (some (.fz (.lst ((reachW (rc L S (s, t))).map .int)))) c11 c12) := by
    unfold envK
    generalize (reachW (rc L S (s, t))).map FL.D.int = RW at *
    generalize (ks ++ [kd L S (s, t)]).map FL.D.str = KS2 at *
    generalize tabE Win f2 = TB2 at *
    generalize tabE Win f = TB at *
    generalize sttK S = SK at *
    generalize lineK L = LK at *
    generalize frsL fs = FD at *
    generalize frD s t = PD at *
    simp [fl]
  have s7 : (ifF (orF (bin (op2 .ne) (vr 10) (lrF2 (bin ixD (vr 10) (cst (.int 0))) (bin (op2 .add) (bin ixD (vr 10) (uno ngD (cst (.int 1)))) (cst (.int 1))))) (orF (bin (op2 .ne) (vr 7) (cll [(vr 10), (uno ngD (cst (.int 4))), (cst (.int 34))] [] f__law_ends)) (bin (op2 .ne) (vr 6) (bin ixD (vr 3) (uno ngD (cst (.int 1))))))) (rtF (cst (.bl false))) nxF) (envK L (frsL fs) f2 (ks ++ [kd L S (s, t)]) S (some (.fz (frD s t))) (some (.fz (.str (kd L S (s, t))))) (some (.fz (ivD (some (rc L S (s, t)))))) (some (.fz (.bl kn))) (some (.fz (.bl (cont (look S t) a)))) (some (.fz (.lst ((reachW (rc L S (s, t))).map .int)))) c11 c12) = some (.nx, envK L (frsL fs) f2 (ks ++ [kd L S (s, t)]) S (some (.fz (frD s t))) (some (.fz (.str (kd L S (s, t))))) (some (.fz (ivD (some (rc L S (s, t)))))) (some (.fz (.bl kn))) (some (.fz (.bl (cont (look S t) a)))) (some (.fz (.lst ((reachW (rc L S (s, t))).map .int)))) c11 c12) := by
    have lr := lr2_ev (F := bin ixD (vr 10) (cst (.int 0))) (F2 := bin (op2 .add) (bin ixD (vr 10) (uno ngD (cst (.int 1)))) (cst (.int 1))) (ρ := envK L (frsL fs) f2 (ks ++ [kd L S (s, t)]) S (some (.fz (frD s t))) (some (.fz (.str (kd L S (s, t))))) (some (.fz (ivD (some (rc L S (s, t)))))) (some (.fz (.bl kn))) (some (.fz (.bl (cont (look S t) a)))) (some (.fz (.lst ((reachW (rc L S (s, t))).map .int)))) c11 c12)
      (ρ1 := envK L (frsL fs) f2 (ks ++ [kd L S (s, t)]) S (some (.fz (frD s t))) (some (.fz (.str (kd L S (s, t))))) (some (.fz (ivD (some (rc L S (s, t)))))) (some (.fz (.bl kn))) (some (.fz (.bl (cont (look S t) a)))) (some (.fz (.lst ((reachW (rc L S (s, t))).map .int)))) c11 c12)
      (ρ2 := envK L (frsL fs) f2 (ks ++ [kd L S (s, t)]) S (some (.fz (frD s t))) (some (.fz (.str (kd L S (s, t))))) (some (.fz (ivD (some (rc L S (s, t)))))) (some (.fz (.bl kn))) (some (.fz (.bl (cont (look S t) a)))) (some (.fz (.lst ((reachW (rc L S (s, t))).map .int)))) c11 c12) (i := loR (rc L S (s, t))) (j := hiR (rc L S (s, t)) + 1)
      (by simp [envK, i0]) (by simp [envK, i1]) (by omega) (by omega)
    rw [rw_] at lr
    unfold envK at *
    generalize (reachW (rc L S (s, t))).map FL.D.int = RW at *
    generalize ivD (some (rc L S (s, t))) = ivd at *
    generalize (ks ++ [kd L S (s, t)]).map FL.D.str = KS2 at *
    generalize kd L S (s, t) = kk at *
    generalize tabE Win f2 = TB2 at *
    generalize sttK S = SK at *
    generalize lineK L = LK at *
    generalize frsL fs = FD at *
    generalize frD s t = PD at *
    simp [lr, nsw, lends, nv, lastK]
  have s8 : (setF 4 (frF (cll [(frF (vr 0)), (frF (slc (vr 1) none (some (cal (d1 lenF) [(vr 3)]))))] [.non] f_known_after))) (envK L (frsL fs) f2 (ks ++ [kd L S (s, t)]) S (some (.fz (frD s t))) (some (.fz (.str (kd L S (s, t))))) (some (.fz (ivD (some (rc L S (s, t)))))) (some (.fz (.bl kn))) (some (.fz (.bl (cont (look S t) a)))) (some (.fz (.lst ((reachW (rc L S (s, t))).map .int)))) c11 c12) = some (.nx, envK L (frsL fs) f2 (ks ++ [kd L S (s, t)]) (nxt L S (s, t)) (some (.fz (frD s t))) (some (.fz (.str (kd L S (s, t))))) (some (.fz (ivD (some (rc L S (s, t)))))) (some (.fz (.bl kn))) (some (.fz (.bl (cont (look S t) a)))) (some (.fz (.lst ((reachW (rc L S (s, t))).map .int)))) c11 c12) := by
    have pt := part_some (F := cal (d1 lenF) [(vr 3)]) (ρ := envK L (frsL fs) f2 (ks ++ [kd L S (s, t)]) S (some (.fz (frD s t))) (some (.fz (.str (kd L S (s, t))))) (some (.fz (ivD (some (rc L S (s, t)))))) (some (.fz (.bl kn))) (some (.fz (.bl (cont (look S t) a)))) (some (.fz (.lst ((reachW (rc L S (s, t))).map .int)))) c11 c12) (ρ' := envK L (frsL fs) f2 (ks ++ [kd L S (s, t)]) S (some (.fz (frD s t))) (some (.fz (.str (kd L S (s, t))))) (some (.fz (ivD (some (rc L S (s, t)))))) (some (.fz (.bl kn))) (some (.fz (.bl (cont (look S t) a)))) (some (.fz (.lst ((reachW (rc L S (s, t))).map .int)))) c11 c12) (i := ((done.length + 1 : Nat) : Int)) (by
        unfold envK
        rw [← lenK]
        generalize (ks ++ [kd L S (s, t)]).map FL.D.str = KS2 at *
        simp)
    have sn : stD none = .non := rfl
    rw [sn] at kw
    simp only at kw
    unfold envK at *
    generalize (reachW (rc L S (s, t))).map FL.D.int = RW at *
    generalize ivD (some (rc L S (s, t))) = ivd at *
    generalize (ks ++ [kd L S (s, t)]).map FL.D.str = KS2 at *
    generalize kd L S (s, t) = kk at *
    generalize tabE Win f2 = TB2 at *
    generalize sttK (nxt L S (s, t)) = SK2 at *
    generalize sttK S = SK at *
    generalize lineK L = LK at *
    generalize frsL (done ++ [(s, t)]) = FD2 at *
    generalize frsL fs = FD at *
    generalize frD s t = PD at *
    simp only [setF_ev, frF_ev, cll_ev, seqs_cons, slc_ev]
    simp [pt, cut, kw]
  have s9' : (forF (itV 0) (gNm 11) l__law_right_1) (envK L (frsL fs) f2 (ks ++ [kd L S (s, t)]) (nxt L S (s, t)) (some (.fz (frD s t))) (some (.fz (.str (kd L S (s, t))))) (some (.fz (ivD (some (rc L S (s, t)))))) (some (.fz (.bl kn))) (some (.fz (.bl (cont (look S t) a)))) (some (.fz (.lst ((reachW (rc L S (s, t))).map .int)))) c11 c12) = some (.nx, envK L (frsL fs) f2 (ks ++ [kd L S (s, t)]) (nxt L S (s, t)) (some (.fz (frD s t))) (some (.fz (.str (kd L S (s, t))))) (some (.fz (ivD (some (rc L S (s, t)))))) (some (.fz (.bl kn))) (some (.fz (.bl (cont (look S t) a)))) (some (.fz (.lst ((reachW (rc L S (s, t))).map .int)))) d11 d12) := by
    rw [← e9, ← ekeys]
    rfl
  unfold l__law_right_2
  rw [seq_step s1, seq_step s2, seq_step s3, seq_step s4, seq_step s5, seq_step s6, seq_step s7, seq_step s8]
  exact s9'
end LW

set_option Elab.async false
set_option maxRecDepth 100000
set_option exponentiation.threshold 100000
namespace LW
open PySem FL
theorem pairs_go {L : Line} (ok : LineOk L) (sm : Small L) {fs : Frs} (hf : ∀ p ∈ fs, FrOk L p) (hl : fs.length ≤ 300) : ∀ (rest done : Frs) (f : Int → Line) (c5 c6 c7 c8 c9 c10 c11 c12 : Option T), fs = done ++ rest → Tab L (plays L (start0 L) done).2 f → (∀ q, (f q).length ≤ 200 * done.length) →
    ∃ (f2 : Int → Line) (d5 d6 d7 d8 d9 d10 d11 d12 : Option T), forGo (gNm 5) l__law_right_2 (frsL rest) (envK L (frsL fs) f (plays L (start0 L) done).1 (plays L (start0 L) done).2 c5 c6 c7 c8 c9 c10 c11 c12) =
      some (.nx, envK L (frsL fs) f2 (plays L (start0 L) fs).1 (plays L (start0 L) fs).2 d5 d6 d7 d8 d9 d10 d11 d12)
  | [], done, f, c5, c6, c7, c8, c9, c10, c11, c12, e, tb, hlen => by
    rw [List.append_nil] at e
    rw [← e]
    exact ⟨f, c5, c6, c7, c8, c9, c10, c11, c12, rfl⟩
  | p :: rest, done, f, c5, c6, c7, c8, c9, c10, c11, c12, e, tb, hlen => by
    have hdl : done.length < 300 := by
      have := congrArg List.length e
      simp at this
      omega
    obtain ⟨f1, d6, d7, d8, d9, d10, d11, d12, e1, tb1, ln1⟩ := pair_turn ok sm hf hl e tb (fun q => by have := hlen q; omega) c6 c7 c8 c9 c10 c11 c12
    have e' : fs = (done ++ [p]) ++ rest := by rw [List.append_assoc]; exact e
    obtain ⟨f2, g5, g6, g7, g8, g9, g10, g11, g12, e2⟩ := pairs_go ok sm hf hl rest (done ++ [p]) f1 (some (.fz (frD p.1 p.2))) d6 d7 d8 d9 d10 d11 d12 e' tb1 (fun q => by
      have := hlen q
      have := ln1 q
      rw [List.length_append, List.length_singleton]
      omega)
    refine ⟨f2, g5, g6, g7, g8, g9, g10, g11, g12, ?_⟩
    show forGo _ _ (frD p.1 p.2 :: frsL rest) _ = _
    rw [forGo_cons (ρ1 := envK L (frsL fs) f (plays L (start0 L) done).1 (plays L (start0 L) done).2 (some (.fz (frD p.1 p.2))) c6 c7 c8 c9 c10 c11 c12) (by simp [envK]) e1, e2]
theorem eq_same {xs : List FL.D} (h1 : xs.all (flat 39) = true) (h2 : ∀ x ∈ xs, eqF 39 x x = true) : op2 .eq (.lst xs) (.lst xs) = some (.fz (.bl true)) := by
  have f : flat 40 (.lst xs) = true := h1
  have e : eqF 40 (.lst xs) (.lst xs) = true := all2_refl h2
  show (if flat 40 (.lst xs) = true ∧ flat 40 (.lst xs) = true then some (eqF 40 (.lst xs) (.lst xs)) else none).bind bR = _
  rw [if_pos ⟨f, f⟩, e]
  rfl
theorem eq_strs (xs : List Str) : op2 .eq (.lst (xs.map .str)) (.lst (xs.map .str)) = some (.fz (.bl true)) := eq_same (flat_strs xs) fun x hx => by
  obtain ⟨y, _, rfl⟩ := List.mem_map.mp hx
  simp [eqF]
theorem sortS_congr {xs ys : List Str} (p : xs.Perm ys) : sortS xs = sortS ys :=
  List.Perm.eq_of_pairwise (fun x y _ _ h1 h2 => leS_anti h1 h2) (sortS_pw xs) (sortS_pw ys) ((sortS_perm xs).trans (p.trans (sortS_perm ys).symm))
theorem plays_keys {L : Line} : ∀ {fs : Frs} {S : Stt}, StOk L S → (∀ p ∈ fs, FrOk L p) → (plays L S fs).2.map (·.1) = S.map (·.1)
  | [], S, h, f => rfl
  | p :: fs, S, h, f => by
    show (plays L (nxt L S p) fs).2.map (·.1) = _
    rw [plays_keys (h.nxt (f p List.mem_cons_self)) fun q hq => f q (List.mem_cons_of_mem _ hq)]
    obtain ⟨a, ha⟩ := (f p List.mem_cons_self).a
    obtain ⟨iv, hi⟩ := h.2 p.1 a ha
    exact supd_keys hi
theorem start_keys (L : Line) : (start0 L).map (·.1) = sortS (L.map (·.1)) := by
  unfold start0
  rw [resort_keys, silent_keys]
  exact sortS_congr (sortS_perm _)
theorem tab0 (L : Line) : Tab L (start0 L) (fun _ => []) := ⟨fun p _ x => by
  rw [start_all]
  rfl⟩
theorem right_ev {L : Line} (ok : LineOk L) (sm : Small L) {fs : Frs} (hf : ∀ p ∈ fs, FrOk L p) (hl : fs.length ≤ 300) : f__law_right [.fz (.dic (lineK L)), .fz (.lst (frsL fs))] = some (.fz (.bl true), [.fz (.dic (lineK L)), .fz (.lst (frsL fs))]) := by
  have kw := known_ev ok (fs := []) (fun q hq => by cases hq) (by simp) (o := none) (fun S h => by cases h)
  have kz := kinds_of_ev ok hf hl (o := none) (fun S h => by cases h)
  have est : stOf L none = start0 L := rfl
  rw [est] at kw kz
  have ek0 : (plays L (start0 L) []).2 = start0 L := rfl
  rw [ek0] at kw
  have sn : stD none = .non := rfl
  have f0 : frsL [] = [] := rfl
  rw [sn, f0] at kw
  rw [sn] at kz
  obtain ⟨f2, d5, d6, d7, d8, d9, d10, d11, d12, go⟩ := pairs_go ok sm hf hl fs [] (fun _ => []) none none none none none none none none rfl (tab0 L) (fun q => by simp)
  have ek1 : (plays L (start0 L) []).1 = [] := rfl
  rw [ek0, ek1] at go
  have so := sorted_line L (by have := ok.most; omega)
  have keys : (plays L (start0 L) fs).2.map (·.1) = sortS (L.map (·.1)) := by rw [plays_keys (start_ok ok) hf, start_keys]
  have li : listF (.dic (sttK (plays L (start0 L) fs).2)) = some (.nw (.ow (.lst ((sortS (L.map (·.1))).map .str)))) := by
    show some (R.nw (.ow (.lst ((sttK (plays L (start0 L) fs).2).map fun p => dOf p.1)))) = _
    rw [← keys]
    unfold sttK
    rw [List.map_map, List.map_map]
    rfl
  have q1 := eq_strs (plays L (start0 L) fs).1
  have q2 := eq_strs (sortS (L.map (·.1)))
  have it : ∀ ρ : En, itR2 (uno ngD (cst (.int 4))) (cst (.int 35)) ρ = some (Win.map .int, ρ) := fun ρ => by
    have : rangeD (-4) 35 = Win.map .int := range_W _ _
    rw [← this]
    rfl
  have iw := intsOf_map Win
  have wl : Win.length < 1000 := by simp [Win, len_W]
  have nd := win_nd
  have et : (Win.map fun n => ((Sum.inl n : L2.Key), FL.D.dic [])) = tabE Win fun _ => [] := rfl
  have itv : ∀ c5 : Option T, itV 1 (envK L (frsL fs) (fun _ => []) [] (start0 L) c5 none none none none none none none) = some (frsL fs, envK L (frsL fs) (fun _ => []) [] (start0 L) c5 none none none none none none none) := fun c5 => by
    simp [envK]
  have s1 : (parF 2 3 (ddNew 13 (itR2 (uno ngD (cst (.int 4))) (cst (.int 35)))) (froz [] lstF)) [some (.fz (.dic (lineK L))), some (.fz (.lst (frsL fs))), none, none, none, none, none, none, none, none, none, none, none, none] = some (.nx, [some (.fz (.dic (lineK L))), some (.fz (.lst (frsL fs))), some (.dd (tabE Win fun _ => [])), some (.ow (.lst [])), none, none, none, none, none, none, none, none, none, none]) := by
    generalize lineK L = LK at *
    generalize frsL fs = FD at *
    simp only [parF_ev, seqs_cons, ddNew_ev, it]
    simp [iw, nd, wl, et]
  have s2 : (setF 4 (frF (cll [(frF (vr 0)), (frF (froz [] lstF))] [.non] f_known_after))) [some (.fz (.dic (lineK L))), some (.fz (.lst (frsL fs))), some (.dd (tabE Win fun _ => [])), some (.ow (.lst [])), none, none, none, none, none, none, none, none, none, none] = some (.nx, envK L (frsL fs) (fun _ => []) [] (start0 L) none none none none none none none none) := by
    unfold envK
    generalize tabE Win (fun _ => []) = TB at *
    generalize sttK (start0 L) = SK at *
    generalize lineK L = LK at *
    generalize frsL fs = FD at *
    simp [kw]
  have s3 : (forF (itV 1) (gNm 5) l__law_right_2) (envK L (frsL fs) (fun _ => []) [] (start0 L) none none none none none none none none) = some (.nx, envK L (frsL fs) f2 (plays L (start0 L) fs).1 (plays L (start0 L) fs).2 d5 d6 d7 d8 d9 d10 d11 d12) := by
    rw [← go]
    show (itV 1 _).bind _ = _
    rw [itv]
    rfl
  have s4 : (rtF (andF (bin (op2 .eq) (cll [(frF (vr 0)), (frF (vr 1))] [.non] f_kinds_of) (vr 3)) (bin (op2 .eq) (cal (d1 listF) [(vr 4)]) (cal (d1 sortedF) [(vr 0)])))) (envK L (frsL fs) f2 (plays L (start0 L) fs).1 (plays L (start0 L) fs).2 d5 d6 d7 d8 d9 d10 d11 d12) = some (.rt (.fz (.bl true)), envK L (frsL fs) f2 (plays L (start0 L) fs).1 (plays L (start0 L) fs).2 d5 d6 d7 d8 d9 d10 d11 d12) := by
    unfold envK
    generalize tabE Win f2 = TB at *
    generalize (sortS (L.map (·.1))).map FL.D.str = NS at *
    generalize sttK (plays L (start0 L) fs).2 = SK at *
    generalize (plays L (start0 L) fs).1.map FL.D.str = KS at *
    generalize lineK L = LK at *
    generalize frsL fs = FD at *
    simp [kz, q1, li, so, q2]
  have b0 : b__law_right [some (.fz (.dic (lineK L))), some (.fz (.lst (frsL fs))), none, none, none, none, none, none, none, none, none, none, none, none] = some (.rt (.fz (.bl true)), envK L (frsL fs) f2 (plays L (start0 L) fs).1 (plays L (start0 L) fs).2 d5 d6 d7 d8 d9 d10 d11 d12) := by
    unfold b__law_right
    rw [seq_step s1, seq_step s2, seq_step s3]
    exact s4
  unfold envK at b0
  generalize tabE Win f2 = TB at *
  generalize sttK (plays L (start0 L) fs).2 = SK at *
  generalize (plays L (start0 L) fs).1.map FL.D.str = KS at *
  generalize lineK L = LK at *
  generalize frsL fs = FD at *
  simp [f__law_right, defF_ev, startE, kpl, List.replicate, b0]
end LW

set_option Elab.async false
set_option maxRecDepth 100000
set_option exponentiation.threshold 100000
namespace LW
open PySem FL
def envM (q : Spr) (m : FL.D) (ns : List Str) (ps : List Int) (L : Line) (c : Option T) : En := [some (.ow q.D), some (.fz m), some (.ow (.lst (ns.map .str))), some (.ow (.lst (ps.map .int))), some (.ow (.dic (lineK L))), c]
theorem small_turn {q : Spr} {B : Nat} (o : SprOk B q) (hB : B + 10 ≤ 1000000) (m : FL.D) {ns : List Str} {ps : List Int} {L : Line} (n0 : 0 < ns.length) (p0 : 0 < ps.length) (n1 : ns.length ≤ 100) (p1 : ps.length ≤ 100) (hL : L.length ≤ 100) (nd : (L.map (·.1) ++ ns).Nodup) (c : Option T) :
    ∃ (L' : Line) (ns' : List Str) (ps' : List Int) (q' : Spr), l__law_small_1 (envM q m ns ps L c) = some (.nx, envM q' m ns' ps' L' c) ∧ L'.length = L.length + 1 ∧ ns'.length + 1 = ns.length ∧ ps'.length + 1 = ps.length ∧ (L'.map (·.1) ++ ns').Perm (L.map (·.1) ++ ns) ∧ (L'.map (·.2) ++ ps').Perm (L.map (·.2) ++ ps) ∧ SprOk (B + 2) q' := by
  obtain ⟨k, q1, e1, k0, k1, o1⟩ := draw_ok (B := B) (p := q) (by omega) o (m := ((ps.map FL.D.int).length : Int)) (by rw [List.length_map]; omega) (by rw [List.length_map]; omega)
  obtain ⟨j, q2, e2, j0, j1, o2⟩ := draw_ok (B := B + 1) (p := q1) (by omega) o1 (m := ((ns.map FL.D.str).length : Int)) (by rw [List.length_map]; omega) (by rw [List.length_map]; omega)
  rw [List.length_map] at k1 j1
  have hk : k.toNat < ps.length := by omega
  have hj : j.toNat < ns.length := by omega
  have pa1 := paD_ev (xs := ps.map FL.D.int) (k := k) (y := .int ps[k.toNat]) k0 (by rw [List.length_map]; exact k1) (by rw [List.length_map]; omega) (by rw [List.getElem?_map, List.getElem?_eq_getElem hk]; rfl)
  have pa2 := paD_ev (xs := ns.map FL.D.str) (k := j) (y := .str ns[j.toNat]) j0 (by rw [List.length_map]; exact j1) (by rw [List.length_map]; omega) (by rw [List.getElem?_map, List.getElem?_eq_getElem hj]; rfl)
  rw [erase_map] at pa1 pa2
  have hx : ns[j.toNat] ∉ L.map (·.1) := fun z => by
    rw [List.nodup_append] at nd
    exact nd.2.2 _ z _ (List.getElem_mem hj) rfl
  have dp : dput (lineK L) (.inr ns[j.toNat]) (.int ps[k.toNat]) = lineK (L ++ [(ns[j.toNat], ps[k.toNat])]) := by
    rw [dput_new]
    · unfold lineK; rw [List.map_append]; rfl
    · intro z
      unfold lineK at z
      rw [List.map_map] at z
      obtain ⟨r, hr, e⟩ := List.mem_map.mp z
      have e' : (Sum.inr r.1 : L2.Key) = Sum.inr ns[j.toNat] := e
      injection e' with e'
      exact hx (List.mem_map.mpr ⟨r, hr, e'⟩)
  have kl : (lineK L).length < sizeLine := by unfold lineK; rw [List.length_map]; exact Nat.lt_of_lt_of_le (show L.length < 100000 by omega) (s9 (Nat.le_refl _))
  refine ⟨L ++ [(ns[j.toNat], ps[k.toNat])], ns.eraseIdx j.toNat, ps.eraseIdx k.toNat, q2, ?_, by simp, by rw [List.length_eraseIdx_of_lt hj]; omega, by rw [List.length_eraseIdx_of_lt hk]; omega, ?_, ?_, o2⟩
  · unfold envM
    generalize (ns.eraseIdx j.toNat).map FL.D.str = NE at *
    generalize (ps.eraseIdx k.toNat).map FL.D.int = PE at *
    generalize ns.map FL.D.str = ND at *
    generalize ps.map FL.D.int = PD at *
    generalize lineK (L ++ [(ns[j.toNat], ps[k.toNat])]) = LK2 at *
    generalize lineK L = LK at *
    simp [l__law_small_1, mtF_ev, e1, e2, pa1, pa2, dp, kl]
  · rw [List.map_append, List.append_assoc]
    exact List.Perm.append_left _ (erase_perm hj)
  · rw [List.map_append, List.append_assoc]
    exact List.Perm.append_left _ (erase_perm hk)
theorem small_go (m : FL.D) : ∀ (xs : List FL.D) (ns : List Str) (ps : List Int) (L : Line) (q : Spr) (B : Nat) (c : Option T), xs.length ≤ ns.length → xs.length ≤ ps.length → ns.length ≤ 100 → ps.length ≤ 100 → L.length + xs.length ≤ 100 → (L.map (·.1) ++ ns).Nodup → SprOk B q → B + 2 * xs.length + 10 ≤ 1000000 →
    ∃ (L' : Line) (ns' : List Str) (ps' : List Int) (q' : Spr) (c' : Option T), forGo (gNm 5) l__law_small_1 xs (envM q m ns ps L c) = some (.nx, envM q' m ns' ps' L' c') ∧ L'.length = L.length + xs.length ∧ (L'.map (·.1) ++ ns').Perm (L.map (·.1) ++ ns) ∧ (L'.map (·.2) ++ ps').Perm (L.map (·.2) ++ ps) ∧ SprOk (B + 2 * xs.length) q'
  | [], ns, ps, L, q, B, c, _, _, _, _, _, _, o, _ => ⟨L, ns, ps, q, c, rfl, rfl, List.Perm.refl _, List.Perm.refl _, o⟩
  | x :: xs, ns, ps, L, q, B, c, h1, h2, h3, h4, h5, nd, o, hB => by
    rw [List.length_cons] at h1 h2 h5 hB
    obtain ⟨L1, ns1, ps1, q1, e1, l1, n1, p1, a1, b1, o1⟩ := small_turn o (by omega) m (by omega) (by omega) h3 h4 (by omega) nd (some (.fz x))
    obtain ⟨L', ns', ps', q', c', e2, l2, a2, b2, o2⟩ := small_go m xs ns1 ps1 L1 q1 (B + 2) (some (.fz x)) (by omega) (by omega) (by omega) (by omega) (by omega) (a1.nodup_iff.mpr nd) o1 (by omega)
    refine ⟨L', ns', ps', q', c', ?_, by rw [List.length_cons]; omega, a2.trans a1, b2.trans b1, o2.up (by rw [List.length_cons]; omega)⟩
    rw [forGo_cons (ρ1 := envM q m ns ps L (some (.fz x))) (by simp [envM]) e1, e2]
def N7 : List Str := ["b", "a", "zz", "c", "ab", "k", "d"]
theorem N7_nd : N7.Nodup := by decide +kernel
theorem N7_host : ∀ x ∈ N7, hostB x = true := by decide +kernel
theorem small_ok {B : Nat} {q : Spr} (o : SprOk B q) (hB : B + 100 ≤ 1000000) :
    ∃ (L : Line) (q' : Spr), f__law_small [.ow q.D, .fz (.int 7)] = some (.nw (.ow (.dic (lineK L))), [.ow (Spr.D q'), .fz (.int 7)]) ∧ LineOk L ∧ Small L ∧ L.length ≤ 7 ∧ SprOk (B + 20) q' := by
  obtain ⟨k, q1, e1, k0, k1, o1⟩ := draw_ok (B := B) (p := q) (by omega) o (m := 7) (by decide) (by decide)
  have it := itR1_int (F := bin (op2 .add) (cst (.int 1)) (cll [(vr 0), (vr 1)] [] f__law_draw)) (ρ := envM q (.int 7) N7 (Wl 0 31) [] none) (ρ' := envM q1 (.int 7) N7 (Wl 0 31) [] none) (j := 1 + k) (by
      unfold envM
      generalize N7.map FL.D.str = ND at *
      generalize (Wl 0 31).map FL.D.int = PD at *
      generalize lineK [] = LK at *
      simp [e1]) (by omega) (by omega)
  rw [range_W] at it
  have hr : ((Wl 0 (1 + k)).map FL.D.int).length = (1 + k).toNat := by rw [List.length_map, len_W]; omega
  have n7 : N7.length = 7 := rfl
  have p31 : (Wl 0 31).length = 31 := by rw [len_W]; rfl
  obtain ⟨L, ns', ps', q', c', go, l1, a1, b1, o2⟩ := small_go (.int 7) ((Wl 0 (1 + k)).map .int) N7 (Wl 0 31) [] q1 (B + 1) none (by rw [hr]; omega) (by rw [hr]; omega) (by omega) (by omega) (by rw [hr]; simp; omega) N7_nd o1 (by rw [hr]; omega)
  rw [hr] at l1 o2
  have l1' : L.length = (1 + k).toNat := by rw [l1]; simp
  have mem1 : ∀ p ∈ L, p.1 ∈ N7 := fun p hp => a1.mem_iff.mp (List.mem_append_left _ (List.mem_map.mpr ⟨p, hp, rfl⟩))
  have mem2 : ∀ p ∈ L, p.2 ∈ Wl 0 31 := fun p hp => b1.mem_iff.mp (List.mem_append_left _ (List.mem_map.mpr ⟨p, hp, rfl⟩))
  have nd1 : (L.map (·.1)).Nodup := (List.nodup_append.mp (a1.nodup_iff.mpr N7_nd)).1
  have nd2 : (L.map (·.2)).Nodup := (List.nodup_append.mp (b1.nodup_iff.mpr (nd_W 0 31))).1
  refine ⟨L, q', ?_, ⟨by omega, by omega, fun p hp => N7_host _ (mem1 p hp), fun p hp => by have := mem_W.mp (mem2 p hp); omega, fun p hp => by have := mem_W.mp (mem2 p hp); omega, nd1, nd2⟩, fun p hp => by have := mem_W.mp (mem2 p hp); omega, by omega, o2.up (by omega)⟩
  have l7 : (7 : Nat) ≤ sizeLine := s9 (by decide)
  have eN : ([.str "b", .str "a", .str "zz", .str "c", .str "ab", .str "k", .str "d"] : List FL.D) = N7.map .str := rfl
  have lr : ∀ ρ, lrF1 (cst (.int 31)) ρ = some (.nw (.ow (.lst ((Wl 0 31).map .int))), ρ) := fun ρ => by
    rw [← range_W]
    rfl
  have e0 : lineK [] = [] := rfl
  have s1 : (parF3 2 3 4 (froz [(cst (.str "b")), (cst (.str "a")), (cst (.str "zz")), (cst (.str "c")), (cst (.str "ab")), (cst (.str "k")), (cst (.str "d"))] lstF) (lrF1 (cst (.int 31))) (newD (.dic []))) [some (.ow q.D), some (.fz (.int 7)), none, none, none, none] = some (.nx, envM q (.int 7) N7 (Wl 0 31) [] none) := by
    unfold envM
    rw [← eN, e0]
    generalize (Wl 0 31).map FL.D.int = PD at *
    simp [parF3, lr, l7, newD, put3]
  have s2 : (forF (itR1 (bin (op2 .add) (cst (.int 1)) (cll [(vr 0), (vr 1)] [] f__law_draw))) (gNm 5) l__law_small_1) (envM q (.int 7) N7 (Wl 0 31) [] none) = some (.nx, envM q' (.int 7) ns' ps' L c') := by
    rw [← go]
    show (itR1 _ _).bind _ = _
    rw [it]
    rfl
  have b0 : b__law_small [some (.ow q.D), some (.fz (.int 7)), none, none, none, none] = some (.rt (.sl 4), envM q' (.int 7) ns' ps' L c') := by
    unfold b__law_small
    rw [seq_step s1, seq_step s2]
    rfl
  unfold envM at b0
  generalize ns'.map FL.D.str = ND at *
  generalize ps'.map FL.D.int = PD at *
  generalize lineK L = LK at *
  simp [f__law_small, defF_ev, startE, kpl, List.replicate, b0]
theorem lf_room {L : Line} (ok : LineOk L) {fs : Frs} (h : ∀ p ∈ fs, FrOk L p) (hl : fs.length ≤ 300) : reprF (.lst [.dic (lineK L), .lst (frsL fs)]) = some (.fz (.str (shD (.lst [.dic (lineK L), .lst (frsL fs)])))) := by
  obtain ⟨a, b⟩ := line_room ok 3
  obtain ⟨e, g⟩ := frs_room ok h hl 2
  refine reprF_ok (n := 5) ?_ (by decide) ?_
  · simp only [okL, okLs]
    simp only [okL] at a e
    rw [a, e]
    rfl
  · simp only [nod, nodL] at b g ⊢
    omega
theorem turn_ev {scr : T} {turn : Int} {q : Spr} {B : Nat} (o : SprOk B q) (hB : B + 6000 ≤ 1000000) (a b c : Option T) :
    ∃ (q' : Spr) (a' b' c' : Option T), l_law_1 [some scr, some (.ow q.D), some (.fz (.int turn)), a, b, c] = some (.nx, [some scr, some (.ow (Spr.D q')), some (.fz (.int turn)), a', b', c']) ∧ SprOk (B + 1400) q' := by
  obtain ⟨L, q1, e1, ok, sm, l7, o1⟩ := small_ok o (by omega)
  obtain ⟨k2, q2, e2, k20, k21, o2⟩ := draw_ok (B := B + 20) (p := q1) (by omega) o1 (m := 25) (by decide) (by decide)
  obtain ⟨fs, q3, e3, f1, f2, o3⟩ := sends_ok o2 ok (m := k2) k20 (by omega) (by omega)
  have r := right_ev ok sm f2 (by omega)
  have rm := lf_room ok f2 (by omega)
  refine ⟨q3, some (.fz (.dic (lineK L))), some (.fz (.lst (frsL fs))), some (.fz (.str (shD (.lst [.dic (lineK L), .lst (frsL fs)])))), ?_, o3.up (by omega)⟩
  generalize shD (.lst [.dic (lineK L), .lst (frsL fs)]) = SH at *
  generalize lineK L = LK at *
  generalize frsL fs = FD at *
  simp [l_law_1, e1, e2, e3, r, rm]
theorem law_go {scr : T} : ∀ (ts : List Int) (q : Spr) (B : Nat) (t a b c : Option T), SprOk B q → B + 1400 * ts.length + 6000 ≤ 1000000 →
    ∃ (q' : Spr) (t' a' b' c' : Option T), forGo (gNm 2) l_law_1 (ts.map .int) [some scr, some (.ow q.D), t, a, b, c] = some (.nx, [some scr, some (.ow (Spr.D q')), t', a', b', c'])
  | [], q, B, t, a, b, c, o, hB => ⟨q, t, a, b, c, rfl⟩
  | x :: ts, q, B, t, a, b, c, o, hB => by
    rw [List.length_cons] at hB
    obtain ⟨q1, a1, b1, c1, e2, o1⟩ := turn_ev (scr := scr) (turn := x) o (by omega) a b c
    obtain ⟨q', t', a', b', c', e3⟩ := law_go ts q1 (B + 1400) (some (.fz (.int x))) a1 b1 c1 o1 (by omega)
    refine ⟨q', t', a', b', c', ?_⟩
    rw [List.map_cons, forGo_cons (by simp) e2, e3]
/-! ### the law -/
def L0 : Line := [("a", 0), ("b", 5)]
def F0 : Frs := [("a", "b"), ("b", "a")]
theorem L0_ok : LineOk L0 := ⟨by decide, by decide, by decide +kernel, by decide +kernel, by decide +kernel, by decide +kernel, by decide +kernel⟩
theorem F0_ok : ∀ p ∈ F0, FrOk L0 p := fun p hp => by
  simp only [F0, List.mem_cons, List.not_mem_nil, or_false] at hp
  rcases hp with rfl | rfl
  · exact ⟨⟨0, rfl⟩, ⟨5, rfl⟩, by decide +kernel⟩
  · exact ⟨⟨5, rfl⟩, ⟨0, rfl⟩, by decide +kernel⟩
theorem plays0 : (plays L0 (start0 L0) F0).1 = (["all", "direct"] : List Str) := by
  have h1 : look (start0 L0) "b" = none := start_all _ _
  have h2 : look (start0 L0) "a" = none := start_all _ _
  show [kd L0 (start0 L0) ("a", "b"), kd L0 (nxt L0 (start0 L0) ("a", "b")) ("b", "a")] = _
  have k1 : kd L0 (start0 L0) ("a", "b") = "all" := by unfold kd; rw [h1]; rfl
  have ln := look_nxt (start_ok L0_ok) (F0_ok ("a", "b") (by simp [F0])) "a"
  have r1 : rc L0 (start0 L0) ("a", "b") = (none, none) := by unfold rc; rw [k1]; rfl
  have k2 : kd L0 (nxt L0 (start0 L0) ("a", "b")) ("b", "a") = "direct" := by
    unfold kd
    rw [ln, if_pos rfl, h2, r1]
    rfl
  rw [k1, k2]
theorem law_true (ns : List Int) (h : ns.length ≤ 63) : FL.fnLaw f_law ns := by
  obtain ⟨q, e1, o1⟩ := reel_ok ns h
  have it := itR1_int (F := bin (op2 .add) (cst (.int 2)) (cal (d2 minF) [(cal (d1 lenF) [(vr 0)]), (cst (.int 6))])) (ρ := [some (.fz (.lst (ns.map .int))), some (.ow q.D), none, none, none, none]) (ρ' := [some (.fz (.lst (ns.map .int))), some (.ow q.D), none, none, none, none]) (j := 2 + (if 6 < (ns.length : Int) then 6 else (ns.length : Int))) (by simp) (by split <;> omega) (by split <;> omega)
  rw [range_W] at it
  have hl : (Wl 0 (2 + (if 6 < (ns.length : Int) then 6 else (ns.length : Int)))).length ≤ 20 := by rw [len_W]; split <;> omega
  generalize Wl 0 (2 + (if 6 < (ns.length : Int) then 6 else (ns.length : Int))) = ts at *
  obtain ⟨q', t', a', b', c', e2⟩ := law_go (scr := .fz (.lst (ns.map .int))) ts q 0 none none none none o1 (by omega)
  have ds : ∀ ρ, dspF [((cst (.str "a")), (cst (.int 0))), ((cst (.str "b")), (cst (.int 5)))] ρ = some (.nw (.ow (.dic (lineK L0))), ρ) := fun ρ => rfl
  have kz := kinds_of_ev L0_ok F0_ok (by decide) (o := none) (fun S h => by cases h)
  have est : stOf L0 none = start0 L0 := rfl
  have sn : stD none = .non := rfl
  rw [est, plays0, sn] at kz
  have ef : frsL F0 = [.tup [.str "a", .str "b"], .tup [.str "b", .str "a"]] := rfl
  rw [ef] at kz
  have l2 : (2 : Nat) ≤ sizeLine := s9 (by decide)
  have q1 := eq_strs ["all", "direct"]
  refine ⟨[.fz (.lst (ns.map .int))], ?_⟩
  simp only [List.map_cons, List.map_nil] at kz q1
  simp [f_law, b_law, defF_ev, startE, kpl, List.replicate, e1, it, e2, ds, kz, l2, q1]
end LW

set_option maxHeartbeats 0
namespace LW
open PySem PySem.Spec PyProof.Rows L2 FL
open L2 (St)
theorem run (w : World) : HandSHeadRun.RunEq R (PySem.W.view R.prog [49]) hk ob 6000 loose w := by
  intro os
  kernel_rfl

end LW

set_option maxRecDepth 100000
set_option maxHeartbeats 0
open PySem PySem.W PySem.Calls PyProof.Rows
theorem PySem.Challenge.cw_floodline_k06_frames_switch_by_switch_holds : PySem.Challenge.rw_floodline_k06_frames_switch_by_switch.Holds := by
  w_on; o_law
  refine HandSHeadRun.head_any (r := OpenLaw.row PySem.Challenge.rw_floodline_k06_frames_switch_by_switch) (q := view (OpenLaw.row PySem.Challenge.rw_floodline_k06_frames_switch_by_switch).prog [49]) (H := LW.hk) (ob := LW.ob) (M := 6000) (loose := LW.loose) (d := HandSHeadRun.topDef (OpenLaw.row PySem.Challenge.rw_floodline_k06_frames_switch_by_switch).prog 49) (kwd := []) LW.ob_eq
    (by kernel_rfl) (fun s => by kernel_rfl) LW.run (by kernel_rfl) (by kernel_rfl) (by kernel_rfl) (by rfl) (by first | assumption | decide +kernel) (by decide +kernel) ⟨rfl, rfl, rfl, rfl, rfl, by decide +kernel⟩ ?hw ?hc
  case hw => w_witness2
  case hc =>
    refine FL.walk_gT (l := PySem.Challenge.rw_floodline_k06_frames_switch_by_switch) (n := 63) (k := 11) (x := "script") rfl (by decide) (by kernel_rfl) ⟨rfl, by decide, by decide⟩ ?F
    intro w mg fa h Y G hmg0
    obtain ⟨K, KX, cx⟩ := Y
    have c := cx.t.d
    have hmg : mg ("law" : PySem.Str) = some (.ref fa) := by
      have e : (HandSHeadRun.topDef (OpenLaw.row PySem.Challenge.rw_floodline_k06_frames_switch_by_switch).prog 49).name = ("law" : PySem.Str) := by kernel_rfl
      rw [← e]
      exact hmg0
    have hx := He.glo_ok KX G (c.fact 59 (f := .glo "law") rfl)
    have ea := hmg.symm.trans hx
    cases ea
    obtain ⟨fd, F⟩ := c.def_ 32 rfl
    have b := L2.FunD.bindsA (ps := ["script"]) F fun _ _ _ _ _ _ us hl => match us, hl with | [_], _ => rfl
    exact ⟨K, fd, LW.f_law, ⟨KX, cx.empty _ List.mem_cons_self, cx.out _ List.mem_cons_self, PySem.W.codeHd_of_K KX (cx.hd _ List.mem_cons_self), fun s u => b s [u] rfl, fun ns h1 h2 => LW.law_true ns h1, fun base KB GB TB => LW.ok_law KB GB c TB F⟩⟩
