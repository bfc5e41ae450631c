import PyProof.Rows.All
import Wide.All
import OpenK.AllK
import Wide.FinOn
import KE.KStateDown
import HandS.ForMost
import HandS.ForExc
import HandS.Defaults
import HandS.IsInst
import HandS.ExcIs
import HandS.ExcValue
import HandS.Style
import HandS.SortInts
import HandS.Wide
import HandS.Conv
import HandS.Head0
import HandS.Head1
import HandS.Head2
import HandS.HeadEnd
import HandS.HeadHook1
import HandS.HeadHook2
import PyProof.ReprRoads
import HandS.RaiseMore
import HandS.ExcCtx
import HandS.Deep
import HandS.Zip
import HandS.SortRule
import HandS.TryOnly
import HandS.WideBits
import PySem.Challenge.RW_weeksums_k41_rings_in_a_row
set_option Elab.async false
set_option linter.all false
set_option maxRecDepth 100000
set_option maxHeartbeats 0
/-! DL, part a: data, states, what a state holds. -/
namespace DL
open PySem PySem.Spec PyProof.Rows L2
abbrev St := L2.St
/-- whole-number lists that stand in the written part (the law's own list may); the classes of exceptions by their names -/
class KL where
  is : Addr → List Int → Prop
  cls : Str → Option Addr
/-- what is known of a class of exceptions -/
structure ExF (K : PySem.W.Frag) (C : Addr) : Prop where
  c : ExcC K C
  ki : PySem.W.kitOne K (.ref C) (.type "int") = some false
  kb : PySem.W.kitOne K (.ref C) (.type "bool") = some false
  ks : PySem.W.kitOne K (.ref C) (.type "str") = some false
  kl : PySem.W.kitOne K (.ref C) (.type "list") = some false
  kt : PySem.W.kitOne K (.ref C) (.type "tuple") = some false
  kd : PySem.W.kitOne K (.ref C) (.type "dict") = some false
class KLOk [KL] (K : PySem.W.Frag) : Prop where
  ok : ∀ a ns, KL.is a ns → ∀ H : Hp, SqL K H a (ns.map V.int)
  ex : ∀ n C, KL.cls n = some C → ExF K C
variable [KL]

inductive D where
  | non | bl (b : Bool) | int (i : Int) | str (s : Str)
  | lst (xs : List D) | tup (xs : List D) | dic (kvs : List (Key × D)) | var (i : Nat)
  | scr (ns : List Int) | exc (c : Str) (fs : List (Str × D)) | obj (c : Str) (fs : List (Str × D))
  deriving Inhabited

/-- a cell's mode: locked; the frame's own, free to be changed; the caller's, lent -/
inductive Md where
  | ro | mu | bo
  deriving DecidableEq
/-- a slot: a value, or its own list (dict) that it may change -/
inductive SV where
  | fz (d : D) | cl (m : Md) (d : D)
abbrev FS := List (Option SV)

/-- an exception: its class, its fields -/
structure Xn where
  cls : Str
  fs : List (Str × D)

inductive RE where
  | ok (d : D) (δ : FS) | own (d : D) (δ : FS) | exn (x : Xn) (δ : FS) | bad
  | ownT (xs ds ys : List D) (δ : FS)
abbrev GE := FS → RE

abbrev IsF (δ : FS) (i : Nat) (d : D) : Prop := δ[i]? = some (some (SV.fz d))
abbrev IsC (δ : FS) (i : Nat) (m : Md) (d : D) : Prop := δ[i]? = some (some (SV.cl m d))
abbrev At (σ : St) (i : Nat) (v : V) : Prop := σ[i]? = some (some v)
def cA (δ : FS) (σ : St) (i : Nat) : Option Addr := match δ[i]?, σ[i]? with
  | some (some (.cl _ _)), some (some (.ref a)) => some a
  | _, _ => none
def MuA (δ : FS) (σ : St) (a : Addr) : Prop := ∃ i m d, IsC δ i m d ∧ m ≠ Md.ro ∧ At σ i (.ref a)

/-- an exception object of the class C, by itself -/
def ExA (C : Addr) (a : Addr) (φ : Heap → Prop) : Prop := ∀ h, φ h → ∃ (oe : Obj) (vs : Array Value), h.get? a = some oe ∧ Zc (.ref C) none oe ∧ oe.data = .fields vs
mutual
inductive Rep (H : Hp) (C : Nat → Option Addr) (M : Addr → Prop) : V → D → Prop
  | non : Rep H C M .non .non
  | bl (b : Bool) : Rep H C M (.bl b) (.bl b)
  | int (i : Int) : Rep H C M (.int i) (.int i)
  | str (x : Str) : Rep H C M (.str x) (.str x)
  | lst {a : Addr} {vs : List V} {ds : List D} : Rd H a (.lst vs) → ¬ M a → RepAll H C M vs ds → Rep H C M (.ref a) (.lst ds)
  | tup {a : Addr} {vs : List V} {ds : List D} : Rd H a (.tup vs) → ¬ M a → RepAll H C M vs ds → Rep H C M (.ref a) (.tup ds)
  | dic {a : Addr} {kvs : List (Key × V)} {es : List (Key × D)} : H a = some (.dK kvs) → ¬ M a → RepKV H C M kvs es → Rep H C M (.ref a) (.dic es)
  | var {a : Addr} {i : Nat} : C i = some a → Rep H C M (.ref a) (.var i)
  | scr {a : Addr} {ns : List Int} : Rd H a (.lst (ns.map V.int)) → ¬ M a → Rep H C M (.ref a) (.scr ns)
  | scK {a : Addr} {ns : List Int} : KL.is a ns → Rep H C M (.ref a) (.scr ns)
  | exc {a : Addr} {n : Str} {c : Addr} {φ : Heap → Prop} : KL.cls n = some c → H a = some (.ext φ) → ExA c a φ → ¬ M a → Rep H C M (.ref a) (.exc n [])
inductive RepAll (H : Hp) (C : Nat → Option Addr) (M : Addr → Prop) : List V → List D → Prop
  | nil : RepAll H C M [] []
  | cons {v : V} {vs : List V} {d : D} {ds : List D} : Rep H C M v d → RepAll H C M vs ds → RepAll H C M (v :: vs) (d :: ds)
inductive RepKV (H : Hp) (C : Nat → Option Addr) (M : Addr → Prop) : List (Key × V) → List (Key × D) → Prop
  | nil : RepKV H C M [] []
  | cons {k : Key} {v : V} {vs : List (Key × V)} {d : D} {ds : List (Key × D)} : Rep H C M v d → RepKV H C M vs ds → RepKV H C M ((k, v) :: vs) ((k, d) :: ds)
end

theorem Rd.keep {H H' : Hp} {a : Addr} {u : HO} (r : Rd H a u) (k : ∀ o, H a = some o → H' a = some o) : Rd H' a u := by
  rcases r with r | ⟨o, r⟩
  · exact .inl (k _ r)
  · exact .inr ⟨o, k _ r⟩
theorem Rd.there {H : Hp} {a : Addr} {u : HO} (r : Rd H a u) : H a ≠ none := by
  rcases r with r | ⟨o, r⟩ <;> rw [r] <;> exact fun q => nomatch q

section
variable {H H' : Hp} {C C' : Nat → Option Addr} {M M' : Addr → Prop}
mutual
theorem Rep.mono (hH : ∀ a o, H a = some o → ¬ M a → H' a = some o) (hC : ∀ i a, C i = some a → C' i = some a) (hM : ∀ a, H a ≠ none → ¬ M a → ¬ M' a) : ∀ {v : V} {d : D}, Rep H C M v d → Rep H' C' M' v d
  | _, _, .non => .non
  | _, _, .bl b => .bl b
  | _, _, .int i => .int i
  | _, _, .str x => .str x
  | _, _, .lst h n r => .lst (Rd.keep h fun o e => hH _ o e n) (hM _ (Rd.there h) n) (RepAll.mono hH hC hM r)
  | _, _, .tup h n r => .tup (Rd.keep h fun o e => hH _ o e n) (hM _ (Rd.there h) n) (RepAll.mono hH hC hM r)
  | _, _, .dic h n r => .dic (hH _ _ h n) (hM _ (by rw [h]; exact fun q => nomatch q) n) (RepKV.mono hH hC hM r)
  | _, _, .var h => .var (hC _ _ h)
  | _, _, .scr h n => .scr (Rd.keep h fun o e => hH _ o e n) (hM _ (Rd.there h) n)
  | _, _, .scK h => .scK h
  | _, _, .exc q h x n => .exc q (hH _ _ h n) x (hM _ (by rw [h]; exact fun q => nomatch q) n)
theorem RepAll.mono (hH : ∀ a o, H a = some o → ¬ M a → H' a = some o) (hC : ∀ i a, C i = some a → C' i = some a) (hM : ∀ a, H a ≠ none → ¬ M a → ¬ M' a) : ∀ {v : List V} {d : List D}, RepAll H C M v d → RepAll H' C' M' v d
  | _, _, .nil => .nil
  | _, _, .cons r s => .cons (Rep.mono hH hC hM r) (RepAll.mono hH hC hM s)
theorem RepKV.mono (hH : ∀ a o, H a = some o → ¬ M a → H' a = some o) (hC : ∀ i a, C i = some a → C' i = some a) (hM : ∀ a, H a ≠ none → ¬ M a → ¬ M' a) : ∀ {v : List (Key × V)} {d : List (Key × D)}, RepKV H C M v d → RepKV H' C' M' v d
  | _, _, .nil => .nil
  | _, _, .cons r s => .cons (Rep.mono hH hC hM r) (RepKV.mono hH hC hM s)
end
end

/-- what an object of a cell (or a new one) holds -/
def ObjD (H : Hp) (C : Nat → Option Addr) (M : Addr → Prop) : HO → D → Prop
  | .lst vs, .lst ds => RepAll H C M vs ds
  | .dK kvs, .dic es => RepKV H C M kvs es
  | _, _ => False
theorem ObjD.mono {H H' : Hp} {C C' : Nat → Option Addr} {M M' : Addr → Prop} (hH : ∀ a o, H a = some o → ¬ M a → H' a = some o) (hC : ∀ i a, C i = some a → C' i = some a) (hM : ∀ a, H a ≠ none → ¬ M a → ¬ M' a) {o : HO} {d : D} (h : ObjD H C M o d) : ObjD H' C' M' o d := by
  cases o <;> cases d <;> first
    | exact RepAll.mono hH hC hM h
    | exact RepKV.mono hH hC hM h
    | exact h.elim

/-- a frame: the heap at its entry, what its values keep away from, the parameters' lists that it may change -/
structure Fr where
  H0 : Hp
  Av : Addr → Prop
  bor : List (Nat × Addr)
def Fr.inB (F : Fr) (a : Addr) : Prop := ∃ i, (i, a) ∈ F.bor
/-- the addresses that values keep away from -/
def MA (F : Fr) (δ : FS) (σ : St) (a : Addr) : Prop := F.Av a ∨ MuA δ σ a

mutual
inductive VOk (L : List Nat) : D → Prop
  | non : VOk L .non | bl (b : Bool) : VOk L (.bl b) | int (i : Int) : VOk L (.int i) | str (x : Str) : VOk L (.str x)
  | lst {ds : List D} : VOkA L ds → VOk L (.lst ds)
  | tup {ds : List D} : VOkA L ds → VOk L (.tup ds)
  | dic {es : List (Key × D)} : VOkA L (es.map (·.2)) → VOk L (.dic es)
  | var {i : Nat} : i ∈ L → VOk L (.var i)
  | scr (ns : List Int) : VOk L (.scr ns)
  | exc (c : Str) : VOk L (.exc c [])
inductive VOkA (L : List Nat) : List D → Prop
  | nil : VOkA L []
  | cons {d : D} {ds : List D} : VOk L d → VOkA L ds → VOkA L (d :: ds)
end

structure Rel (F : Fr) (L : List Nat) (δ : FS) (σ : St) (H : Hp) : Prop where
  len : δ.length = σ.length
  slot : ∀ i d, IsF δ i d → ∃ v, At σ i v ∧ Rep H (cA δ σ) (MA F δ σ) v d
  vok : ∀ i d, IsF δ i d → VOk L d
  cell : ∀ i m d, IsC δ i m d → ∃ a o, At σ i (.ref a) ∧ H a = some o ∧ ObjD H (cA δ σ) (MA F δ σ) o d ∧ (m = .mu → F.H0 a = none) ∧ (m = .bo → (i, a) ∈ F.bor)
  cok : ∀ i m d, IsC δ i m d → VOk [] d
  dist : ∀ i j m d m' d' a, IsC δ i m d → IsC δ j m' d' → At σ i (.ref a) → At σ j (.ref a) → i = j
  keep : ∀ b o, ¬ F.inB b → F.H0 b = some o → H b = some o
  avt : ∀ a, F.Av a → H a ≠ none
  bt : ∀ a, F.inB a → H a ≠ none
  bor : ∀ i a, (i, a) ∈ F.bor → ∃ d, IsC δ i .bo d ∧ At σ i (.ref a)
  avm : ∀ i m d a, IsC δ i m d → m ≠ .bo → At σ i (.ref a) → ¬ F.Av a
/-- from one state to a later one, the slots' values as they are -/
structure Stp (δ : FS) (σ : St) (H : Hp) (δ' : FS) (H' : Hp) : Prop where
  len : δ'.length = δ.length
  cc : ∀ i, (∃ m d, IsC δ i m d) ↔ (∃ m d, IsC δ' i m d)
  mu : ∀ a, MuA δ' σ a → MuA δ σ a
  hp : ∀ b o, H b = some o → ¬ MuA δ σ b → H' b = some o
  th : ∀ b, H b ≠ none → H' b ≠ none

theorem Stp.refl {δ : FS} {σ : St} {H : Hp} : Stp δ σ H δ H := ⟨rfl, fun _ => Iff.rfl, fun _ h => h, fun _ _ h _ => h, fun _ h => h⟩
theorem Stp.trans {δ δ1 δ2 : FS} {σ : St} {H H1 H2 : Hp} (a : Stp δ σ H δ1 H1) (b : Stp δ1 σ H1 δ2 H2) : Stp δ σ H δ2 H2 :=
  ⟨b.len.trans a.len, fun i => (a.cc i).trans (b.cc i), fun x h => a.mu x (b.mu x h), fun x o h n => b.hp x o (a.hp x o h n) fun q => n (a.mu x q), fun x h => b.th x (a.th x h)⟩
theorem cA_some {δ : FS} {σ : St} {i : Nat} {a : Addr} : cA δ σ i = some a ↔ (∃ m d, IsC δ i m d) ∧ At σ i (.ref a) := by
  unfold cA
  constructor
  · intro h
    split at h
    · rename_i x y m d b e1 e2
      cases h
      exact ⟨⟨_, _, e1⟩, e2⟩
    · cases h
  · rintro ⟨⟨m, d, e1⟩, e2⟩
    rw [e1, e2]
theorem Stp.cA {δ δ' : FS} {σ : St} {H H' : Hp} (s : Stp δ σ H δ' H') {i : Nat} {a : Addr} (h : cA δ σ i = some a) : DL.cA δ' σ i = some a := by
  rw [cA_some] at h ⊢
  exact ⟨(s.cc i).mp h.1, h.2⟩
theorem Stp.MA {F : Fr} {δ δ' : FS} {σ : St} {H H' : Hp} (s : Stp δ σ H δ' H') {a : Addr} (h : MA F δ' σ a) : DL.MA F δ σ a := h.imp id (s.mu a)
theorem Stp.rep {F : Fr} {δ δ' : FS} {σ : St} {H H' : Hp} (s : Stp δ σ H δ' H') {v : V} {d : D} (r : Rep H (DL.cA δ σ) (DL.MA F δ σ) v d) : Rep H' (DL.cA δ' σ) (DL.MA F δ' σ) v d :=
  r.mono (fun a o e n => s.hp a o e fun q => n (.inr q)) (fun _ _ h => s.cA h) fun _ _ n q => n (s.MA q)
theorem Stp.repAll {F : Fr} {δ δ' : FS} {σ : St} {H H' : Hp} (s : Stp δ σ H δ' H') {v : List V} {d : List D} (r : RepAll H (DL.cA δ σ) (DL.MA F δ σ) v d) : RepAll H' (DL.cA δ' σ) (DL.MA F δ' σ) v d :=
  r.mono (fun a o e n => s.hp a o e fun q => n (.inr q)) (fun _ _ h => s.cA h) fun _ _ n q => n (s.MA q)

/-- a fresh address is no one's -/
theorem Rel.fresh {F : Fr} {L : List Nat} {δ : FS} {σ : St} {H : Hp} (R : Rel F L δ σ H) {p : Addr} (hp : H p = none) : ¬ MA F δ σ p := by
  rintro (h | ⟨i, m, d, e, _, es⟩)
  · exact R.avt p h hp
  · obtain ⟨a, o, ea, ho, _⟩ := R.cell i m d e
    cases Option.some.inj (Option.some.inj (es.symm.trans ea))
    rw [hp] at ho
    cases ho
theorem rep_upd {H : Hp} {C : Nat → Option Addr} {M : Addr → Prop} {p : Addr} {o : HO} (hp : H p = none) {v : V} {d : D} (r : Rep H C M v d) : Rep (upd H p o) C M v d :=
  r.mono (fun a q e _ => by rw [upd_ne (ne_of_none e hp)]; exact e) (fun _ _ h => h) fun _ _ n => n
theorem repAll_upd {H : Hp} {C : Nat → Option Addr} {M : Addr → Prop} {p : Addr} {o : HO} (hp : H p = none) {v : List V} {d : List D} (r : RepAll H C M v d) : RepAll (upd H p o) C M v d :=
  r.mono (fun a q e _ => by rw [upd_ne (ne_of_none e hp)]; exact e) (fun _ _ h => h) fun _ _ n => n
theorem objD_upd {H : Hp} {C : Nat → Option Addr} {M : Addr → Prop} {p : Addr} {o : HO} (hp : H p = none) {u : HO} {d : D} (r : ObjD H C M u d) : ObjD (upd H p o) C M u d :=
  r.mono (fun a q e _ => by rw [upd_ne (ne_of_none e hp)]; exact e) (fun _ _ h => h) fun _ _ n => n
/-- an object is laid: the state holds, and nothing else has changed -/
theorem Rel.laid {F : Fr} {L : List Nat} {δ : FS} {σ : St} {H : Hp} (R : Rel F L δ σ H) {p : Addr} {o : HO} (hp : H p = none) : Rel F L δ σ (upd H p o) := by
  have up : ∀ b u, H b = some u → upd H p o b = some u := fun b u e => by rw [upd_ne (ne_of_none e hp)]; exact e
  have nn : ∀ b, H b ≠ none → upd H p o b ≠ none := fun b h => by
    by_cases q : b = p
    · rw [q, upd_same]; exact fun z => nomatch z
    · rw [upd_ne q]; exact h
  refine ⟨R.len, fun i d e => ?_, R.vok, fun i m d e => ?_, R.cok, R.dist, fun b u n e => up b u (R.keep b u n e), fun a h => nn a (R.avt a h), fun a h => nn a (R.bt a h), R.bor, R.avm⟩
  · obtain ⟨v, ev, r⟩ := R.slot i d e
    exact ⟨v, ev, rep_upd hp r⟩
  · obtain ⟨a, u, ea, hu, ob, z⟩ := R.cell i m d e
    exact ⟨a, u, ea, up a u hu, objD_upd hp ob, z⟩
theorem Stp.laid {δ δ' : FS} {σ : St} {H H' : Hp} (s : Stp δ σ H δ' H') {p : Addr} {o : HO} (hp : H' p = none) : Stp δ σ H δ' (upd H' p o) := by
  refine ⟨s.len, s.cc, s.mu, fun b u e n => ?_, fun b h => ?_⟩
  · rw [upd_ne (ne_of_none (s.hp b u e n) hp)]
    exact s.hp b u e n
  · by_cases q : b = p
    · rw [q, upd_same]; exact fun z => nomatch z
    · rw [upd_ne q]; exact s.th b h

/-- what is asked of the cells that a value names: nothing; that they lie in L; that those of its items do -/
inductive Kd where
  | any | val | itm
def Kd.o : Kd → Kd
  | .any => .any
  | _ => .itm
/-- a cell's variable looked through -/
def top (δ : FS) : D → D
  | .var i => match δ[i]? with
    | some (some (.cl _ c)) => c
    | _ => .var i
  | d => d
def KOk (L : List Nat) : Kd → FS → D → Prop
  | .any, _, _ => True
  | .val, _, d => VOk L d
  | .itm, δ, d => VOk L (top δ d)
/-- the wish about exceptions: none: no exception leaves -/
abbrev WO := Option WX
def XRep (H : Hp) (x : Xn) (cls : Value) (dd : Option Addr) : Prop := ∃ C, KL.cls x.cls = some C ∧ cls = .ref C ∧ dd = none ∧ x.fs = []

def EPost (W : WO) (F : Fr) (L : List Nat) (k : Kd) (δ : FS) (σ : St) (H : Hp) (Q : VK) : RE → Prop
  | .ok d δ' => ∀ v H', Rel F L δ' σ H' → Stp δ σ H δ' H' → Rep H' (cA δ' σ) (MA F δ' σ) v d → KOk L k δ' d → Q v H'
  | .own d δ' => ∀ p H' o, Rel F L δ' σ H' → Stp δ σ H δ' H' → H' p = none → ObjD H' (cA δ' σ) (MA F δ' σ) o d → KOk L k δ' d → Q (.ref p) (upd H' p o)
  | .exn x δ' => match W with
    | none => False
    | some W => ∀ H' cls dd, Rel F L δ' σ H' → Stp δ σ H δ' H' → XRep H' x cls dd → W cls dd σ H'
  | .bad => False
  | .ownT xs ds ys δ' => ∀ p q H' us vs zs, Rel F L δ' σ H' → Stp δ σ H δ' H' → H' p = none → H' q = none → p ≠ q → RepAll H' (cA δ' σ) (MA F δ' σ) vs xs → RepAll H' (cA δ' σ) (MA F δ' σ) us ds → RepAll H' (cA δ' σ) (MA F δ' σ) zs ys →
    (k ≠ .any → VOkA L xs ∧ VOkA L ds ∧ VOkA L ys) → Q (.ref p) (upd (upd H' q (.lst us)) p (.tup (vs ++ .ref q :: zs)))
/-- the reading t does what g says -/
def Ev (W : WO) (L : List Nat) (k : Kd) (t : TE) (g : GE) : Prop := ∀ (F : Fr) (δ : FS) (σ : St) (H : Hp) (Q : VK), Rel F L δ σ H → EPost W F L k δ σ H Q (g δ) → t σ H Q
structure DE (X : Cx) (W : WO) (L : List Nat) (k : Kd) (e : Expr) (t : TE) (g : GE) : Prop where
  pe : PE X e t
  ev : Ev W L k t g
end DL

/-! DL, part b: expressions. -/
namespace DL
open PySem PySem.Spec PyProof.Rows L2
variable [KL]

inductive RB where
  | ok (b : Bool) (δ : FS) | exn (x : Xn) (δ : FS) | bad
abbrev GB := FS → RB
/-- a tuple with a new list in it -/
abbrev tupN (xs ds ys : List D) : D := .tup (xs ++ .lst ds :: ys)
def RE.bind : RE → (D → FS → RE) → RE
  | .ok d δ, k => k d δ
  | .ownT xs ds ys δ, k => k (tupN xs ds ys) δ
  | .own d δ, k => k d δ
  | .exn x δ, _ => .exn x δ
  | .bad, _ => .bad
def RE.bindB : RE → (D → FS → RB) → RB
  | .ok d δ, k => k d δ
  | .ownT xs ds ys δ, k => k (tupN xs ds ys) δ
  | .own d δ, k => k d δ
  | .exn x δ, _ => .exn x δ
  | .bad, _ => .bad
def RB.bind : RB → (Bool → FS → RE) → RE
  | .ok d δ, k => k d δ
  | .exn x δ, _ => .exn x δ
  | .bad, _ => .bad
def RB.bindB : RB → (Bool → FS → RB) → RB
  | .ok d δ, k => k d δ
  | .exn x δ, _ => .exn x δ
  | .bad, _ => .bad

mutual
theorem VOk.mono {L L' : List Nat} (h : ∀ i ∈ L, i ∈ L') : ∀ {d : D}, VOk L d → VOk L' d
  | _, .non => .non | _, .bl b => .bl b | _, .int i => .int i | _, .str x => .str x
  | _, .lst a => .lst (VOkA.mono h a) | _, .tup a => .tup (VOkA.mono h a) | _, .dic a => .dic (VOkA.mono h a)
  | _, .var q => .var (h _ q) | _, .scr ns => .scr ns | _, .exc c => .exc c
theorem VOkA.mono {L L' : List Nat} (h : ∀ i ∈ L, i ∈ L') : ∀ {d : List D}, VOkA L d → VOkA L' d
  | _, .nil => .nil
  | _, .cons a b => .cons (VOk.mono h a) (VOkA.mono h b)
end
theorem VOkA.get {L : List Nat} : ∀ {ds : List D} {j : Nat} {d : D}, VOkA L ds → ds[j]? = some d → VOk L d
  | _ :: _, 0, _, .cons a _, e => by cases e; exact a
  | _ :: _, j + 1, _, .cons _ b, e => VOkA.get (j := j) b e
theorem VOkA.append {L : List Nat} : ∀ {xs ys : List D}, VOkA L xs → VOkA L ys → VOkA L (xs ++ ys)
  | _, _, .nil, h => h
  | _, _, .cons a b, h => .cons a (VOkA.append b h)
theorem VOkA.of {L : List Nat} : ∀ {ds : List D}, (∀ d ∈ ds, VOk L d) → VOkA L ds
  | [], _ => .nil
  | d :: ds, h => .cons (h d List.mem_cons_self) (VOkA.of fun x hx => h x (List.mem_cons_of_mem _ hx))
theorem VOkA.mem {L : List Nat} : ∀ {ds : List D}, VOkA L ds → ∀ d ∈ ds, VOk L d
  | _, .cons a b, d, h => by
    rcases List.mem_cons.mp h with rfl | h
    · exact a
    · exact VOkA.mem b d h
theorem RepAll.get {H : Hp} {C : Nat → Option Addr} {M : Addr → Prop} : ∀ {vs : List V} {ds : List D} {j : Nat} {d : D}, RepAll H C M vs ds → ds[j]? = some d → ∃ v, vs[j]? = some v ∧ Rep H C M v d
  | _, _, 0, _, .cons a _, e => by cases e; exact ⟨_, rfl, a⟩
  | _, _, j + 1, _, .cons _ b, e => RepAll.get (j := j) b e
theorem RepAll.length {H : Hp} {C : Nat → Option Addr} {M : Addr → Prop} : ∀ {vs : List V} {ds : List D}, RepAll H C M vs ds → vs.length = ds.length
  | _, _, .nil => rfl
  | _, _, .cons _ b => congrArg (· + 1) (RepAll.length b)
theorem RepAll.append {H : Hp} {C : Nat → Option Addr} {M : Addr → Prop} : ∀ {vs ws : List V} {ds es : List D}, RepAll H C M vs ds → RepAll H C M ws es → RepAll H C M (vs ++ ws) (ds ++ es)
  | _, _, _, _, .nil, h => h
  | _, _, _, _, .cons a b, h => .cons a (RepAll.append b h)
theorem RepAll.drop {H : Hp} {C : Nat → Option Addr} {M : Addr → Prop} : ∀ {vs : List V} {ds : List D} (n : Nat), RepAll H C M vs ds → RepAll H C M (vs.drop n) (ds.drop n)
  | _, _, 0, h => h
  | _, _, _ + 1, .nil => .nil
  | _, _, n + 1, .cons _ b => RepAll.drop n b
theorem RepAll.take {H : Hp} {C : Nat → Option Addr} {M : Addr → Prop} : ∀ {vs : List V} {ds : List D} (n : Nat), RepAll H C M vs ds → RepAll H C M (vs.take n) (ds.take n)
  | _, _, 0, _ => .nil
  | _, _, _ + 1, .nil => .nil
  | _, _, n + 1, .cons a b => .cons a (RepAll.take n b)
theorem RepAll.set {H : Hp} {C : Nat → Option Addr} {M : Addr → Prop} {v : V} {d : D} (r : Rep H C M v d) : ∀ {vs : List V} {ds : List D} (n : Nat), RepAll H C M vs ds → RepAll H C M (vs.set n v) (ds.set n d)
  | _, _, _, .nil => .nil
  | _, _, 0, .cons a b => .cons r b
  | _, _, n + 1, .cons a b => .cons a (RepAll.set r n b)
theorem RepAll.reverse {H : Hp} {C : Nat → Option Addr} {M : Addr → Prop} : ∀ {vs : List V} {ds : List D}, RepAll H C M vs ds → RepAll H C M vs.reverse ds.reverse
  | _, _, .nil => .nil
  | _, _, .cons a b => by rw [List.reverse_cons, List.reverse_cons]; exact RepAll.append (RepAll.reverse b) (.cons a .nil)
theorem RepAll.rep {H : Hp} {C : Nat → Option Addr} {M : Addr → Prop} {vs : List V} {ds : List D} (r : RepAll H C M vs ds) : ∀ k : Nat, RepAll H C M (List.replicate k vs).flatten (List.replicate k ds).flatten
  | 0 => .nil
  | k + 1 => by rw [List.replicate_succ, List.replicate_succ, List.flatten_cons, List.flatten_cons]; exact RepAll.append r (RepAll.rep r k)
theorem VOkA.drop {L : List Nat} : ∀ {ds : List D} (n : Nat), VOkA L ds → VOkA L (ds.drop n)
  | _, 0, h => h
  | _, _ + 1, .nil => .nil
  | _, n + 1, .cons _ b => VOkA.drop n b
theorem VOkA.take {L : List Nat} : ∀ {ds : List D} (n : Nat), VOkA L ds → VOkA L (ds.take n)
  | _, 0, _ => .nil
  | _, _ + 1, .nil => .nil
  | _, n + 1, .cons a b => .cons a (VOkA.take n b)
theorem VOkA.set {L : List Nat} {d : D} (r : VOk L d) : ∀ {ds : List D} (n : Nat), VOkA L ds → VOkA L (ds.set n d)
  | _, _, .nil => .nil
  | _, 0, .cons _ b => .cons r b
  | _, n + 1, .cons a b => .cons a (VOkA.set r n b)
theorem VOkA.reverse {L : List Nat} {ds : List D} (h : VOkA L ds) : VOkA L ds.reverse := .of fun d hd => h.mem d (List.mem_reverse.mp hd)
theorem VOkA.rep {L : List Nat} {ds : List D} (h : VOkA L ds) (k : Nat) : VOkA L (List.replicate k ds).flatten := .of fun d hd => by
  obtain ⟨l, hl, hd⟩ := List.mem_flatten.mp hd
  rw [(List.mem_replicate.mp hl).2] at hd
  exact h.mem d hd

/-! ### what a value is -/
section
variable {F : Fr} {L : List Nat} {k : Kd} {δ : FS} {σ : St} {H : Hp} {v : V} {d : D}
abbrev RepH (F : Fr) (δ : FS) (σ : St) (H : Hp) (v : V) (d : D) : Prop := Rep H (cA δ σ) (MA F δ σ) v d
abbrev RepHA (F : Fr) (δ : FS) (σ : St) (H : Hp) (v : List V) (d : List D) : Prop := RepAll H (cA δ σ) (MA F δ σ) v d
theorem top_cell (R : Rel F L δ σ H) {i : Nat} (r : RepH F δ σ H v (.var i)) : ∃ m c a o, IsC δ i m c ∧ v = .ref a ∧ At σ i (.ref a) ∧ H a = some o ∧ ObjD H (cA δ σ) (MA F δ σ) o c := by
  cases r with
  | var h =>
    obtain ⟨⟨m, c, e⟩, es⟩ := cA_some.mp h
    obtain ⟨a, o, ea, ho, ob, _⟩ := R.cell i m c e
    cases Option.some.inj (Option.some.inj (es.symm.trans ea))
    exact ⟨m, c, _, o, e, rfl, es, ho, ob⟩
theorem top_var {i : Nat} {m : Md} {c : D} (e : IsC δ i m c) : top δ (.var i) = c := by
  show (match δ[i]? with | some (some (.cl _ c)) => c | _ => .var i) = c
  rw [e]
theorem Rel.int (R : Rel F L δ σ H) (r : RepH F δ σ H v d) {i : Int} (e : top δ d = .int i) : v = .int i := by
  cases r with
  | var h =>
    obtain ⟨m, c, a, o, ec, _, _, _, ob⟩ := top_cell R (.var h)
    rw [top_var ec] at e; subst e
    cases o <;> exact ob.elim
  | int j => cases e; rfl
  | _ => cases e
theorem Rel.bl (R : Rel F L δ σ H) (r : RepH F δ σ H v d) {i : Bool} (e : top δ d = .bl i) : v = .bl i := by
  cases r with
  | var h =>
    obtain ⟨m, c, a, o, ec, _, _, _, ob⟩ := top_cell R (.var h)
    rw [top_var ec] at e; subst e
    cases o <;> exact ob.elim
  | bl j => cases e; rfl
  | _ => cases e
theorem Rel.str (R : Rel F L δ σ H) (r : RepH F δ σ H v d) {i : Str} (e : top δ d = .str i) : v = .str i := by
  cases r with
  | var h =>
    obtain ⟨m, c, a, o, ec, _, _, _, ob⟩ := top_cell R (.var h)
    rw [top_var ec] at e; subst e
    cases o <;> exact ob.elim
  | str j => cases e; rfl
  | _ => cases e
theorem Rel.non (R : Rel F L δ σ H) (r : RepH F δ σ H v d) (e : top δ d = .non) : v = .non := by
  cases r with
  | var h =>
    obtain ⟨m, c, a, o, ec, _, _, _, ob⟩ := top_cell R (.var h)
    rw [top_var ec] at e; subst e
    cases o <;> exact ob.elim
  | non => rfl
  | _ => cases e
theorem Rel.lst (R : Rel F L δ σ H) (r : RepH F δ σ H v d) (K : KOk L k.o δ d) {ds : List D} (e : top δ d = .lst ds) : ∃ a us, v = .ref a ∧ Rd H a (.lst us) ∧ RepHA F δ σ H us ds ∧ (k ≠ .any → VOkA L ds) := by
  have kk : k ≠ .any → VOkA L ds := fun hk => by
    have z : VOk L (top δ d) := by cases k <;> first | exact (hk rfl).elim | exact K
    rw [e] at z
    cases z with
    | lst z => exact z
  cases r with
  | var h =>
    obtain ⟨m, c, a, o, ec, ev, _, ho, ob⟩ := top_cell R (.var h)
    rw [top_var ec] at e; subst e
    cases o with
    | lst us => exact ⟨a, us, ev, .of ho, ob, kk⟩
    | _ => exact ob.elim
  | lst h n ra =>
    cases e
    exact ⟨_, _, rfl, h, ra, kk⟩
  | _ => cases e
theorem Rel.tup (R : Rel F L δ σ H) (r : RepH F δ σ H v d) (K : KOk L k.o δ d) {ds : List D} (e : top δ d = .tup ds) : ∃ a us, v = .ref a ∧ Rd H a (.tup us) ∧ RepHA F δ σ H us ds ∧ (k ≠ .any → VOkA L ds) := by
  have kk : k ≠ .any → VOkA L ds := fun hk => by
    have z : VOk L (top δ d) := by cases k <;> first | exact (hk rfl).elim | exact K
    rw [e] at z
    cases z with
    | tup z => exact z
  cases r with
  | var h =>
    obtain ⟨m, c, a, o, ec, ev, _, ho, ob⟩ := top_cell R (.var h)
    rw [top_var ec] at e; subst e
    cases o <;> exact ob.elim
  | tup h n ra =>
    cases e
    exact ⟨_, _, rfl, h, ra, kk⟩
  | _ => cases e
theorem Rel.exc (R : Rel F L δ σ H) (r : RepH F δ σ H v d) {n : Str} {fs : List (Str × D)} (e : top δ d = .exc n fs) : ∃ a C φ, v = .ref a ∧ KL.cls n = some C ∧ H a = some (.ext φ) ∧ ExA C a φ ∧ fs = [] := by
  cases r with
  | var h =>
    obtain ⟨m, c, a, o, ec, _, _, _, ob⟩ := top_cell R (.var h)
    rw [top_var ec] at e; subst e
    cases o <;> exact ob.elim
  | exc q h x n => cases e; exact ⟨_, _, _, rfl, q, h, x, rfl⟩
  | _ => cases e
theorem Rel.scr {K : PySem.W.Frag} [KLOk K] (R : Rel F L δ σ H) (r : RepH F δ σ H v d) {ns : List Int} (e : top δ d = .scr ns) : ∃ a, v = .ref a ∧ SqL K H a (ns.map V.int) := by
  cases r with
  | var h =>
    obtain ⟨m, c, a, o, ec, _, _, _, ob⟩ := top_cell R (.var h)
    rw [top_var ec] at e; subst e
    cases o <;> exact ob.elim
  | scr h n => cases e; exact ⟨_, rfl, .inl h⟩
  | scK h => cases e; exact ⟨_, rfl, KLOk.ok _ _ h H⟩
  | _ => cases e
end

/-! ### using a part -/
section
variable {W : WO} {F : Fr} {L : List Nat} {k ka kb : Kd} {δ δ' : FS} {σ : St} {H H' : Hp} {Q : VK}
theorem EPost.shift (s : Stp δ σ H δ' H') : ∀ {r : RE}, EPost W F L k δ σ H Q r → EPost W F L k δ' σ H' Q r
  | .ok d δ2, p => fun v H2 R2 s2 r2 k2 => p v H2 R2 (s.trans s2) r2 k2
  | .own d δ2, p => fun q H2 o R2 s2 hq ob k2 => p q H2 o R2 (s.trans s2) hq ob k2
  | .ownT xs ds ys δ2, P => fun p q H2 us vs zs R2 s2 => P p q H2 us vs zs R2 (s.trans s2)
  | .exn x δ2, p => by
    cases W with
    | none => exact p
    | some W => exact fun H2 cls dd R2 s2 xr => p H2 cls dd R2 (s.trans s2) xr
  | .bad, p => p
def BPost (W : WO) (F : Fr) (L : List Nat) (δ : FS) (σ : St) (H : Hp) (Q : Bool → Hp → Prop) : RB → Prop
  | .ok b δ' => ∀ H', Rel F L δ' σ H' → Stp δ σ H δ' H' → Q b H'
  | .exn x δ' => match W with
    | none => False
    | some W => ∀ H' cls dd, Rel F L δ' σ H' → Stp δ σ H δ' H' → XRep H' x cls dd → W cls dd σ H'
  | .bad => False
theorem BPost.shift {Q : Bool → Hp → Prop} (s : Stp δ σ H δ' H') : ∀ {r : RB}, BPost W F L δ σ H Q r → BPost W F L δ' σ H' Q r
  | .ok d δ2, p => fun H2 R2 s2 => p H2 R2 (s.trans s2)
  | .exn x δ2, p => by
    cases W with
    | none => exact p
    | some W => exact fun H2 cls dd R2 s2 xr => p H2 cls dd R2 (s.trans s2) xr
  | .bad, p => p
def EvB (W : WO) (L : List Nat) (t : TT) (g : GB) : Prop := ∀ (F : Fr) (δ : FS) (σ : St) (H : Hp) (Q : Bool → Hp → Prop), Rel F L δ σ H → BPost W F L δ σ H Q (g δ) → t σ H Q
structure DT (X : Cx) (W : WO) (L : List Nat) (e : Expr) (t : TT) (g : GB) : Prop where
  pt : PT X e t
  ev : EvB W L t g
structure DW (X : Cx) (W : WO) (L : List Nat) (e : Expr) (t : TT) (g : GB) : Prop where
  pw : PW X e t
  ev : EvB W L t g
/-- what is known of a value that has come -/
structure Got (F : Fr) (L : List Nat) (k : Kd) (δ : FS) (σ : St) (H : Hp) (δ' : FS) (v : V) (d : D) (H' : Hp) : Prop where
  R : Rel F L δ' σ H'
  s : Stp δ σ H δ' H'
  r : RepH F δ' σ H' v d
  k : KOk L k δ' d
theorem own_rep (R : Rel F L δ σ H) {p : Addr} {o : HO} {d : D} (hp : H p = none) (ob : ObjD H (cA δ σ) (MA F δ σ) o d) : RepH F δ σ (upd H p o) (.ref p) d := by
  have n := R.fresh hp
  cases o with
  | lst us => cases d with
    | lst ds => exact .lst (.of upd_same) n (repAll_upd hp ob)
    | _ => exact ob.elim
  | dK us => cases d with
    | dic ds => exact .dic upd_same n (RepKV.mono (fun a q e _ => by rw [upd_ne (ne_of_none e hp)]; exact e) (fun _ _ h => h) (fun _ _ n => n) ob)
    | _ => exact ob.elim
  | _ => cases d <;> exact ob.elim
theorem KOk.mk (R : Rel F L δ σ H) {d : D} (h : k ≠ .any → VOk L d) : KOk L k δ d := by
  cases k with
  | any => exact trivial
  | val => exact h (fun z => nomatch z)
  | itm =>
    have h := h (fun z => nomatch z)
    show VOk L (top δ d)
    cases h with
    | @var i q =>
      by_cases z : ∃ m c, IsC δ i m c
      · obtain ⟨m, c, e⟩ := z
        rw [top_var e]
        exact (R.cok _ _ _ e).mono fun _ h => absurd h List.not_mem_nil
      · have e : top δ (.var i) = .var i := by
          show (match δ[i]? with | some (some (.cl _ c)) => c | _ => .var i) = _
          split
          · rename_i m c e
            exact absurd ⟨m, c, e⟩ z
          · rfl
        rw [e]
        exact .var q
    | non => exact .non | bl b => exact .bl b | int i => exact .int i | str x => exact .str x
    | lst a => exact .lst a | tup a => exact .tup a | dic a => exact .dic a | scr ns => exact .scr ns | exc c => exact .exc c
theorem repT {H1 : Hp} {δ1 : FS} {xs ds ys : List D} {us vs zs : List V} {p q : Addr} (R1 : Rel F L δ1 σ H1) (hp : H1 p = none) (hq : H1 q = none) (hn : p ≠ q) (r1 : RepHA F δ1 σ H1 vs xs) (r2 : RepHA F δ1 σ H1 us ds) (r3 : RepHA F δ1 σ H1 zs ys) :
    (upd H1 q (.lst us)) p = none ∧ Rel F L δ1 σ (upd (upd H1 q (.lst us)) p (.tup (vs ++ .ref q :: zs))) ∧ RepH F δ1 σ (upd (upd H1 q (.lst us)) p (.tup (vs ++ .ref q :: zs))) (.ref p) (tupN xs ds ys) := by
  have R2 : Rel F L δ1 σ (upd H1 q (.lst us)) := R1.laid hq
  have hp2 : (upd H1 q (.lst us)) p = none := by rw [upd_ne hn]; exact hp
  have R3 : Rel F L δ1 σ (upd (upd H1 q (.lst us)) p (.tup (vs ++ .ref q :: zs))) := R2.laid hp2
  have rl : RepH F δ1 σ (upd H1 q (.lst us)) (.ref q) (.lst ds) := .lst (.of upd_same) (R1.fresh hq) (repAll_upd hq r2)
  exact ⟨hp2, R3, .tup (.of upd_same) (R2.fresh hp2) (repAll_upd hp2 ((repAll_upd hq r1).append (.cons rl (repAll_upd hq r3))))⟩
theorem VOkA.tupN {xs ds ys : List D} (h : VOkA L xs ∧ VOkA L ds ∧ VOkA L ys) : VOk L (DL.tupN xs ds ys) := .tup (h.1.append (.cons (.lst h.2.1) h.2.2))
/-- what is new in it is forgotten -/
theorem EPost.fgt {xs ds ys : List D} {δ1 : FS} (P : EPost W F L k δ σ H Q (.ok (tupN xs ds ys) δ1)) : EPost W F L k δ σ H Q (.ownT xs ds ys δ1) := fun p q H1 us vs zs R1 s1 hp hq hn r1 r2 r3 k1 => by
  obtain ⟨hp2, R3, rt⟩ := repT R1 hp hq hn r1 r2 r3
  have s2 : Stp δ σ H δ1 (upd H1 q (.lst us)) := s1.laid hq
  exact P (.ref p) _ R3 (s2.laid hp2) rt (KOk.mk R3 fun z => VOkA.tupN (k1 z))
/-- a part's wish, from that of the whole -/
theorem EPost.bind {r : RE} {c : D → FS → RE} {Q1 : VK} (P : EPost W F L k δ σ H Q (r.bind c))
    (K : ∀ d δ' v H', Got F L ka δ σ H δ' v d H' → EPost W F L k δ' σ H' Q (c d δ') → Q1 v H') : EPost W F L ka δ σ H Q1 r := by
  cases r with
  | ok d δ1 => exact fun v H1 R1 s1 r1 k1 => K d δ1 v H1 ⟨R1, s1, r1, k1⟩ (EPost.shift s1 P)
  | own d δ1 => exact fun p H1 o R1 s1 hp ob k1 => K d δ1 _ _ ⟨R1.laid hp, s1.laid hp, own_rep R1 hp ob, k1⟩ (EPost.shift (s1.laid hp) P)
  | exn x δ1 => exact P
  | bad => exact P
  | ownT xs ds ys δ1 => exact EPost.fgt fun v H1 R1 s1 r1 k1 => K _ δ1 v H1 ⟨R1, s1, r1, k1⟩ (EPost.shift s1 P)
theorem EPost.bindB {r : RE} {c : D → FS → RB} {Q : Bool → Hp → Prop} {Q1 : VK} (P : BPost W F L δ σ H Q (r.bindB c))
    (K : ∀ d δ' v H', Got F L ka δ σ H δ' v d H' → BPost W F L δ' σ H' Q (c d δ') → Q1 v H') : EPost W F L ka δ σ H Q1 r := by
  cases r with
  | ok d δ1 => exact fun v H1 R1 s1 r1 k1 => K d δ1 v H1 ⟨R1, s1, r1, k1⟩ (BPost.shift s1 P)
  | own d δ1 => exact fun p H1 o R1 s1 hp ob k1 => K d δ1 _ _ ⟨R1.laid hp, s1.laid hp, own_rep R1 hp ob, k1⟩ (BPost.shift (s1.laid hp) P)
  | exn x δ1 => exact P
  | bad => exact P
  | ownT xs ds ys δ1 => exact EPost.fgt fun v H1 R1 s1 r1 k1 => K _ δ1 v H1 ⟨R1, s1, r1, k1⟩ (BPost.shift s1 P)
/-- a part, and what is made of its value -/
theorem Ev.seq {t : TE} {g : GE} (h : Ev W L ka t g) {c : D → FS → RE} {Q1 : VK} (R : Rel F L δ σ H) (P : EPost W F L k δ σ H Q ((g δ).bind c))
    (K : ∀ d δ' v H', Got F L ka δ σ H δ' v d H' → EPost W F L k δ' σ H' Q (c d δ') → Q1 v H') : t σ H Q1 := h F δ σ H Q1 R (P.bind K)
theorem Ev.seqB {t : TE} {g : GE} (h : Ev W L ka t g) {c : D → FS → RB} {Q : Bool → Hp → Prop} {Q1 : VK} (R : Rel F L δ σ H) (P : BPost W F L δ σ H Q ((g δ).bindB c))
    (K : ∀ d δ' v H', Got F L ka δ σ H δ' v d H' → BPost W F L δ' σ H' Q (c d δ') → Q1 v H') : t σ H Q1 := h F δ σ H Q1 R (EPost.bindB P K)
theorem EvB.seq {t : TT} {g : GB} (h : EvB W L t g) {c : Bool → FS → RE} {Q1 : Bool → Hp → Prop} (R : Rel F L δ σ H) (P : EPost W F L k δ σ H Q ((g δ).bind c))
    (K : ∀ b δ' H', Rel F L δ' σ H' → EPost W F L k δ' σ H' Q (c b δ') → Q1 b H') : t σ H Q1 := by
  refine h F δ σ H Q1 R ?_
  cases e : g δ with
  | ok d δ1 =>
    rw [e] at P
    exact fun H1 R1 s1 => K d δ1 H1 R1 (EPost.shift s1 P)
  | exn x δ1 =>
    rw [e] at P
    exact P
  | bad =>
    rw [e] at P
    exact P
theorem EvB.seqB {t : TT} {g : GB} (h : EvB W L t g) {c : Bool → FS → RB} {Q Q1 : Bool → Hp → Prop} (R : Rel F L δ σ H) (P : BPost W F L δ σ H Q ((g δ).bindB c))
    (K : ∀ b δ' H', Rel F L δ' σ H' → BPost W F L δ' σ H' Q (c b δ') → Q1 b H') : t σ H Q1 := by
  refine h F δ σ H Q1 R ?_
  cases e : g δ with
  | ok d δ1 =>
    rw [e] at P
    exact fun H1 R1 s1 => K d δ1 H1 R1 (BPost.shift s1 P)
  | exn x δ1 =>
    rw [e] at P
    exact P
  | bad =>
    rw [e] at P
    exact P
theorem KOk.shift (s : Stp δ σ H δ' H') (R : Rel F L δ' σ H') {d : D} (h : KOk L k δ d) : KOk L k δ' d := by
  cases k with
  | any => exact trivial
  | val => exact h
  | itm =>
    have h : VOk L (top δ d) := h
    show VOk L (top δ' d)
    cases d with
    | var i =>
      by_cases z : ∃ m c, IsC δ i m c
      · obtain ⟨m, c, e⟩ := (s.cc i).mp z
        rw [top_var e]
        exact (R.cok _ _ _ e).mono fun _ h => absurd h List.not_mem_nil
      · have e : top δ (.var i) = .var i := by
          show (match δ[i]? with | some (some (.cl _ c)) => c | _ => .var i) = _
          split
          · rename_i m c e
            exact absurd ⟨m, c, e⟩ z
          · rfl
        have z' : ¬ ∃ m c, IsC δ' i m c := fun q => z ((s.cc i).mpr q)
        have e' : top δ' (.var i) = .var i := by
          show (match δ'[i]? with | some (some (.cl _ c)) => c | _ => .var i) = _
          split
          · rename_i m c e
            exact absurd ⟨m, c, e⟩ z'
          · rfl
        rw [e'] ; rw [e] at h; exact h
    | _ => exact h
theorem Got.shift {δ1 δ2 : FS} {H1 H2 : Hp} {v : V} {d : D} (g : Got F L k δ σ H δ1 v d H1) (s : Stp δ1 σ H1 δ2 H2) (R : Rel F L δ2 σ H2) : Got F L k δ σ H δ2 v d H2 := ⟨R, g.s.trans s, s.rep g.r, g.k.shift s R⟩
/-- a value that costs nothing -/
theorem EPost.give {d : D} {v : V} (P : EPost W F L k δ σ H Q (.ok d δ)) (R : Rel F L δ σ H) (r : RepH F δ σ H v d) (K : KOk L k δ d) : Q v H := P v H R .refl r K
theorem EPost.new {d : D} {o : HO} (P : EPost W F L k δ σ H Q (.own d δ)) (R : Rel F L δ σ H) {p : Addr} (hp : H p = none) (ob : ObjD H (cA δ σ) (MA F δ σ) o d) (K : KOk L k δ d) : Q (.ref p) (upd H p o) := P p H o R .refl hp ob K
end
end DL

/-! DL, part c: leaves, operators, comparisons, displays, items, slices. -/
namespace DL
open PySem PySem.Spec PyProof.Rows L2
variable [KL]

/-! ### leaves -/
def gC (d : D) : GE := fun δ => .ok d δ
def gV (i : Nat) : GE := fun δ => match δ[i]? with
  | some (some (.fz d)) => .ok d δ
  | _ => .bad
/-- a name that may be a cell's -/
def gVc (i : Nat) : GE := fun δ => match δ[i]? with
  | some (some (.fz d)) => .ok d δ
  | some (some (.cl _ _)) => .ok (.var i) δ
  | _ => .bad
section
variable {X : Cx} {W : WO} {L : List Nat} {k : Kd} {pos : Pos}
theorem de_int {i j} : DE X W L k (.Constant (.int i) j pos) (tC (.int i)) (gC (.int i)) := ⟨pe_int, fun F δ σ H Q R P => EPost.give P R (.int i) (KOk.mk R fun _ => .int i)⟩
theorem de_bl {b j} : DE X W L k (.Constant (.bool b) j pos) (tC (.bl b)) (gC (.bl b)) := ⟨pe_bl, fun F δ σ H Q R P => EPost.give P R (.bl b) (KOk.mk R fun _ => .bl b)⟩
theorem de_non {j} : DE X W L k (.Constant .none j pos) (tC .non) (gC .non) := ⟨pe_non, fun F δ σ H Q R P => EPost.give P R .non (KOk.mk R fun _ => .non)⟩
theorem de_str {x j} : DE X W L k (.Constant (.str x) j pos) (tC (.str x)) (gC (.str x)) := ⟨pe_str, fun F δ σ H Q R P => EPost.give P R (.str x) (KOk.mk R fun _ => .str x)⟩
/-- a module's whole number -/
theorem de_globI {x : Str} {i : Int} {t : Tok} (hg : Gl X x) (hm : X.mg x = some (.int i t)) (hd : (x == ("__debug__" : Str)) = false := by decide) : DE X W L k (.Name x pos) (tC (.int i)) (gC (.int i)) :=
  ⟨pe_glob hg hm ⟨_, rfl⟩ hd, fun F δ σ H Q R P => EPost.give P R (.int i) (KOk.mk R fun _ => .int i)⟩
theorem ev_var {i : Nat} : Ev W L k (tVar i) (gV i) := fun F δ σ H Q R P => by
  unfold gV at P
  split at P
  · rename_i d e
    obtain ⟨v, ev, r⟩ := R.slot i d e
    exact ⟨v, ev, EPost.give P R r (KOk.mk R fun _ => R.vok i d e)⟩
  · exact P.elim
theorem ev_varc {i : Nat} (hk : k = .val → i ∈ L) : Ev W L k (tVar i) (gVc i) := fun F δ σ H Q R P => by
  unfold gVc at P
  split at P
  · rename_i d e
    obtain ⟨v, ev, r⟩ := R.slot i d e
    exact ⟨v, ev, EPost.give P R r (KOk.mk R fun _ => R.vok i d e)⟩
  · rename_i m d e
    obtain ⟨a, o, ea, _, _, _⟩ := R.cell i m d e
    refine ⟨.ref a, ea, EPost.give P R (.var (cA_some.mpr ⟨⟨m, d, e⟩, ea⟩)) ?_⟩
    cases k with
    | any => exact trivial
    | val => exact .var (hk rfl)
    | itm =>
      show VOk L (top δ (.var i))
      rw [top_var e]
      exact (R.cok _ _ _ e).mono fun _ h => absurd h List.not_mem_nil
  · exact P.elim
theorem de_var {i : Nat} {x : Str} (hN : X.N[i]? = some x := by rfl) (hv : Vis X.env.scope x := by first | exact Or.inl rfl | exact Or.inr (Or.inl rfl) | exact Or.inr (Or.inr rfl)) (hd : (x == ("__debug__" : Str)) = false := by decide)
    (hcd : (x == ("__classdict__" : Str)) = false := by decide) : DE X W L k (.Name x pos) (tVar i) (gV i) := ⟨pe_var hN hv hd hcd, ev_var⟩
theorem de_varc {i : Nat} {x : Str} (hk : k = .val → i ∈ L) (hN : X.N[i]? = some x := by rfl) (hv : Vis X.env.scope x := by first | exact Or.inl rfl | exact Or.inr (Or.inl rfl) | exact Or.inr (Or.inr rfl)) (hd : (x == ("__debug__" : Str)) = false := by decide)
    (hcd : (x == ("__classdict__" : Str)) = false := by decide) : DE X W L k (.Name x pos) (tVar i) (gVc i) := ⟨pe_var hN hv hd hcd, ev_varc hk⟩
end

/-! ### operators -/
def gBin (f : FS → D → D → RE) (a b : GE) : GE := fun δ => (a δ).bind fun x δ1 => (b δ1).bind fun y δ2 => f δ2 x y
def gUn (f : FS → D → RE) (a : GE) : GE := fun δ => (a δ).bind fun x δ1 => f δ1 x
def OpD (L : List Nat) (ka kb k : Kd) (r : R2) (f : FS → D → D → RE) : Prop := ∀ (W : WO) (F : Fr) (δ : FS) (σ : St) (H : Hp) (Q : VK) (x y : V) (a b : D), Rel F L δ σ H → RepH F δ σ H x a → KOk L ka δ a → RepH F δ σ H y b → KOk L kb δ b →
  EPost W F L k δ σ H Q (f δ a b) → r x y H Q
def UnD (L : List Nat) (ka k : Kd) (r : V → Hp → VK → Prop) (f : FS → D → RE) : Prop := ∀ (W : WO) (F : Fr) (δ : FS) (σ : St) (H : Hp) (Q : VK) (x : V) (a : D), Rel F L δ σ H → RepH F δ σ H x a → KOk L ka δ a →
  EPost W F L k δ σ H Q (f δ a) → r x H Q
theorem Ev.bin {W : WO} {L : List Nat} {ka kb k : Kd} {r : R2} {f : FS → D → D → RE} {ta tb : TE} {ga gb : GE} (hf : OpD L ka kb k r f) (ha : Ev W L ka ta ga) (hb : Ev W L kb tb gb) : Ev W L k (tOp r ta tb) (gBin f ga gb) := fun F δ σ H Q R P =>
  ha.seq R P fun d δ1 v H1 G1 P1 => hb.seq G1.R P1 fun e δ2 u H2 G2 P2 => by
    have G := G1.shift G2.s G2.R
    exact hf W F δ2 σ H2 Q v u d e G2.R G.r G.k G2.r G2.k P2
theorem Ev.un {W : WO} {L : List Nat} {ka k : Kd} {r : V → Hp → VK → Prop} {f : FS → D → RE} {ta : TE} {ga : GE} (hf : UnD L ka k r f) (ha : Ev W L ka ta ga) : Ev W L k (tUn r ta) (gUn f ga) := fun F δ σ H Q R P =>
  ha.seq R P fun d δ1 v H1 G1 P1 => hf W F δ1 σ H1 Q v d G1.R G1.r G1.k P1

section
variable {X : Cx} {W : WO} {L : List Nat} {ka kb k : Kd} {pos : Pos} {a b c : Expr} {ta tb tc : TE} {ga gb gc : GE} {r r' : R2} {f f' : FS → D → D → RE}
theorem de_op {op : Operator} (ho : OpR X (binaryOp op) r) (hf : OpD L ka kb k r f) (ha : DE X W L ka a ta ga) (hb : DE X W L kb b tb gb) : DE X W L k (.BinOp a op b pos) (tOp r ta tb) (gBin f ga gb) :=
  ⟨pe_op ho ha.pe hb.pe, .bin hf ha.ev hb.ev⟩
theorem de_un {op : UnaryOp} {r : V → Hp → VK → Prop} {f : FS → D → RE} (ho : UnR X (unaryOp op) r) (hf : UnD L ka k r f) (ha : DE X W L ka a ta ga) : DE X W L k (.UnaryOp op a pos) (tUn r ta) (gUn f ga) :=
  ⟨pe_un ho ha.pe, .un hf ha.ev⟩
theorem de_cmp {op : CmpOp} (ho : OpR X (compareOp op) r) (hf : OpD L ka kb k r f) (ha : DE X W L ka a ta ga) (hb : DE X W L kb b tb gb) (hm : behindInMarks op b = false) : DE X W L k (.Compare a [op] [b] pos) (tOp r ta tb) (gBin f ga gb) :=
  ⟨pe_cmpR ho ha.pe hb.pe hm, .bin hf ha.ev hb.ev⟩
/-- an expression that gives True or False, as a test -/
def gB (g : GE) : GB := fun δ => (g δ).bindB fun d δ1 => match top δ1 d with
  | .bl b => .ok b δ1
  | _ => .bad
theorem Ev.test {t : TE} {g : GE} (h : Ev W L .any t g) : EvB W L (tTest t) (gB g) := fun F δ σ H Q R P =>
  h.seqB R P fun d δ1 v H1 G P1 => by
    split at P1
    · rename_i b e
      exact ⟨b, G.R.bl G.r e, P1 H1 G.R .refl⟩
    · exact P1.elim
theorem dt_cmp {op : CmpOp} (ho : OpR X (compareOp op) r) (hf : OpD L ka kb .any r f) (ha : DE X W L ka a ta ga) (hb : DE X W L kb b tb gb) (hm : behindInMarks op b = false) : DT X W L (.Compare a [op] [b] pos) (tTest (tOp r ta tb)) (gB (gBin f ga gb)) :=
  ⟨pt_cmpR ho ha.pe hb.pe hm, (Ev.bin hf ha.ev hb.ev).test⟩
/-- a op1 b op2 c -/
def gChain (f f' : FS → D → D → RE) (a b c : GE) : GE := fun δ => (a δ).bind fun x δ1 => (b δ1).bind fun y δ2 => (f δ2 x y).bind fun z δ3 => match top δ3 z with
  | .bl true => (c δ3).bind fun w δ4 => f' δ4 y w
  | .bl false => .ok (.bl false) δ3
  | _ => .bad
theorem Ev.chain (hf : OpD L ka kb .any r f) (hf' : OpD L kb kb k r' f') (ha : Ev W L ka ta ga) (hb : Ev W L kb tb gb) (hc : Ev W L kb tc gc) : Ev W L k (tChain r r' ta tb tc) (gChain f f' ga gb gc) := fun F δ σ H Q R P =>
  ha.seq R P fun d δ1 v H1 G1 P1 => hb.seq G1.R P1 fun e δ2 u H2 G2 P2 => by
    have G := G1.shift G2.s G2.R
    refine hf W F δ2 σ H2 _ v u d e G2.R G.r G.k G2.r G2.k (P2.bind fun z δ3 w H3 G3 P3 => ?_)
    split at P3
    · rename_i ez
      refine ⟨true, G3.R.bl G3.r ez, ?_⟩
      rw [if_pos rfl]
      refine hc.seq G3.R P3 fun y δ4 x H4 G4 P4 => ?_
      have G' := (G2.shift G3.s G3.R).shift G4.s G4.R
      exact hf' W F δ4 σ H4 Q u x e y G4.R G'.r G'.k G4.r G4.k P4
    · rename_i ez
      refine ⟨false, G3.R.bl G3.r ez, ?_⟩
      rw [if_neg Bool.false_ne_true]
      exact EPost.give P3 G3.R (.bl false) (KOk.mk G3.R fun _ => .bl false)
    · exact P3.elim
theorem de_chain {op op' : CmpOp} (ho : OpR X (compareOp op) r) (ho' : OpR X (compareOp op') r') (hf : OpD L ka kb .any r f) (hf' : OpD L kb kb k r' f') (ha : DE X W L ka a ta ga) (hb : DE X W L kb b tb gb) (hc : DE X W L kb c tc gc)
    (hm : lastMarks [op, op'] [b, c] = false := by with_unfolding_all rfl) : DE X W L k (.Compare a [op, op'] [b, c] pos) (tChain r r' ta tb tc) (gChain f f' ga gb gc) :=
  ⟨pe_chain ho ho' ha.pe hb.pe hc.pe hm, .chain hf hf' ha.ev hb.ev hc.ev⟩
theorem dt_chain {op op' : CmpOp} (ho : OpR X (compareOp op) r) (ho' : OpR X (compareOp op') r') (hf : OpD L ka kb .any r f) (hf' : OpD L kb kb .any r' f') (ha : DE X W L ka a ta ga) (hb : DE X W L kb b tb gb) (hc : DE X W L kb c tc gc)
    (hm : lastMarks [op, op'] [b, c] = false := by with_unfolding_all rfl) : DT X W L (.Compare a [op, op'] [b, c] pos) (tTest (tChain r r' ta tb tc)) (gB (gChain f f' ga gb gc)) :=
  ⟨pt_chain ho ho' ha.pe hb.pe hc.pe hm, (Ev.chain hf hf' ha.ev hb.ev hc.ev).test⟩

/-! ### tests -/
def truD (δ : FS) (d : D) : Option Bool := match top δ d with
  | .non => some false
  | .bl b => some b
  | .int i => some (i != 0)
  | .str s => if s.length ≤ 16777216 then some ((s.length : Int) != 0) else none
  | .lst ds => some (!ds.isEmpty)
  | .tup ds => some (!ds.isEmpty)
  | _ => none
def gTru (g : GE) : GB := fun δ => (g δ).bindB fun d δ1 => match truD δ1 d with
  | some b => .ok b δ1
  | none => .bad
theorem repAll_empty {H : Hp} {C : Nat → Option Addr} {M : Addr → Prop} {vs : List V} {ds : List D} (r : RepAll H C M vs ds) : (!vs.isEmpty) = !ds.isEmpty := by
  cases r <;> rfl
theorem tru_of {F : Fr} {δ : FS} {σ : St} {H : Hp} {v : V} {d : D} {K : PySem.W.Frag} (R : Rel F L δ σ H) (r : RepH F δ σ H v d) {b : Bool} (e : truD δ d = some b) : TruV K v H b := by
  unfold truD at e
  split at e
  · rename_i q; cases e; rw [R.non r q]; rfl
  · rename_i q; cases e; rw [R.bl r q]; rfl
  · rename_i q; cases e; rw [R.int r q]; rfl
  · rename_i q
    split at e
    · rename_i z; cases e; rw [R.str r q]; exact ⟨by rw [sizeLine_eq]; exact z, rfl⟩
    · cases e
  · rename_i q; cases e
    obtain ⟨a, us, rfl, h, ra, _⟩ := R.lst r (k := .any) trivial q
    exact .inl ⟨us, .inl h, (repAll_empty ra).symm⟩
  · rename_i q; cases e
    obtain ⟨a, us, rfl, h, ra, _⟩ := R.tup r (k := .any) trivial q
    exact .inr (.inl ⟨us, .inl h, (repAll_empty ra).symm⟩)
  · cases e
theorem dt_tru (ha : DE X W L .any a ta ga) (he : ∀ whole, isTrue a X.env whole = (do let v ← whole; standAt a.pos; holding [v] (truthy v)) := by intro _; rfl) :
    DT X W L a (fun σ H Q => ta σ H fun x H' => ∃ k, TruV X.K x H' k ∧ Q k H') (gTru ga) :=
  ⟨pt_truth ha.pe he, fun F δ σ H Q R P => ha.ev.seqB R P fun d δ1 v H1 G P1 => by
    split at P1
    · rename_i b e
      exact ⟨b, tru_of G.R G.r e, P1 H1 G.R .refl⟩
    · exact P1.elim⟩
def gAnd (a b : GB) : GB := fun δ => (a δ).bindB fun x δ1 => if x = true then b δ1 else .ok false δ1
def gOr (a b : GB) : GB := fun δ => (a δ).bindB fun x δ1 => if x = true then .ok true δ1 else b δ1
def gNot (a : GB) : GB := fun δ => (a δ).bindB fun x δ1 => .ok (!x) δ1
variable {rest : List Expr} {tA tB' : TT} {gA gB' : GB}
theorem dw_and1 (ha : DT X W L a tA gA) : DW X W L (.BoolOp .And [a] pos) tA gA := ⟨pw_and1 ha.pt, ha.ev⟩
theorem dw_or1 (ha : DT X W L a tA gA) : DW X W L (.BoolOp .Or [a] pos) tA gA := ⟨pw_or1 ha.pt, ha.ev⟩
theorem EvB.and (ha : EvB W L tA gA) (hb : EvB W L tB' gB') : EvB W L (tAnd tA tB') (gAnd gA gB') := fun F δ σ H Q R P =>
  ha.seqB R P fun b δ1 H1 R1 P1 => by
    cases b with
    | true => exact hb F δ1 σ H1 Q R1 P1
    | false => exact P1 H1 R1 .refl
theorem EvB.or (ha : EvB W L tA gA) (hb : EvB W L tB' gB') : EvB W L (tOr tA tB') (gOr gA gB') := fun F δ σ H Q R P =>
  ha.seqB R P fun b δ1 H1 R1 P1 => by
    cases b with
    | true => exact P1 H1 R1 .refl
    | false => exact hb F δ1 σ H1 Q R1 P1
theorem dw_and (ha : DT X W L a tA gA) (hb : DW X W L (.BoolOp .And (b :: rest) pos) tB' gB') : DW X W L (.BoolOp .And (a :: b :: rest) pos) (tAnd tA tB') (gAnd gA gB') := ⟨pw_and ha.pt hb.pw, ha.ev.and hb.ev⟩
theorem dw_or (ha : DT X W L a tA gA) (hb : DW X W L (.BoolOp .Or (b :: rest) pos) tB' gB') : DW X W L (.BoolOp .Or (a :: b :: rest) pos) (tOr tA tB') (gOr gA gB') := ⟨pw_or ha.pt hb.pw, ha.ev.or hb.ev⟩
theorem dt_w {e : Expr} (h : DW X W L e tA gA) : DT X W L e tA gA := ⟨h.pw.pt, h.ev⟩
theorem dt_not (ha : DT X W L a tA gA) : DT X W L (.UnaryOp .Not a pos) (tNot tA) (gNot gA) := ⟨pt_not ha.pt, fun F δ σ H Q R P => ha.ev.seqB R P fun b δ1 H1 R1 P1 => P1 H1 R1 .refl⟩
def gIte (c : GB) (a b : GE) : GE := fun δ => (c δ).bind fun x δ1 => if x = true then a δ1 else b δ1
theorem de_ite {c : Expr} (hc : DT X W L c tA gA) (ha : DE X W L k a ta ga) (hb : DE X W L k b tb gb) : DE X W L k (.IfExp c a b pos) (tIf tA ta tb) (gIte gA ga gb) :=
  ⟨pe_ifExp hc.pt ha.pe hb.pe, fun F δ σ H Q R P => hc.ev.seq R P fun d δ1 H1 R1 P1 => by
    cases d with
    | true => exact ha.ev F δ1 σ H1 Q R1 P1
    | false => exact hb.ev F δ1 σ H1 Q R1 P1⟩
/-! ### and, or, not as values -/
def gAndV (a b : GE) : GE := fun δ => (a δ).bind fun x δ1 => match top δ1 x with
  | .bl true => b δ1
  | .bl false => .ok (.bl false) δ1
  | _ => .bad
def gOrV (a b : GE) : GE := fun δ => (a δ).bind fun x δ1 => match top δ1 x with
  | .bl true => .ok (.bl true) δ1
  | .bl false => b δ1
  | _ => .bad
def gNotV (a : GE) : GE := fun δ => (a δ).bind fun x δ1 => match top δ1 x with
  | .bl b => .ok (.bl (!b)) δ1
  | _ => .bad
theorem de_one {op : BoolOp} (ha : DE X W L k a ta ga) : DE X W L k (.BoolOp op [a] pos) ta ga := ⟨pe_one ha.pe, ha.ev⟩
theorem de_and (ha : DE X W L .any a ta ga) (hb : DE X W L k (.BoolOp .And (b :: rest) pos) tb gb) : DE X W L k (.BoolOp .And (a :: b :: rest) pos) (tAndV ta tb) (gAndV ga gb) :=
  ⟨pe_and ha.pe hb.pe, fun F δ σ H Q R P => ha.ev.seq R P fun d δ1 v H1 G P1 => by
    split at P1
    · rename_i e
      exact ⟨true, G.R.bl G.r e, by rw [if_pos rfl]; exact hb.ev F δ1 σ H1 Q G.R P1⟩
    · rename_i e
      exact ⟨false, G.R.bl G.r e, by rw [if_neg Bool.false_ne_true]; exact EPost.give P1 G.R (.bl false) (KOk.mk G.R fun _ => .bl false)⟩
    · exact P1.elim⟩
theorem de_or (ha : DE X W L .any a ta ga) (hb : DE X W L k (.BoolOp .Or (b :: rest) pos) tb gb) : DE X W L k (.BoolOp .Or (a :: b :: rest) pos) (tOrV ta tb) (gOrV ga gb) :=
  ⟨pe_or ha.pe hb.pe, fun F δ σ H Q R P => ha.ev.seq R P fun d δ1 v H1 G P1 => by
    split at P1
    · rename_i e
      exact ⟨true, G.R.bl G.r e, by rw [if_pos rfl]; exact EPost.give P1 G.R (.bl true) (KOk.mk G.R fun _ => .bl true)⟩
    · rename_i e
      exact ⟨false, G.R.bl G.r e, by rw [if_neg Bool.false_ne_true]; exact hb.ev F δ1 σ H1 Q G.R P1⟩
    · exact P1.elim⟩
theorem de_not (ha : DE X W L .any a ta ga) : DE X W L k (.UnaryOp .Not a pos) (tNotV ta) (gNotV ga) :=
  ⟨pe_not ha.pe, fun F δ σ H Q R P => ha.ev.seq R P fun d δ1 v H1 G P1 => by
    split at P1
    · rename_i b e
      exact ⟨b, G.R.bl G.r e, EPost.give P1 G.R (.bl _) (KOk.mk G.R fun _ => .bl _)⟩
    · exact P1.elim⟩
end
end DL

/-! DL, part d: the operations on data; argument lists, displays, items, slices. -/
namespace DL
open PySem PySem.Spec PyProof.Rows L2
variable [KL]

section
variable {L : List Nat} {ka kb k : Kd} {X : Cx}
theorem lay_of {pins : List (Addr × Obj)} {σ : St} {H : Hp} {s : Shared} {l : Addr} {xs : List V} (I : Inv X pins σ H s) (h : Rd H l (.lst xs)) :
    xs.length ≤ sizeLine ∧ ∃ (its : List Value) (n : Nat), Vals xs its ∧ xs.length = its.length ∧ s.heap.get? l = some { cls := .type "list", data := .seq its.toArray n } := by
  obtain ⟨z, its, n, r, e⟩ := h.ok I.hok
  exact ⟨z, its, n, r, r.length, e⟩
def rCatR : R2 := fun x y H Q => ∃ l b xs zs, x = .ref l ∧ y = .ref b ∧ Rd H l (.lst xs) ∧ Rd H b (.lst zs) ∧ xs.length + zs.length ≤ sizeLine ∧ ∀ p, H p = none → Q (.ref p) (upd H p (.lst (xs ++ zs)))
theorem op_catR : OpR X (binaryOp .Add) rCatR := by
  rintro pins s σ H x y v u Q I rx ry ⟨l, b, xs, zs, rfl, rfl, h1, h2, hz, q⟩
  cases rx; cases ry
  obtain ⟨_, i1, n1, r1, e1, g1⟩ := lay_of I h1
  obtain ⟨_, i2, n2, r2, e2, g2⟩ := lay_of I h2
  have hs : i1.toArray.size + i2.toArray.size ≤ sizeLine := by simp only [List.size_toArray]; omega
  refine PySem.P.add_list g1 g2 ?_ hs
  have hc : i1.toArray ++ i2.toArray = (i1 ++ i2).toArray := by simp
  rw [hc]
  have hn : (xs ++ zs).length ≤ sizeLine := by rw [List.length_append]; exact hz
  exact ⟨.ref _, _, I.lnew (t' := s.toks) (r1.append r2) hn, rfl, q _ I.fresh⟩
def rRepR : R2 := fun x y H Q => ∃ l k xs, x = .ref l ∧ y = .int k ∧ Rd H l (.lst xs) ∧ -(2 ^ 63) ≤ k ∧ k < 2 ^ 63 ∧ xs.length * k.toNat ≤ sizeLine ∧
  ∀ p, H p = none → Q (.ref p) (upd H p (.lst (List.replicate k.toNat xs).flatten))
theorem op_repR : OpR X (binaryOp .Mult) rRepR := by
  rintro pins s σ H x y v u Q I rx ry ⟨l, k, xs, rfl, rfl, h1, b1, b2, hz, q⟩
  cases rx
  obtain ⟨t, rfl⟩ := ry
  obtain ⟨_, its, n, r, hl, e⟩ := lay_of I h1
  have c1 : its.toArray.size * k.toNat ≤ sizeLine := by rw [List.size_toArray]; rw [← hl]; exact hz
  have c2 : ¬ its.toArray.size * k.toNat > (2 ^ 63 - 1) / 8 := fun q => absurd (Nat.lt_of_lt_of_le q c1) (by decide)
  have c3 : ¬ (!Builtin.List.listFitsIndex k) = true := by rw [fitsIndex_both b1 b2]; decide
  have c4 : ¬ Builtin.List.listTooLong (its.toArray.size * k.toNat) = true := by rw [notLongL c1]; decide
  have c5 : ∀ m : Nat, List.foldl (fun x1 x2 => x1 ++ x2) #[] (List.replicate m its.toArray) = (List.replicate m its).flatten.toArray := fun m => (foldl_rep its m []).trans (by simp)
  have c6 : List.foldl (fun x1 x2 => x1 ++ x2) #[] (List.replicate (if its.toArray.isEmpty = true then 0 else k.toNat) its.toArray) = (List.replicate k.toNat its).flatten.toArray := by
    rw [c5]
    cases its <;> simp
  refine wpAny_binaryOp_repeat_ref (T := "list") (U := "int") (by decide) ⟨_, e, rfl⟩ (fun s' => typeIs_int s' k t) noFill_list_mul F.fills_int_mul F.slot_int_rmul repeat_list F.slot_int_index.lookup ?_
  refine call_meets F.slot_int_rmul (typeIs_int s k t) F.entry_int_rmul (F.args_int_rmul_2 _ _) (int___rmul___int_list k t l its.toArray n) ⟨e, rfl, ⟨_, e, rfl⟩, ?_⟩
  refine call_meets F.slot_list_mul ⟨_, e, rfl⟩ F.entry_list_mul (F.args_list_mul_2 _ _) (AutoListH.list___mul___list_int_3 l its.toArray n k t c3 c2 c4) ⟨e, ?_⟩
  rw [c6]
  have c7 : (List.replicate k.toNat xs).flatten.length ≤ sizeLine := by rw [PyProof.Rows.lm_len_rep_flat, Nat.mul_comm]; exact hz
  exact ⟨.ref _, _, I.lnew (t' := s.toks) (r.rep k.toNat) c7, rfl, q _ I.fresh⟩

/-! ### + - * // % ** -/
def addD (δ : FS) (a b : D) : RE := match top δ a with
  | .int i => (match top δ b with | .int j => .ok (.int (i + j)) δ | _ => .bad)
  | .str x => (match top δ b with | .str y => if x.length + y.length ≤ 16777216 then .ok (.str (x ++ y)) δ else .bad | _ => .bad)
  | .lst xs => (match top δ b with | .lst ys => if xs.length + ys.length ≤ 16777216 then .own (.lst (xs ++ ys)) δ else .bad | _ => .bad)
  | _ => .bad
def rAddD : R2 := fun x y H Q => rI0 (fun i j => .int (i + j)) x y H Q ∨ (∃ i j, x = .str i ∧ y = .str j ∧ i.length + j.length ≤ sizeLine ∧ Q (.str (i ++ j)) H) ∨ rCatR x y H Q
theorem op_addD : OpR X (binaryOp .Add) rAddD := op_add.or (op_add_str.or op_catR)
theorem addD_ok : OpD L k.o k.o k rAddD addD := by
  intro W F δ σ H Q x y a b R ra ka rb kb P
  unfold addD at P
  split at P
  · rename_i i e
    split at P
    · rename_i j e'
      exact .inl ⟨i, j, R.int ra e, R.int rb e', EPost.give P R (.int _) (KOk.mk R fun _ => .int _)⟩
    · exact P.elim
  · rename_i i e
    split at P
    · rename_i j e'
      split at P
      · rename_i z
        exact .inr (.inl ⟨i, j, R.str ra e, R.str rb e', by rw [sizeLine_eq]; exact z, EPost.give P R (.str _) (KOk.mk R fun _ => .str _)⟩)
      · exact P.elim
    · exact P.elim
  · rename_i xs e
    split at P
    · rename_i ys e'
      split at P
      · rename_i z
        obtain ⟨l, us, rfl, h1, r1, k1⟩ := R.lst ra ka e
        obtain ⟨m, ws, rfl, h2, r2, k2⟩ := R.lst rb kb e'
        refine .inr (.inr ⟨l, m, us, ws, rfl, rfl, h1, h2, by rw [r1.length, r2.length, sizeLine_eq]; exact z, fun p hp => EPost.new P R hp (o := .lst (us ++ ws)) (r1.append r2) (KOk.mk R fun q => .lst ((k1 q).append (k2 q)))⟩)
      · exact P.elim
    · exact P.elim
  · exact P.elim
/-- two whole numbers -/
def onII (f : FS → Int → Int → RE) (δ : FS) (a b : D) : RE := match top δ a with
  | .int i => (match top δ b with | .int j => f δ i j | _ => .bad)
  | _ => .bad
theorem onII_ok {r : R2} {f : FS → Int → Int → RE} (h : ∀ (W : WO) (F : Fr) (δ : FS) (σ : St) (H : Hp) (Q : VK) (i j : Int), Rel F L δ σ H → EPost W F L k δ σ H Q (f δ i j) → r (.int i) (.int j) H Q) : OpD L .any .any k r (onII f) := by
  intro W F δ σ H Q x y a b R ra ka rb kb P
  unfold onII at P
  split at P
  · rename_i i e
    split at P
    · rename_i j e'
      rw [R.int ra e, R.int rb e']
      exact h W F δ σ H Q i j R P
    · exact P.elim
  · exact P.elim
def subD : FS → D → D → RE := onII fun δ i j => .ok (.int (i - j)) δ
theorem subD_ok : OpD L .any .any k (rI0 fun i j => .int (i - j)) subD := onII_ok fun W F δ σ H Q i j R P => ⟨i, j, rfl, rfl, EPost.give P R (.int _) (KOk.mk R fun _ => .int _)⟩
def mulD (δ : FS) (a b : D) : RE := match top δ a with
  | .int i => (match top δ b with | .int j => if i.natAbs.log2 + j.natAbs.log2 < 1000000 then .ok (.int (i * j)) δ else .bad | _ => .bad)
  | .lst xs => (match top δ b with | .int j => if j ≤ 16777216 ∧ -16777216 ≤ j ∧ xs.length * j.toNat ≤ 16777216 then .own (.lst (List.replicate j.toNat xs).flatten) δ else .bad | _ => .bad)
  | _ => .bad
def rMulD : R2 := fun x y H Q => rI CMulW (fun i j => .int (i * j)) x y H Q ∨ rRepR x y H Q
theorem op_mulD : OpR X (binaryOp .Mult) rMulD := op_mulW.or op_repR
theorem mulD_ok : OpD L k.o .any k rMulD mulD := by
  intro W F δ σ H Q x y a b R ra ka rb kb P
  unfold mulD at P
  split at P
  · rename_i i e
    split at P
    · rename_i j e'
      split at P
      · rename_i z
        exact .inl ⟨i, j, R.int ra e, R.int rb e', z, EPost.give P R (.int _) (KOk.mk R fun _ => .int _)⟩
      · exact P.elim
    · exact P.elim
  · rename_i xs e
    split at P
    · rename_i j e'
      split at P
      · rename_i z
        obtain ⟨l, us, rfl, h1, r1, k1⟩ := R.lst ra ka e
        exact .inr ⟨l, j, us, rfl, R.int rb e', h1, by omega, by omega, by rw [r1.length, sizeLine_eq]; exact z.2.2, fun p hp => EPost.new P R hp (o := .lst (List.replicate j.toNat us).flatten) (r1.rep j.toNat) (KOk.mk R fun q => .lst ((k1 q).rep j.toNat))⟩
      · exact P.elim
    · exact P.elim
  · exact P.elim
def fdivD : FS → D → D → RE := onII fun δ i j => if 0 < j ∧ j.natAbs.log2 < 9000 then .ok (.int (i / j)) δ else .bad
theorem fdivD_ok : OpD L .any .any k (rI CDivW fun i j => .int (i / j)) fdivD := onII_ok fun W F δ σ H Q i j R P => by
  split at P
  · rename_i z
    exact ⟨i, j, rfl, rfl, z, EPost.give P R (.int _) (KOk.mk R fun _ => .int _)⟩
  · exact P.elim
def modD : FS → D → D → RE := onII fun δ i j => if 0 < j then .ok (.int (i % j)) δ else .bad
theorem modD_ok : OpD L .any .any k (rI (fun _ j => 0 < j) fun i j => .int (i % j)) modD := onII_ok fun W F δ σ H Q i j R P => by
  split at P
  · rename_i z
    exact ⟨i, j, rfl, rfl, z, EPost.give P R (.int _) (KOk.mk R fun _ => .int _)⟩
  · exact P.elim
def CPowW (i j : Int) : Prop := 0 ≤ j ∧ (i.natAbs.log2 + 1) * j.toNat ≤ 100000000
theorem op_powW : OpR X (binaryOp .Pow) (rI CPowW fun i j => .int (i ^ j.toNat)) := opI fun i j _ _ _ _ _ hc q => by
  obtain ⟨h1, h2⟩ := hc
  refine pow_int h1 ?_ q
  have b : Builtin.Int.intBits i ≤ i.natAbs.log2 + 1 := by
    unfold Builtin.Int.intBits
    split <;> omega
  have e : j = (j.toNat : Int) := by omega
  have m : Builtin.Int.intBits i * j.toNat ≤ 100000000 := Nat.le_trans (Nat.mul_le_mul_right _ b) h2
  rw [e, ← Int.natCast_mul]
  exact Int.le_trans (Int.ofNat_le.mpr m) (by decide)
def powD : FS → D → D → RE := onII fun δ i j => if 0 ≤ j ∧ (i.natAbs.log2 + 1) * j.toNat ≤ 100000000 then .ok (.int (i ^ j.toNat)) δ else .bad
theorem powD_ok : OpD L .any .any k (rI CPowW fun i j => .int (i ^ j.toNat)) powD := onII_ok fun W F δ σ H Q i j R P => by
  split at P
  · rename_i z
    exact ⟨i, j, rfl, rfl, z, EPost.give P R (.int _) (KOk.mk R fun _ => .int _)⟩
  · exact P.elim
def negD (δ : FS) (a : D) : RE := match top δ a with
  | .int i => .ok (.int (-i)) δ
  | _ => .bad
theorem negD_ok : UnD L .any k (rU fun i => .int (-i)) negD := by
  intro W F δ σ H Q x a R ra ka P
  unfold negD at P
  split at P
  · rename_i i e
    exact ⟨i, R.int ra e, EPost.give P R (.int _) (KOk.mk R fun _ => .int _)⟩
  · exact P.elim

/-! ### comparisons -/
def ltD : FS → D → D → RE := onII fun δ i j => .ok (.bl (decide (i < j))) δ
def leD : FS → D → D → RE := onII fun δ i j => .ok (.bl (decide (i ≤ j))) δ
def gtD : FS → D → D → RE := onII fun δ i j => .ok (.bl (decide (j < i))) δ
def geD : FS → D → D → RE := onII fun δ i j => .ok (.bl (decide (j ≤ i))) δ
theorem ltD_ok : OpD L .any .any k (rI0 fun i j => .bl (decide (i < j))) ltD := onII_ok fun W F δ σ H Q i j R P => ⟨i, j, rfl, rfl, EPost.give P R (.bl _) (KOk.mk R fun _ => .bl _)⟩
theorem leD_ok : OpD L .any .any k (rI0 fun i j => .bl (decide (i ≤ j))) leD := onII_ok fun W F δ σ H Q i j R P => ⟨i, j, rfl, rfl, EPost.give P R (.bl _) (KOk.mk R fun _ => .bl _)⟩
theorem gtD_ok : OpD L .any .any k (rI0 fun i j => .bl (decide (j < i))) gtD := onII_ok fun W F δ σ H Q i j R P => ⟨i, j, rfl, rfl, EPost.give P R (.bl _) (KOk.mk R fun _ => .bl _)⟩
theorem geD_ok : OpD L .any .any k (rI0 fun i j => .bl (decide (j ≤ i))) geD := onII_ok fun W F δ σ H Q i j R P => ⟨i, j, rfl, rfl, EPost.give P R (.bl _) (KOk.mk R fun _ => .bl _)⟩
mutual
/-- every cell's variable looked through -/
def res (δ : FS) : D → D
  | .var i => top δ (.var i)
  | .lst ds => .lst (resA δ ds)
  | .tup ds => .tup (resA δ ds)
  | d => d
def resA (δ : FS) : List D → List D
  | [] => []
  | d :: ds => res δ d :: resA δ ds
end
mutual
def toPy : D → Option PyData
  | .non => some .none
  | .bl b => some (.bool b)
  | .int i => some (.int i)
  | .str x => some (.str x)
  | .lst ds => (toPyA ds).map .list
  | .tup ds => (toPyA ds).map .tuple
  | _ => none
def toPyA : List D → Option (List PyData)
  | [] => some []
  | d :: ds => match toPy d, toPyA ds with
    | some p, some ps => some (p :: ps)
    | _, _ => none
end
variable {F : Fr} {δ : FS} {σ : St} {H : Hp} {K : PySem.W.Frag}
mutual
theorem Rep.dp0 {C : Nat → Option Addr} {M : Addr → Prop} : ∀ {v : V} {d : D} {p : PyData}, Rep H C M v d → toPy d = some p → Dp K H v p
  | _, _, _, .non, e => by simp only [toPy] at e; cases e; exact .non
  | _, _, _, .bl b, e => by simp only [toPy] at e; cases e; exact .bl b
  | _, _, _, .int b, e => by simp only [toPy] at e; cases e; exact .int b
  | _, _, _, .str b, e => by simp only [toPy] at e; cases e; exact .str b
  | _, .lst ds, _, .lst h n r, e => by
    simp only [toPy] at e
    cases q : toPyA ds with
    | none => rw [q] at e; cases e
    | some ps => rw [q] at e; cases e; exact .lst (.inl h) (RepAll.dp0 r q)
  | _, .tup ds, _, .tup h n r, e => by
    simp only [toPy] at e
    cases q : toPyA ds with
    | none => rw [q] at e; cases e
    | some ps => rw [q] at e; cases e; exact .tup (.inl h) (RepAll.dp0 r q)
  | _, _, _, .dic h n r, e => by simp only [toPy] at e; cases e
  | _, _, _, .var h, e => by simp only [toPy] at e; cases e
  | _, _, _, .scr h n, e => by simp only [toPy] at e; cases e
  | _, _, _, .scK h, e => by simp only [toPy] at e; cases e
  | _, _, _, .exc _ _ _ _, e => by simp only [toPy] at e; cases e
theorem RepAll.dp0 {C : Nat → Option Addr} {M : Addr → Prop} : ∀ {vs : List V} {ds : List D} {ps : List PyData}, RepAll H C M vs ds → toPyA ds = some ps → DpAll K H vs ps
  | _, _, _, .nil, e => by simp only [toPyA] at e; cases e; exact .nil
  | _, d :: ds, _, .cons a b, e => by
    simp only [toPyA] at e
    split at e
    · rename_i p ps e1 e2
      cases e
      exact .cons (Rep.dp0 a e1) (RepAll.dp0 b e2)
    · cases e
end
mutual
theorem Rep.dp (R : Rel F L δ σ H) : ∀ {v : V} {d : D} {p : PyData}, RepH F δ σ H v d → toPy (res δ d) = some p → Dp K H v p
  | _, _, _, .non, e => by simp only [res, toPy] at e; cases e; exact .non
  | _, _, _, .bl b, e => by simp only [res, toPy] at e; cases e; exact .bl b
  | _, _, _, .int b, e => by simp only [res, toPy] at e; cases e; exact .int b
  | _, _, _, .str b, e => by simp only [res, toPy] at e; cases e; exact .str b
  | _, .lst ds, _, .lst h n r, e => by
    simp only [res, toPy] at e
    cases q : toPyA (resA δ ds) with
    | none => rw [q] at e; cases e
    | some ps => rw [q] at e; cases e; exact .lst (.inl h) (RepAll.dp R r q)
  | _, .tup ds, _, .tup h n r, e => by
    simp only [res, toPy] at e
    cases q : toPyA (resA δ ds) with
    | none => rw [q] at e; cases e
    | some ps => rw [q] at e; cases e; exact .tup (.inl h) (RepAll.dp R r q)
  | _, _, _, .dic h n r, e => by simp only [res, toPy] at e; cases e
  | _, _, _, .scr h n, e => by simp only [res, toPy] at e; cases e
  | _, _, _, .scK h, e => by simp only [res, toPy] at e; cases e
  | _, _, _, .exc _ _ _ _, e => by simp only [res, toPy] at e; cases e
  | _, .var i, _, .var h, e => by
    obtain ⟨m, c, a, o, ec, ev, _, ho, ob⟩ := top_cell R (.var h)
    cases ev
    simp only [res] at e
    rw [top_var ec] at e
    cases o with
    | lst us => cases c with
      | lst ds =>
        simp only [toPy] at e
        cases q : toPyA ds with
        | none => rw [q] at e; cases e
        | some ps => rw [q] at e; cases e; exact .lst (.inl (.of ho)) (RepAll.dp0 ob q)
      | _ => exact ob.elim
    | dK us => cases c with
      | dic ds => simp only [toPy] at e; cases e
      | _ => exact ob.elim
    | _ => exact ob.elim
theorem RepAll.dp (R : Rel F L δ σ H) : ∀ {vs : List V} {ds : List D} {ps : List PyData}, RepHA F δ σ H vs ds → toPyA (resA δ ds) = some ps → DpAll K H vs ps
  | _, _, _, .nil, e => by simp only [resA, toPyA] at e; cases e; exact .nil
  | _, d :: ds, _, .cons a b, e => by
    simp only [resA, toPyA] at e
    split at e
    · rename_i p ps e1 e2
      cases e
      exact .cons (Rep.dp R a e1) (RepAll.dp R b e2)
    · cases e
end
/-- == of data; none where it is not settled -/
def eqvD (δ : FS) (a b : D) : Option Bool := match toPy (res δ a), toPy (res δ b) with
  | some p, some q => if SeqAt.shaped p && SeqAt.shaped q then some (PyData.eqv p q) else none
  | _, _ => none
def eqD (δ : FS) (a b : D) : RE := match eqvD δ a b with
  | some c => .ok (.bl c) δ
  | none => .bad
def neD (δ : FS) (a b : D) : RE := match eqvD δ a b with
  | some c => .ok (.bl (!c)) δ
  | none => .bad
theorem eqvD_some {a b : D} {c : Bool} (R : Rel F L δ σ H) {x y : V} (ra : RepH F δ σ H x a) (rb : RepH F δ σ H y b) (e : eqvD δ a b = some c) :
    ∃ p q, Dp K H x p ∧ Dp K H y q ∧ SeqAt.shaped p = true ∧ SeqAt.shaped q = true ∧ PyData.eqv p q = c := by
  unfold eqvD at e
  split at e
  · rename_i p q e1 e2
    split at e
    · rename_i z
      obtain ⟨z1, z2⟩ := Bool.and_eq_true_iff.mp z
      cases e
      exact ⟨p, q, Rep.dp R ra e1, Rep.dp R rb e2, z1, z2, rfl⟩
    · cases e
  · cases e
theorem eqD_ok : OpD L .any .any k (rEqD K) eqD := by
  intro W F δ σ H Q x y a b R ra ka rb kb P
  unfold eqD at P
  split at P
  · rename_i c e
    obtain ⟨p, q, h1, h2, h3, h4, rfl⟩ := eqvD_some (K := K) R ra rb e
    exact ⟨p, q, h1, h2, h3, h4, EPost.give P R (.bl _) (KOk.mk R fun _ => .bl _)⟩
  · exact P.elim
theorem neD_ok : OpD L .any .any k (rNeD K) neD := by
  intro W F δ σ H Q x y a b R ra ka rb kb P
  unfold neD at P
  split at P
  · rename_i c e
    obtain ⟨p, q, h1, h2, h3, h4, rfl⟩ := eqvD_some (K := K) R ra rb e
    exact ⟨p, q, h1, h2, h3, h4, EPost.give P R (.bl _) (KOk.mk R fun _ => .bl _)⟩
  · exact P.elim
/-- is, of None and of truth values -/
def isV (δ : FS) (a b : D) : Option Bool := match top δ b with
  | .non => some (match top δ a with | .non => true | _ => false)
  | .bl q => (match top δ a with | .bl p => some (decide (p = q)) | _ => none)
  | _ => none
def isD (δ : FS) (a b : D) : RE := match isV δ a b with
  | some c => .ok (.bl c) δ
  | none => .bad
def isnD (δ : FS) (a b : D) : RE := match isV δ a b with
  | some c => .ok (.bl (!c)) δ
  | none => .bad
def rIsD : R2 := fun x y H Q => (y = .non ∧ Q (.bl (decide (x = .non))) H) ∨ rIsB x y H Q
def rIsnD : R2 := fun x y H Q => (y = .non ∧ Q (.bl (!decide (x = .non))) H) ∨ rNotB x y H Q
theorem op_isD : OpR X (compareOp .Is) rIsD := op_isN.or op_isBl
theorem op_isnD : OpR X (compareOp .IsNot) rIsnD := op_notN.or op_notBl
theorem non_dec (R : Rel F L δ σ H) {x : V} {a : D} (ra : RepH F δ σ H x a) : decide (x = .non) = (match top δ a with | .non => true | _ => false) := by
  cases e : top δ a with
  | non => rw [R.non ra e]; rfl
  | _ =>
    refine decide_eq_false fun q => ?_
    subst q
    cases ra
    exact nomatch e
theorem isV_some {a b : D} {c : Bool} (R : Rel F L δ σ H) {x y : V} (ra : RepH F δ σ H x a) (rb : RepH F δ σ H y b) (e : isV δ a b = some c) :
    (y = .non ∧ decide (x = .non) = c) ∨ ∃ p q : Bool, x = .bl p ∧ y = .bl q ∧ decide (p = q) = c := by
  unfold isV at e
  split at e
  · rename_i z
    cases e
    exact .inl ⟨R.non rb z, non_dec R ra⟩
  · rename_i q z
    split at e
    · rename_i p z'
      cases e
      exact .inr ⟨p, q, R.bl ra z', R.bl rb z, rfl⟩
    · cases e
  · cases e
theorem isD_ok : OpD L .any .any k rIsD isD := by
  intro W F δ σ H Q x y a b R ra ka rb kb P
  unfold isD at P
  split at P
  · rename_i c e
    rcases isV_some R ra rb e with ⟨h, rfl⟩ | ⟨p, q, h1, h2, rfl⟩
    · exact .inl ⟨h, EPost.give P R (.bl _) (KOk.mk R fun _ => .bl _)⟩
    · exact .inr ⟨p, q, h1, h2, EPost.give P R (.bl _) (KOk.mk R fun _ => .bl _)⟩
  · exact P.elim
theorem isnD_ok : OpD L .any .any k rIsnD isnD := by
  intro W F δ σ H Q x y a b R ra ka rb kb P
  unfold isnD at P
  split at P
  · rename_i c e
    rcases isV_some R ra rb e with ⟨h, rfl⟩ | ⟨p, q, h1, h2, rfl⟩
    · exact .inl ⟨h, EPost.give P R (.bl _) (KOk.mk R fun _ => .bl _)⟩
    · exact .inr ⟨p, q, h1, h2, EPost.give P R (.bl _) (KOk.mk R fun _ => .bl _)⟩
  · exact P.elim
end
end DL

/-! DL, part e: argument lists, displays, items, slices, built-in functions. -/
namespace DL
open PySem PySem.Spec PyProof.Rows L2
variable [KL]

inductive RL where
  | ok (ds : List D) (δ : FS) | exn (x : Xn) (δ : FS) | bad
abbrev GA := FS → RL
def RE.bindL : RE → (D → FS → RL) → RL
  | .ok d δ, c => c d δ
  | .ownT xs ds ys δ, c => c (tupN xs ds ys) δ
  | .own d δ, c => c d δ
  | .exn x δ, _ => .exn x δ
  | .bad, _ => .bad
def RL.bind : RL → (List D → FS → RE) → RE
  | .ok d δ, c => c d δ
  | .exn x δ, _ => .exn x δ
  | .bad, _ => .bad
def RL.bindL : RL → (List D → FS → RL) → RL
  | .ok d δ, c => c d δ
  | .exn x δ, _ => .exn x δ
  | .bad, _ => .bad
def Kd.v : Kd → Kd
  | .any => .any
  | _ => .val
section
variable {W : WO} {F : Fr} {L : List Nat} {k ka kb : Kd} {δ δ' : FS} {σ : St} {H H' : Hp} {Q : VK}
def APost (W : WO) (F : Fr) (L : List Nat) (k : Kd) (δ : FS) (σ : St) (H : Hp) (Q : List V → Hp → Prop) : RL → Prop
  | .ok ds δ' => ∀ vs H', Rel F L δ' σ H' → Stp δ σ H δ' H' → RepHA F δ' σ H' vs ds → (∀ d ∈ ds, KOk L k δ' d) → Q vs H'
  | .exn x δ' => match W with
    | none => False
    | some W => ∀ H' cls dd, Rel F L δ' σ H' → Stp δ σ H δ' H' → XRep H' x cls dd → W cls dd σ H'
  | .bad => False
theorem APost.shift {Q : List V → Hp → Prop} (s : Stp δ σ H δ' H') : ∀ {r : RL}, APost W F L k δ σ H Q r → APost W F L k δ' σ H' Q r
  | .ok d δ2, p => fun v H2 R2 s2 => p v H2 R2 (s.trans s2)
  | .exn x δ2, p => by
    cases W with
    | none => exact p
    | some W => exact fun H2 cls dd R2 s2 xr => p H2 cls dd R2 (s.trans s2) xr
  | .bad, p => p
def EvA (W : WO) (L : List Nat) (k : Kd) (t : TA) (g : GA) : Prop := ∀ (F : Fr) (δ : FS) (σ : St) (H : Hp) (Q : List V → Hp → Prop), Rel F L δ σ H → APost W F L k δ σ H Q (g δ) → t σ H Q
structure DA (X : Cx) (W : WO) (L : List Nat) (k : Kd) (es : List Expr) (t : TA) (g : GA) : Prop where
  pa : PA X es t
  ev : EvA W L k t g
theorem EPost.bindL {r : RE} {c : D → FS → RL} {Q : List V → Hp → Prop} {Q1 : VK} (P : APost W F L k δ σ H Q (r.bindL c))
    (K : ∀ d δ' v H', Got F L ka δ σ H δ' v d H' → APost W F L k δ' σ H' Q (c d δ') → Q1 v H') : EPost W F L ka δ σ H Q1 r := by
  cases r with
  | ok d δ1 => exact fun v H1 R1 s1 r1 k1 => K d δ1 v H1 ⟨R1, s1, r1, k1⟩ (APost.shift s1 P)
  | own d δ1 => exact fun p H1 o R1 s1 hp ob k1 => K d δ1 _ _ ⟨R1.laid hp, s1.laid hp, own_rep R1 hp ob, k1⟩ (APost.shift (s1.laid hp) P)
  | exn x δ1 => exact P
  | bad => exact P
  | ownT xs ds ys δ1 => exact EPost.fgt fun v H1 R1 s1 r1 k1 => K _ δ1 v H1 ⟨R1, s1, r1, k1⟩ (APost.shift s1 P)
/-- what is known of several values -/
structure GotA (F : Fr) (L : List Nat) (k : Kd) (δ : FS) (σ : St) (H : Hp) (δ' : FS) (vs : List V) (ds : List D) (H' : Hp) : Prop where
  R : Rel F L δ' σ H'
  s : Stp δ σ H δ' H'
  r : RepHA F δ' σ H' vs ds
  k : ∀ d ∈ ds, KOk L k δ' d
theorem APost.bind {r : RL} {c : List D → FS → RE} {Q1 : List V → Hp → Prop} (P : EPost W F L k δ σ H Q (r.bind c))
    (K : ∀ ds δ' vs H', GotA F L ka δ σ H δ' vs ds H' → EPost W F L k δ' σ H' Q (c ds δ') → Q1 vs H') : APost W F L ka δ σ H Q1 r := by
  cases r with
  | ok d δ1 => exact fun v H1 R1 s1 r1 k1 => K d δ1 v H1 ⟨R1, s1, r1, k1⟩ (EPost.shift s1 P)
  | exn x δ1 => exact P
  | bad => exact P
theorem APost.bindL {r : RL} {c : List D → FS → RL} {Q Q1 : List V → Hp → Prop} (P : APost W F L k δ σ H Q (r.bindL c))
    (K : ∀ ds δ' vs H', GotA F L ka δ σ H δ' vs ds H' → APost W F L k δ' σ H' Q (c ds δ') → Q1 vs H') : APost W F L ka δ σ H Q1 r := by
  cases r with
  | ok d δ1 => exact fun v H1 R1 s1 r1 k1 => K d δ1 v H1 ⟨R1, s1, r1, k1⟩ (APost.shift s1 P)
  | exn x δ1 => exact P
  | bad => exact P
theorem APost.give {Q : List V → Hp → Prop} {ds : List D} {vs : List V} (P : APost W F L k δ σ H Q (.ok ds δ)) (R : Rel F L δ σ H) (r : RepHA F δ σ H vs ds) (K : ∀ d ∈ ds, KOk L k δ d) : Q vs H := P vs H R .refl r K
def gNil : GA := fun δ => .ok [] δ
def gCons (a : GE) (r : GA) : GA := fun δ => (a δ).bindL fun d δ1 => (r δ1).bindL fun ds δ2 => .ok (d :: ds) δ2
variable {X : Cx} {e : Expr} {es : List Expr} {te : TE} {t : TA} {g : GE} {ga : GA} {pos : Pos}
theorem da_nil : DA X W L k [] tNil gNil := ⟨pa_nil, fun F δ σ H Q R P => APost.give P R .nil fun d h => absurd h List.not_mem_nil⟩
theorem da_cons (ha : DE X W L k e te g) (hr : DA X W L k es t ga) (hs : starEach (e :: es) X.env = (false, eval e X.env) :: starEach es X.env := by rfl) : DA X W L k (e :: es) (tCons te t) (gCons g ga) :=
  ⟨pa_cons ha.pe hr.pa hs, fun F δ σ H Q R P => ha.ev F δ σ H _ R (EPost.bindL P fun d δ1 v H1 G1 P1 => hr.ev F δ1 σ H1 _ G1.R (APost.bindL P1 fun ds δ2 vs H2 G2 P2 => by
    have G := G1.shift G2.s G2.R
    refine APost.give P2 G2.R (.cons G.r G2.r) fun x hx => ?_
    rcases List.mem_cons.mp hx with rfl | hx
    · exact G.k
    · exact G2.k x hx))⟩
theorem KOk.items {ds : List D} (h : ∀ d ∈ ds, KOk L k.v δ d) : k ≠ .any → VOkA L ds := fun hk => .of fun d hd => by
  have z := h d hd
  cases k with
  | any => exact (hk rfl).elim
  | val => exact z
  | itm => exact z
def gLst (a : GA) : GE := fun δ => (a δ).bind fun ds δ1 => if ds.length ≤ 16777216 then .own (.lst ds) δ1 else .bad
def gTup (a : GA) : GE := fun δ => (a δ).bind fun ds δ1 => if ds.length ≤ 16777216 then .ok (.tup ds) δ1 else .bad
theorem de_lst (ha : DA X W L k.v es t ga) : DE X W L k (.List es pos) (tLst t) (gLst ga) :=
  ⟨pe_lst ha.pa, fun F δ σ H Q R P => ha.ev F δ σ H _ R (APost.bind P fun ds δ1 vs H1 G P1 => by
    split at P1
    · rename_i z
      exact ⟨by rw [G.r.length, sizeLine_eq]; exact z, fun p hp => EPost.new P1 G.R hp (o := .lst vs) G.r (KOk.mk G.R fun q => .lst (KOk.items G.k q))⟩
    · exact P1.elim)⟩
/-- a new tuple -/
theorem EPost.newT {d : D} {vs : List V} {ds : List D} (P : EPost W F L k δ σ H Q (.ok (.tup ds) δ)) (R : Rel F L δ σ H) {p : Addr} (hp : H p = none) (r : RepHA F δ σ H vs ds) (K : KOk L k δ (.tup ds)) : Q (.ref p) (upd H p (.tup vs)) :=
  P _ _ (R.laid hp) (Stp.refl.laid hp) (.tup (.of upd_same) (R.fresh hp) (repAll_upd hp r)) K
theorem de_tup {x1} (ha : DA X W L k.v es t ga) : DE X W L k (.Tuple es x1 pos) (tTup t) (gTup ga) :=
  ⟨pe_tup ha.pa, fun F δ σ H Q R P => ha.ev F δ σ H _ R (APost.bind P fun ds δ1 vs H1 G P1 => by
    split at P1
    · rename_i z
      exact ⟨by rw [G.r.length, sizeLine_eq]; exact z, fun p hp => EPost.newT (d := .non) P1 G.R hp G.r (KOk.mk G.R fun q => .tup (KOk.items G.k q))⟩
    · exact P1.elim)⟩

/-! ### items -/
def ixD (δ : FS) (a b : D) : RE := match top δ b with
  | .int i => (match top δ a with
    | .lst ds => (match atI ds i with | some d => .ok d δ | none => .bad)
    | .tup ds => (match atI ds i with | some d => .ok d δ | none => .bad)
    | .scr ns => (match atI ns i with | some n => .ok (.int n) δ | none => .bad)
    | .str z => if z.length ≤ 16777216 then (match atI z.cps.toList i with | some c => .ok (.str ⟨#[c]⟩) δ | none => .bad) else .bad
    | _ => .bad)
  | _ => .bad
theorem atI_rep {C : Nat → Option Addr} {M : Addr → Prop} {us : List V} {ds : List D} {i : Int} {d : D} (r : RepAll H C M us ds) (e : atI ds i = some d)   : ∃ (v : V) (j : Nat), atI us i = some v ∧ ds[j]? = some d ∧ Rep H C M v d := by
  unfold atI at e ⊢
  rw [r.length]
  cases q : ixN ds.length i with
  | none => rw [q] at e; cases e
  | some j =>
    rw [q] at e
    obtain ⟨v, hv, rv⟩ := r.get e
    exact ⟨v, j, hv, e, rv⟩
theorem atI_map {ns : List Int} {i n : Int} (e : atI ns i = some n) : atI (ns.map V.int) i = some (.int n) := by
  unfold atI at e ⊢
  rw [List.length_map]
  cases q : ixN ns.length i with
  | none => rw [q] at e; cases e
  | some j =>
    rw [q] at e
    have e : ns[j]? = some n := e
    show (ns.map V.int)[j]? = _
    rw [List.getElem?_map, e]
    rfl
theorem ixD_ok {K : PySem.W.Frag} [KLOk K] : OpD L k.o .any k (rIx K) ixD := by
  intro W F δ σ H Q x y a b R ra ka rb kb P
  unfold ixD at P
  split at P
  · rename_i i ei
    have hy := R.int rb ei
    split at P
    · rename_i ds e
      split at P
      · rename_i d ed
        obtain ⟨l, us, rfl, h1, r1, k1⟩ := R.lst ra ka e
        obtain ⟨v, j, h2, h3, r2⟩ := atI_rep r1 ed
        exact .inl ⟨l, us, i, v, rfl, hy, .inl h1, h2, EPost.give P R r2 (KOk.mk R fun q => (k1 q).get h3)⟩
      · exact P.elim
    · rename_i ds e
      split at P
      · rename_i d ed
        obtain ⟨l, us, rfl, h1, r1, k1⟩ := R.tup ra ka e
        obtain ⟨v, j, h2, h3, r2⟩ := atI_rep r1 ed
        exact .inr (.inl ⟨l, us, i, v, rfl, hy, .inl h1, h2, EPost.give P R r2 (KOk.mk R fun q => (k1 q).get h3)⟩)
      · exact P.elim
    · rename_i ns e
      split at P
      · rename_i n en
        obtain ⟨l, rfl, hs⟩ := R.scr (K := K) ra e
        exact .inl ⟨l, _, i, _, rfl, hy, hs, atI_map en, EPost.give P R (.int _) (KOk.mk R fun _ => .int _)⟩
      · exact P.elim
    · rename_i z e
      split at P
      · rename_i zl
        split at P
        · rename_i c ec
          exact .inr (.inr ⟨z, i, c, R.str ra e, hy, by rw [sizeLine_eq]; exact zl, ec, EPost.give P R (.str _) (KOk.mk R fun _ => .str _)⟩)
        · exact P.elim
      · exact P.elim
    · exact P.elim
  · exact P.elim
theorem de_ix (kl : KLOk X.K) {a b : Expr} {ta tb : TE} {ga gb : GE} (ha : DE X W L k.o a ta ga) (hb : DE X W L .any b tb gb) (hs : PlainIx b := by intro _ _; rfl) : DE X W L k (.Subscript a b pos) (tOp (rIx X.K) ta tb) (gBin ixD ga gb) :=
  ⟨pe_ix ix_seq ha.pe hb.pe hs, .bin (@ixD_ok _ _ _ X.K kl) ha.ev hb.ev⟩

/-! ### slices -/
def cutD (xs : List D) (lo hi : Option Int) : List D := (xs.drop (HT.sIx xs.length 0 lo)).take (HT.sIx xs.length xs.length hi - HT.sIx xs.length 0 lo)
theorem cut_rep {C : Nat → Option Addr} {M : Addr → Prop} {us : List V} {ds : List D} (lo hi : Option Int) (r : RepAll H C M us ds) : RepAll H C M (cutV us lo hi) (cutD ds lo hi) := by
  unfold cutV cutD
  rw [r.length]
  exact (r.drop _).take _
/-- a part of a slice -/
inductive GO where
  | no | at_ (g : GE)
def tO : GO → Option TE → Prop := fun _ _ => True
structure DO (X : Cx) (W : WO) (L : List Nat) (e : Option Expr) (t : TO) (g : FS → RL) : Prop where
  po : PO X e t
  ev : ∀ (F : Fr) (δ : FS) (σ : St) (H : Hp) (Q : Option Int → Hp → Prop), Rel F L δ σ H → (match g δ with
    | .ok [] δ' => ∀ H', Rel F L δ' σ H' → Stp δ σ H δ' H' → Q none H'
    | .ok [.int i] δ' => ∀ H', Rel F L δ' σ H' → Stp δ σ H δ' H' → Q (some i) H'
    | .exn x δ' => (match W with
      | none => False
      | some W => ∀ H' cls dd, Rel F L δ' σ H' → Stp δ σ H δ' H' → XRep H' x cls dd → W cls dd σ H')
    | _ => False) → t σ H Q
def gNoP : FS → RL := fun δ => .ok [] δ
def gPart (g : GE) : FS → RL := fun δ => (g δ).bindL fun d δ1 => match top δ1 d with
  | .int i => .ok [.int i] δ1
  | _ => .bad
theorem do_none : DO X W L none tNoPart gNoP := ⟨po_none, fun F δ σ H Q R P => P H R .refl⟩
theorem do_some (h : DE X W L .any e te g) : DO X W L (some e) (tPart te) (gPart g) := ⟨po_some h.pe, fun F δ σ H Q R P => by
  refine h.ev F δ σ H _ R ?_
  unfold gPart at P
  cases q : g δ with
  | ok d δ1 =>
    intro v H1 R1 s1 r1 k1
    rw [q] at P
    simp only [RE.bindL] at P
    split at P
    · rename_i e; split at e <;> first | cases e | (rename_i z; cases e)
    · rename_i i δ2 e
      split at e
      · rename_i j z
        cases e
        exact ⟨_, R1.int r1 z, P H1 R1 s1⟩
      · cases e
    · rename_i e; split at e <;> cases e
    · exact P.elim
  | own d δ1 =>
    intro p H1 o R1 s1 hp ob k1
    rw [q] at P
    simp only [RE.bindL] at P
    cases o <;> cases d <;> first | exact ob.elim | exact P.elim
  | ownT xs ds ys δ1 =>
    rw [q] at P
    exact P.elim
  | exn x δ1 =>
    rw [q] at P
    exact P
  | bad =>
    rw [q] at P
    exact P⟩
theorem rep_ints0 {H : Hp} {C : Nat → Option Addr} {M : Addr → Prop} : ∀ (ns : List Int), RepAll H C M (ns.map V.int) (ns.map D.int)
  | [] => .nil
  | i :: r => .cons (.int i) (rep_ints0 r)
/-- a[lo:hi] -/
def slD (δ : FS) (a : D) (lo hi : Option Int) : RE := match top δ a with
  | .lst ds => .own (.lst (cutD ds lo hi)) δ
  | .scr ns => .own (.lst (cutD (ns.map .int) lo hi)) δ
  | .str z => if z.length ≤ 16777216 then .ok (.str (cutS z lo hi)) δ else .bad
  | _ => .bad
def gO (g : FS → RL) (δ : FS) (c : Option Int → FS → RE) : RE := match g δ with
  | .ok [] δ' => c none δ'
  | .ok [.int i] δ' => c (some i) δ'
  | .exn x δ' => .exn x δ'
  | _ => .bad
def gSl (a : GE) (lo hi : FS → RL) : GE := fun δ => (a δ).bind fun d δ1 => gO lo δ1 fun l δ2 => gO hi δ2 fun u δ3 => slD δ3 d l u
theorem DO.use {eo : Option Expr} {to : TO} {go : FS → RL} (h : DO X W L eo to go) {c : Option Int → FS → RE} {Q1 : Option Int → Hp → Prop} (R : Rel F L δ σ H) (P : EPost W F L k δ σ H Q (gO go δ c))
    (K : ∀ o δ' H', Rel F L δ' σ H' → Stp δ σ H δ' H' → EPost W F L k δ' σ H' Q (c o δ') → Q1 o H') : to σ H Q1 := by
  refine h.ev F δ σ H Q1 R ?_
  unfold gO at P
  split at P
  · rename_i δ' e
    exact fun H' R' s' => K none δ' H' R' s' (EPost.shift s' P)
  · rename_i i δ' e
    exact fun H' R' s' => K (some i) δ' H' R' s' (EPost.shift s' P)
  · rename_i x δ' e
    exact P
  · exact P.elim
def rSlD (K : PySem.W.Frag) : V → Option Int → Option Int → Hp → VK → Prop := fun x lo hi H Q => rSlL K x lo hi H Q ∨ rSlS x lo hi H Q
theorem de_sl (kl : KLOk X.K) {a : Expr} {lo hi : Option Expr} {ta : TE} {tl tu : TO} {gx : GE} {gl gu : FS → RL} {p2 : Pos} (ha : DE X W L k.o a ta gx) (hl : DO X W L lo tl gl) (hu : DO X W L hi tu gu) :
    DE X W L k (.Subscript a (.Slice lo hi none p2) pos) (tSl (rSlD X.K) ta tl tu) (gSl gx gl gu) :=
  ⟨pe_slice (sl_list.or sl_str) ha.pe hl.po hu.po, fun F δ σ H Q R P => ha.ev.seq R P fun d δ1 v H1 G1 P1 => hl.use G1.R P1 fun l δ2 H2 R2 s2 P2 => hu.use R2 P2 fun u δ3 H3 R3 s3 P3 => by
    have G := (G1.shift s2 R2).shift s3 R3
    unfold slD at P3
    split at P3
    · rename_i ds e
      obtain ⟨m, us, rfl, h1, r1, k1⟩ := R3.lst G.r G.k e
      refine .inl ⟨m, us, rfl, .inl h1, fun p hp => EPost.new P3 R3 hp (o := .lst (cutV us l u)) (cut_rep l u r1) (KOk.mk R3 fun q => .lst (((k1 q).drop _).take _))⟩
    · rename_i ns e
      obtain ⟨m, rfl, hs⟩ := @Rel.scr _ _ _ _ _ _ _ _ X.K kl R3 G.r ns e
      have r1 : RepHA F δ3 σ H3 (ns.map V.int) (ns.map D.int) := rep_ints0 ns
      refine .inl ⟨m, _, rfl, hs, fun p hp => EPost.new P3 R3 hp (o := .lst (cutV _ l u)) (cut_rep l u r1) (KOk.mk R3 fun q => .lst (((VOkA.of fun d hd => by
        obtain ⟨i, _, rfl⟩ := List.mem_map.mp hd
        exact .int i).drop _).take _))⟩
    · rename_i z e
      split at P3
      · rename_i zl
        exact .inr ⟨z, R3.str G.r e, by rw [sizeLine_eq]; exact zl, EPost.give P3 R3 (.str _) (KOk.mk R3 fun _ => .str _)⟩
      · exact P3.elim
    · exact P3.elim⟩
end
end DL

/-! DL, part f: built-in functions. -/
namespace DL
open PySem PySem.Spec PyProof.Rows L2
variable [KL]

def gCall (f : FS → List D → RE) (a : GA) : GE := fun δ => (a δ).bind fun ds δ1 => f δ1 ds
def CallD (L : List Nat) (ka k : Kd) (r : List V → Hp → VK → Prop) (f : FS → List D → RE) : Prop := ∀ (W : WO) (F : Fr) (δ : FS) (σ : St) (H : Hp) (Q : VK) (vs : List V) (ds : List D), Rel F L δ σ H → RepHA F δ σ H vs ds → (∀ d ∈ ds, KOk L ka δ d) →
  EPost W F L k δ σ H Q (f δ ds) → r vs H Q
section
variable {X : Cx} {W : WO} {L : List Nat} {ka k : Kd} {x : Str} {p pos : Pos} {e : Expr} {es : List Expr} {t : TA} {ga : GA} {id T : String} {r : List V → Hp → VK → Prop} {f : FS → List D → RE}
theorem EvA.call (hf : CallD L ka k r f) (ha : EvA W L ka t ga) : Ev W L k (tCB r t) (gCall f ga) := fun F δ σ H Q R P =>
  ha F δ σ H _ R (APost.bind P fun ds δ1 vs H1 G P1 => hf W F δ1 σ H1 Q vs ds G.R G.r G.k P1)
theorem de_callB (hc : CallR X (.builtin id) r) (hf : CallD L ka k r f) (hg : Gl X x) (hm : X.mg x = none) (hv : bootBuiltins x = some (.builtin id)) (ha : DA X W L ka (e :: es) t ga) (hn : x ≠ "__name__" := by decide) (hdb : (x == ("__debug__" : Str)) = false := by decide)
    (he : starEach (e :: es) X.env = (false, eval e X.env) :: starEach es X.env := by rfl) (hpl : (backTo pos (starEach es X.env)).any (·.1) = false := by rfl) : DE X W L k (.Call (.Name x p) (e :: es) [] pos) (tCB r t) (gCall f ga) :=
  ⟨pe_callB hc hg hm hv ha.pa hn hdb he hpl, ha.ev.call hf⟩
theorem de_callTy (hc : CallR X (.type T) r) (hf : CallD L ka k r f) (hg : Gl X x) (hm : X.mg x = none) (hv : bootBuiltins x = some (.type T)) (ha : DA X W L ka (e :: es) t ga) (hn : x ≠ "__name__" := by decide) (hdb : (x == ("__debug__" : Str)) = false := by decide)
    (he : starEach (e :: es) X.env = (false, eval e X.env) :: starEach es X.env := by rfl) (hpl : (backTo pos (starEach es X.env)).any (·.1) = false := by rfl) : DE X W L k (.Call (.Name x p) (e :: es) [] pos) (tCB r t) (gCall f ga) :=
  ⟨pe_callTy hc hg hm hv ha.pa hn hdb he hpl, ha.ev.call hf⟩
end

section
variable {X : Cx} {L : List Nat} {k : Kd} {K : PySem.W.Frag}
/-- one argument -/
theorem one_ok {r : List V → Hp → VK → Prop} {f : FS → D → RE} {ka : Kd} (h : ∀ (W : WO) (F : Fr) (δ : FS) (σ : St) (H : Hp) (Q : VK) (v : V) (d : D), Rel F L δ σ H → RepH F δ σ H v d → KOk L ka δ d → EPost W F L k δ σ H Q (f δ d) → r [v] H Q) :
    CallD L ka k r (fun δ ds => match ds with | [d] => f δ d | _ => .bad) := by
  intro W F δ σ H Q vs ds R ra ka P
  match vs, ds, ra with
  | [v], [d], .cons q .nil => exact h W F δ σ H Q v d R q (ka d List.mem_cons_self) P
  | [], [], .nil => exact P.elim
  | _ :: _ :: _, _ :: _ :: _, .cons _ (.cons _ _) => exact P.elim
theorem two_ok {r : List V → Hp → VK → Prop} {f : FS → D → D → RE} {ka : Kd} (h : ∀ (W : WO) (F : Fr) (δ : FS) (σ : St) (H : Hp) (Q : VK) (v u : V) (d e : D), Rel F L δ σ H → RepH F δ σ H v d → RepH F δ σ H u e → EPost W F L k δ σ H Q (f δ d e) → r [v, u] H Q) :
    CallD L ka k r (fun δ ds => match ds with | [d, e] => f δ d e | _ => .bad) := by
  intro W F δ σ H Q vs ds R ra ka P
  match vs, ds, ra with
  | [v, u], [d, e], .cons q (.cons q2 .nil) => exact h W F δ σ H Q v u d e R q q2 P
  | [], [], .nil => exact P.elim
  | [_], [_], .cons _ .nil => exact P.elim
  | _ :: _ :: _ :: _, _ :: _ :: _ :: _, .cons _ (.cons _ (.cons _ _)) => exact P.elim

/-! ### len -/
def lenD (δ : FS) (ds : List D) : RE := match ds with
  | [d] => (match top δ d with
    | .lst xs => .ok (.int xs.length) δ
    | .tup xs => .ok (.int xs.length) δ
    | .scr xs => .ok (.int xs.length) δ
    | .str z => if z.length ≤ 16777216 then .ok (.int z.length) δ else .bad
    | _ => .bad)
  | _ => .bad
def rLenD (K : PySem.W.Frag) : List V → Hp → VK → Prop := fun xs H Q => (∃ p ys, xs = [.ref p] ∧ (SqL K H p ys ∨ SqT K H p ys) ∧ Q (.int ys.length) H) ∨ (∃ z, xs = [.str z] ∧ z.length ≤ sizeLine ∧ Q (.int z.length) H)
theorem call_lenD : CallR X (.builtin "len") (rLenD X.K) := call_len_seq.or call_len_str
theorem lenD_ok [KLOk K] : CallD L .any k (rLenD K) lenD := one_ok fun W F δ σ H Q v d R ra ka P => by
  split at P
  · rename_i xs e
    obtain ⟨a, us, rfl, h, r, _⟩ := R.lst ra (k := .any) trivial e
    exact .inl ⟨a, us, rfl, .inl (.inl h), by rw [r.length]; exact EPost.give P R (.int _) (KOk.mk R fun _ => .int _)⟩
  · rename_i xs e
    obtain ⟨a, us, rfl, h, r, _⟩ := R.tup ra (k := .any) trivial e
    exact .inl ⟨a, us, rfl, .inr (.inl h), by rw [r.length]; exact EPost.give P R (.int _) (KOk.mk R fun _ => .int _)⟩
  · rename_i xs e
    obtain ⟨a, rfl, hs⟩ := R.scr (K := K) ra e
    have P : EPost W F L k δ σ H Q (.ok (.int (xs.map V.int).length) δ) := by rw [List.length_map]; exact P
    exact .inl ⟨a, _, rfl, .inl hs, EPost.give P R (.int _) (KOk.mk R fun _ => .int _)⟩
  · rename_i z e
    split at P
    · rename_i zl
      exact .inr ⟨z, by rw [R.str ra e], by rw [sizeLine_eq]; exact zl, EPost.give P R (.int _) (KOk.mk R fun _ => .int _)⟩
    · exact P.elim
  · exact P.elim

/-! ### whole numbers -/
def absD (δ : FS) (ds : List D) : RE := match ds with
  | [d] => (match top δ d with | .int i => .ok (.int (if i < 0 then -i else i)) δ | _ => .bad)
  | _ => .bad
theorem absD_ok : CallD L .any k (fun xs H Q => ∃ i, xs = [.int i] ∧ Q (.int (if i < 0 then -i else i)) H) absD := one_ok fun W F δ σ H Q v d R ra ka P => by
  split at P
  · rename_i i e
    exact ⟨i, by rw [R.int ra e], EPost.give P R (.int _) (KOk.mk R fun _ => .int _)⟩
  · exact P.elim
def intD (δ : FS) (ds : List D) : RE := match ds with
  | [d] => (match top δ d with
    | .int i => .ok (.int i) δ
    | .bl b => .ok (.int (if b then 1 else 0)) δ
    | _ => .bad)
  | _ => .bad
theorem intD_ok : CallD L .any k (fun xs H Q => (∃ i, xs = [.int i] ∧ Q (.int i) H) ∨ ∃ k, xs = [.bl k] ∧ Q (.int (if k then 1 else 0)) H) intD := one_ok fun W F δ σ H Q v d R ra ka P => by
  split at P
  · rename_i i e
    exact .inl ⟨i, by rw [R.int ra e], EPost.give P R (.int _) (KOk.mk R fun _ => .int _)⟩
  · rename_i b e
    exact .inr ⟨b, by rw [R.bl ra e], EPost.give P R (.int _) (KOk.mk R fun _ => .int _)⟩
  · exact P.elim
def onII2 (f : FS → Int → Int → RE) (δ : FS) (ds : List D) : RE := match ds with
  | [a, b] => (match top δ a with
    | .int i => (match top δ b with | .int j => f δ i j | _ => .bad)
    | _ => .bad)
  | _ => .bad
theorem onII2_ok {r : List V → Hp → VK → Prop} {f : FS → Int → Int → RE} (h : ∀ (W : WO) (F : Fr) (δ : FS) (σ : St) (H : Hp) (Q : VK) (i j : Int), Rel F L δ σ H → EPost W F L k δ σ H Q (f δ i j) → r [.int i, .int j] H Q) : CallD L .any k r (onII2 f) := two_ok fun W F δ σ H Q v u d e R ra rb P => by
  split at P
  · rename_i i e
    split at P
    · rename_i j e'
      rw [R.int ra e, R.int rb e']
      exact h W F δ σ H Q i j R P
    · exact P.elim
  · exact P.elim
def max2D : FS → List D → RE := onII2 fun δ i j => .ok (.int (if j > i then j else i)) δ
def min2D : FS → List D → RE := onII2 fun δ i j => .ok (.int (if j < i then j else i)) δ
theorem max2D_ok : CallD L .any k (fun xs H Q => ∃ i j, xs = [.int i, .int j] ∧ Q (.int (if j > i then j else i)) H) max2D := onII2_ok fun W F δ σ H Q i j R P => ⟨i, j, rfl, EPost.give P R (.int _) (KOk.mk R fun _ => .int _)⟩
theorem min2D_ok : CallD L .any k (fun xs H Q => ∃ i j, xs = [.int i, .int j] ∧ Q (.int (if j < i then j else i)) H) min2D := onII2_ok fun W F δ σ H Q i j R P => ⟨i, j, rfl, EPost.give P R (.int _) (KOk.mk R fun _ => .int _)⟩

/-! ### lists of whole numbers, of truth values -/
def intsOf : List D → Option (List Int)
  | [] => some []
  | .int i :: ds => (intsOf ds).map (i :: ·)
  | _ => none
theorem intsOf_rep {H : Hp} {C : Nat → Option Addr} {M : Addr → Prop} : ∀ {us : List V} {ds : List D} {ns : List Int}, RepAll H C M us ds → intsOf ds = some ns → us = ns.map V.int
  | _, [], _, .nil, e => by cases e; rfl
  | _, .int i :: ds, ns, .cons r s, e => by
    simp only [intsOf] at e
    cases q : intsOf ds with
    | none => rw [q] at e; cases e
    | some ms =>
      rw [q] at e
      cases e
      cases r
      rw [intsOf_rep s q]
      rfl
theorem intsOf_map (ns : List Int) : intsOf (ns.map D.int) = some ns := by
  induction ns with
  | nil => rfl
  | cons a r ih => simp only [List.map_cons, intsOf, ih, Option.map_some]
def blsOf : List D → Option (List Bool)
  | [] => some []
  | .bl i :: ds => (blsOf ds).map (i :: ·)
  | _ => none
theorem blsOf_rep {H : Hp} {C : Nat → Option Addr} {M : Addr → Prop} : ∀ {us : List V} {ds : List D} {ns : List Bool}, RepAll H C M us ds → blsOf ds = some ns → us = ns.map V.bl
  | _, [], _, .nil, e => by cases e; rfl
  | _, .bl i :: ds, ns, .cons r s, e => by
    simp only [blsOf] at e
    cases q : blsOf ds with
    | none => rw [q] at e; cases e
    | some ms =>
      rw [q] at e
      cases e
      cases r
      rw [blsOf_rep s q]
      rfl
theorem blsOf_map (ns : List Bool) : blsOf (ns.map D.bl) = some ns := by
  induction ns with
  | nil => rfl
  | cons a r ih => simp only [List.map_cons, blsOf, ih, Option.map_some]
def onInts (f : FS → List Int → RE) (δ : FS) (ds : List D) : RE := match ds with
  | [d] => (match top δ d with
    | .lst xs => (match intsOf xs with | some ns => f δ ns | none => .bad)
    | _ => .bad)
  | _ => .bad
theorem onInts_ok {r : List V → Hp → VK → Prop} {f : FS → List Int → RE} (h : ∀ (W : WO) (F : Fr) (δ : FS) (σ : St) (H : Hp) (Q : VK) (a : Addr) (ns : List Int), Rel F L δ σ H → SqL K H a (ns.map V.int) → EPost W F L k δ σ H Q (f δ ns) → r [.ref a] H Q) : CallD L .any k r (onInts f) := one_ok fun W F δ σ H Q v d R ra ka P => by
  split at P
  · rename_i xs e
    split at P
    · rename_i ns en
      obtain ⟨a, us, rfl, h1, r1, _⟩ := R.lst ra (k := .any) trivial e
      rw [intsOf_rep r1 en] at h1
      exact h W F δ σ H Q a ns R (.inl h1) P
    · exact P.elim
  · exact P.elim
def sumD : FS → List D → RE := onInts fun δ ns => .ok (.int ns.sum) δ
theorem sumD_ok : CallD L .any k (rSum K) sumD := onInts_ok (K := K) fun W F δ σ H Q a ns R h P => ⟨a, ns, rfl, h, EPost.give P R (.int _) (KOk.mk R fun _ => .int _)⟩
def lmax : List Int → Int
  | [] => 0
  | [a] => a
  | a :: r => max a (lmax r)
def lmin : List Int → Int
  | [] => 0
  | [a] => a
  | a :: r => min a (lmin r)
theorem lmax_le : ∀ {l : List Int} {y : Int}, y ∈ l → y ≤ lmax l
  | [a], y, h => by
    have e : y = a := by simpa using h
    simp only [lmax]; omega
  | a :: b :: r, y, h => by
    simp only [lmax]
    rcases List.mem_cons.mp h with rfl | h
    · omega
    · have := lmax_le h; omega
theorem lmin_le : ∀ {l : List Int} {y : Int}, y ∈ l → lmin l ≤ y
  | [a], y, h => by
    have e : y = a := by simpa using h
    simp only [lmin]; omega
  | a :: b :: r, y, h => by
    simp only [lmin]
    rcases List.mem_cons.mp h with rfl | h
    · omega
    · have := lmin_le h; omega
theorem lmax_mem : ∀ {l : List Int}, l ≠ [] → lmax l ∈ l
  | [a], _ => by simp [lmax]
  | a :: b :: r, _ => by
    simp only [lmax]
    have ih : lmax (b :: r) ∈ b :: r := lmax_mem (by simp)
    by_cases q : lmax (b :: r) ≤ a
    · rw [show max a (lmax (b :: r)) = a by omega]; exact List.mem_cons_self
    · rw [show max a (lmax (b :: r)) = lmax (b :: r) by omega]; exact List.mem_cons_of_mem _ ih
theorem lmin_mem : ∀ {l : List Int}, l ≠ [] → lmin l ∈ l
  | [a], _ => by simp [lmin]
  | a :: b :: r, _ => by
    simp only [lmin]
    have ih : lmin (b :: r) ∈ b :: r := lmin_mem (by simp)
    by_cases q : a ≤ lmin (b :: r)
    · rw [show min a (lmin (b :: r)) = a by omega]; exact List.mem_cons_self
    · rw [show min a (lmin (b :: r)) = lmin (b :: r) by omega]; exact List.mem_cons_of_mem _ ih
def maxD : FS → List D → RE := onInts fun δ ns => if ns.isEmpty then .bad else .ok (.int (lmax ns)) δ
def minD : FS → List D → RE := onInts fun δ ns => if ns.isEmpty then .bad else .ok (.int (lmin ns)) δ
theorem maxD_ok : CallD L .any k (rMax K) maxD := onInts_ok (K := K) fun W F δ σ H Q a ns R h P => by
  split at P
  · exact P.elim
  · rename_i z
    have hne : ns ≠ [] := fun q => z (by rw [q]; rfl)
    refine ⟨a, ns, rfl, h, List.length_pos_iff.mpr hne, fun m hm hle => ?_⟩
    have e : m = lmax ns := by have h1 := hle _ (lmax_mem hne); have h2 := lmax_le hm; omega
    rw [e]
    exact EPost.give P R (.int _) (KOk.mk R fun _ => .int _)
theorem minD_ok : CallD L .any k (rMin K) minD := onInts_ok (K := K) fun W F δ σ H Q a ns R h P => by
  split at P
  · exact P.elim
  · rename_i z
    have hne : ns ≠ [] := fun q => z (by rw [q]; rfl)
    refine ⟨a, ns, rfl, h, List.length_pos_iff.mpr hne, fun m hm hle => ?_⟩
    have e : m = lmin ns := by have h1 := hle _ (lmin_mem hne); have h2 := lmin_le hm; omega
    rw [e]
    exact EPost.give P R (.int _) (KOk.mk R fun _ => .int _)
def insI (a : Int) : List Int → List Int
  | [] => [a]
  | b :: r => if a ≤ b then a :: b :: r else b :: insI a r
def isort : List Int → List Int
  | [] => []
  | a :: r => insI a (isort r)
theorem insI_perm (a : Int) : ∀ l : List Int, (insI a l).Perm (a :: l)
  | [] => .refl _
  | b :: r => by
    unfold insI
    split
    · exact .refl _
    · exact ((insI_perm a r).cons b).trans (.swap a b r)
theorem isort_perm : ∀ l : List Int, (isort l).Perm l
  | [] => .refl _
  | a :: r => (insI_perm a (isort r)).trans ((isort_perm r).cons a)
theorem insI_sorted (a : Int) : ∀ l : List Int, l.Pairwise (· ≤ ·) → (insI a l).Pairwise (· ≤ ·)
  | [], _ => List.pairwise_singleton _ _
  | b :: r, h => by
    obtain ⟨h1, h2⟩ := List.pairwise_cons.mp h
    unfold insI
    split
    · rename_i q
      refine List.pairwise_cons.mpr ⟨fun c hc => ?_, h⟩
      rcases List.mem_cons.mp hc with rfl | hc
      · exact q
      · exact Int.le_trans q (h1 c hc)
    · rename_i q
      refine List.pairwise_cons.mpr ⟨fun c hc => ?_, insI_sorted a r h2⟩
      rcases List.mem_cons.mp ((insI_perm a r).mem_iff.mp hc) with rfl | hc
      · omega
      · exact h1 c hc
theorem isort_sorted : ∀ l : List Int, (isort l).Pairwise (· ≤ ·)
  | [] => .nil
  | a :: r => insI_sorted a _ (isort_sorted r)
theorem perm_eq : ∀ {a b : List Int}, a.Perm b → a.Pairwise (· ≤ ·) → b.Pairwise (· ≤ ·) → a = b
  | [], b, p, _, _ => p.nil_eq
  | x :: a, [], p, _, _ => (p.symm.nil_eq).symm
  | x :: a, y :: b, p, h1, h2 => by
    obtain ⟨u1, u2⟩ := List.pairwise_cons.mp h1
    obtain ⟨v1, v2⟩ := List.pairwise_cons.mp h2
    have e : x = y := by
      have m1 : x ∈ y :: b := p.mem_iff.mp List.mem_cons_self
      have m2 : y ∈ x :: a := p.mem_iff.mpr List.mem_cons_self
      rcases List.mem_cons.mp m1 with q | q
      · exact q
      · rcases List.mem_cons.mp m2 with z | z
        · exact z.symm
        · have := u1 y z; have := v1 x q; omega
    subst e
    rw [perm_eq (List.Perm.cons_inv p) u2 v2]
def sortedD : FS → List D → RE := onInts fun δ ns => .own (.lst ((isort ns).map .int)) δ
theorem rep_ints {H : Hp} {C : Nat → Option Addr} {M : Addr → Prop} : ∀ (ns : List Int), RepAll H C M (ns.map V.int) (ns.map D.int)
  | [] => .nil
  | i :: r => .cons (.int i) (rep_ints r)
theorem vok_ints (ns : List Int) : VOkA L (ns.map D.int) := .of fun d hd => by
  obtain ⟨i, _, rfl⟩ := List.mem_map.mp hd
  exact .int i
theorem sortedD_ok : CallD L .any k (rSortedI K) sortedD := onInts_ok (K := K) fun W F δ σ H Q a ns R h P => by
  refine ⟨a, ns, rfl, h, fun ns' p hp hs hn => ?_⟩
  have e : ns' = isort ns := perm_eq (hp.trans (isort_perm ns).symm) hs (isort_sorted ns)
  subst e
  exact EPost.new P R hn (o := .lst ((isort ns).map V.int)) (rep_ints _) (KOk.mk R fun _ => .lst (vok_ints _))
def onBls (f : FS → List Bool → RE) (δ : FS) (ds : List D) : RE := match ds with
  | [d] => (match top δ d with
    | .lst xs => (match blsOf xs with | some ns => f δ ns | none => .bad)
    | _ => .bad)
  | _ => .bad
theorem onBls_ok {r : List V → Hp → VK → Prop} {f : FS → List Bool → RE} (h : ∀ (W : WO) (F : Fr) (δ : FS) (σ : St) (H : Hp) (Q : VK) (a : Addr) (ns : List Bool), Rel F L δ σ H → SqL K H a (ns.map V.bl) → EPost W F L k δ σ H Q (f δ ns) → r [.ref a] H Q) : CallD L .any k r (onBls f) := one_ok fun W F δ σ H Q v d R ra ka P => by
  split at P
  · rename_i xs e
    split at P
    · rename_i ns en
      obtain ⟨a, us, rfl, h1, r1, _⟩ := R.lst ra (k := .any) trivial e
      rw [blsOf_rep r1 en] at h1
      exact h W F δ σ H Q a ns R (.inl h1) P
    · exact P.elim
  · exact P.elim
def allD : FS → List D → RE := onBls fun δ ns => .ok (.bl (ns.all id)) δ
def anyD : FS → List D → RE := onBls fun δ ns => .ok (.bl (ns.any id)) δ
theorem allD_ok : CallD L .any k (rAll K) allD := onBls_ok (K := K) fun W F δ σ H Q a ns R h P => ⟨a, ns, rfl, h, EPost.give P R (.bl _) (KOk.mk R fun _ => .bl _)⟩
theorem anyD_ok : CallD L .any k (rAny K) anyD := onBls_ok (K := K) fun W F δ σ H Q a ns R h P => ⟨a, ns, rfl, h, EPost.give P R (.bl _) (KOk.mk R fun _ => .bl _)⟩

/-! ### list(x), tuple(x) -/
def listD (δ : FS) (ds : List D) : RE := match ds with
  | [d] => (match top δ d with
    | .lst xs => .own (.lst xs) δ
    | .tup xs => .own (.lst xs) δ
    | _ => .bad)
  | _ => .bad
theorem listD_ok : CallD L k.o k (fun xs H Q => ∃ p ys, xs = [.ref p] ∧ (SqL K H p ys ∨ SqT K H p ys) ∧ ∀ l, H l = none → Q (.ref l) (upd H l (.lst ys))) listD := one_ok fun W F δ σ H Q v d R ra ka P => by
  split at P
  · rename_i xs e
    obtain ⟨a, us, rfl, h1, r1, k1⟩ := R.lst ra ka e
    exact ⟨a, us, rfl, .inl (.inl h1), fun l hl => EPost.new P R hl (o := .lst us) r1 (KOk.mk R fun q => .lst (k1 q))⟩
  · rename_i xs e
    obtain ⟨a, us, rfl, h1, r1, k1⟩ := R.tup ra ka e
    exact ⟨a, us, rfl, .inr (.inl h1), fun l hl => EPost.new P R hl (o := .lst us) r1 (KOk.mk R fun q => .lst (k1 q))⟩
  · exact P.elim
def tupleD (δ : FS) (ds : List D) : RE := match ds with
  | [d] => (match top δ d with
    | .lst xs => .ok (.tup xs) δ
    | .tup xs => .ok (.tup xs) δ
    | _ => .bad)
  | _ => .bad
theorem tupleD_ok : CallD L k.o k (fun xs H Q => ∃ p ys, xs = [.ref p] ∧ ((SqL K H p ys ∧ ∀ l, H l = none → Q (.ref l) (upd H l (.tup ys))) ∨ (SqT K H p ys ∧ Q (.ref p) H))) tupleD := one_ok fun W F δ σ H Q v d R ra ka P => by
  split at P
  · rename_i xs e
    obtain ⟨a, us, rfl, h1, r1, k1⟩ := R.lst ra ka e
    exact ⟨a, us, rfl, .inl ⟨.inl h1, fun l hl => EPost.newT (d := .non) P R hl r1 (KOk.mk R fun q => .tup (k1 q))⟩⟩
  · rename_i xs e
    obtain ⟨a, us, rfl, h1, r1, k1⟩ := R.tup ra ka e
    refine ⟨a, us, rfl, .inr ⟨.inl h1, EPost.give P R ?_ (KOk.mk R fun q => .tup (k1 q))⟩⟩
    cases d with
    | tup ys =>
      cases e
      exact ra
    | var i =>
      obtain ⟨m, c, a', o, ec, ev, _, ho, ob⟩ := top_cell R ra
      rw [top_var ec] at e
      subst e
      cases o <;> exact ob.elim
    | _ => cases e
  · exact P.elim

/-! ### repr -/
def showD (δ : FS) (d : D) : Option Str := match toPy (res δ d) with
  | some p => if p.showable && !p.hasDict && decide (p.depth ≤ 64) && decide (p.shown.length ≤ 16777216) then some p.shown else none
  | none => none
def reprD (δ : FS) (ds : List D) : RE := match ds with
  | [d] => (match showD δ d with | some z => .ok (.str z) δ | none => .bad)
  | _ => .bad
def rReprD (K : PySem.W.Frag) : List V → Hp → VK → Prop := fun xs H Q => ∃ x p, xs = [x] ∧ Dp K H x p ∧ p.showable = true ∧ p.hasDict = false ∧ p.depth ≤ 64 ∧ p.shown.length ≤ 16777216 ∧ Q (.str p.shown) H
theorem call_reprD (hg : X.A.guards = some []) (hu : X.A.units + 128 < cLine) : CallR X (.builtin "repr") (rReprD X.K) := by
  intro pins s σ H xs us Q I r h
  obtain ⟨x, p, rfl, hd, h1, h2, h3, h4, q⟩ := h
  obtain ⟨u, rfl, ru⟩ := vals1 r
  have hs : p.shown.length ≤ sizeLine := by rw [sizeLine_eq]; exact h4
  cases hd with
  | non =>
    cases ru
    simp only [PyData.shown] at q
    exact PySem.P.repr_of_none ⟨V.str _, H, I.tok _, ⟨_, rfl⟩, q⟩
  | bl b =>
    cases ru
    simp only [PyData.shown] at q
    exact PySem.P.repr_of_bool ⟨V.str _, H, I.tok _, ⟨_, rfl⟩, q⟩
  | int i =>
    obtain ⟨t, rfl⟩ := ru
    simp only [PyData.shown] at q
    simp only [PyData.showable, decide_eq_true_eq] at h1
    exact PySem.P.repr_of_int h1 ⟨V.str _, H, I.tok _, ⟨_, rfl⟩, q⟩
  | str z =>
    obtain ⟨t, rfl⟩ := ru
    simp only [PyData.shown] at q hs
    exact PySem.P.repr_of_str ⟨V.str _, H, I.tok _, ⟨_, rfl⟩, q⟩ hs
  | lst hq ha =>
    obtain ⟨as, rd⟩ := Dp.reads I _ _ _ (.lst hq ha) ru
    cases ru
    exact repr_of_reads' rd h1 (PyData.noDict_hsm h2) hg (by omega) (fun b o e => e) (fun h' w tk hk => ⟨V.str _, H, I.kept hk, ⟨_, rfl⟩, q⟩) hs
  | tup hq ha =>
    obtain ⟨as, rd⟩ := Dp.reads I _ _ _ (.tup hq ha) ru
    cases ru
    exact repr_of_reads' rd h1 (PyData.noDict_hsm h2) hg (by omega) (fun b o e => e) (fun h' w tk hk => ⟨V.str _, H, I.kept hk, ⟨_, rfl⟩, q⟩) hs
theorem reprD_ok : CallD L .any k (rReprD K) reprD := one_ok fun W F δ σ H Q v d R ra ka P => by
  split at P
  · rename_i z e
    unfold showD at e
    split at e
    · rename_i p ep
      split at e
      · rename_i c
        cases e
        simp only [Bool.and_eq_true, decide_eq_true_eq, Bool.not_eq_true'] at c
        exact ⟨v, p, rfl, Rep.dp R ra ep, c.1.1.1, c.1.1.2, c.1.2, c.2, EPost.give P R (.str _) (KOk.mk R fun _ => .str _)⟩
      · cases e
    · cases e
  · exact P.elim
end
end DL

/-! DL, part g: statements. -/
namespace DL
open PySem PySem.Spec PyProof.Rows L2
variable [KL]

inductive O where
  | nx (δ : FS) | ret (d : D) (δ : FS) | retO (d : D) (δ : FS) | bk (δ : FS) | ct (δ : FS) | exn (x : Xn) (δ : FS) | bad
  | retT (xs ds ys : List D) (δ : FS)
abbrev GS := FS → O

mutual
theorem Rep.monoL {L : List Nat} {H H' : Hp} {C C' : Nat → Option Addr} {M M' : Addr → Prop} (hH : ∀ a o, H a = some o → ¬ M a → H' a = some o) (hC : ∀ i ∈ L, ∀ a, C i = some a → C' i = some a) (hM : ∀ a, H a ≠ none → ¬ M a → ¬ M' a) : ∀ {v : V} {d : D}, VOk L d → Rep H C M v d → Rep H' C' M' v d
  | _, _, _, .non => .non
  | _, _, _, .bl b => .bl b
  | _, _, _, .int i => .int i
  | _, _, _, .str x => .str x
  | _, _, .lst k, .lst h n r => .lst (Rd.keep h fun o e => hH _ o e n) (hM _ (Rd.there h) n) (RepAll.monoL hH hC hM k r)
  | _, _, .tup k, .tup h n r => .tup (Rd.keep h fun o e => hH _ o e n) (hM _ (Rd.there h) n) (RepAll.monoL hH hC hM k r)
  | _, _, .dic k, .dic h n r => .dic (hH _ _ h n) (hM _ (by rw [h]; exact fun q => nomatch q) n) (RepKV.monoL hH hC hM k r)
  | _, _, .var k, .var h => .var (hC _ k _ h)
  | _, _, _, .scr h n => .scr (Rd.keep h fun o e => hH _ o e n) (hM _ (Rd.there h) n)
  | _, _, _, .scK h => .scK h
  | _, _, _, .exc q h x n => .exc q (hH _ _ h n) x (hM _ (by rw [h]; exact fun q => nomatch q) n)
theorem RepAll.monoL {L : List Nat} {H H' : Hp} {C C' : Nat → Option Addr} {M M' : Addr → Prop} (hH : ∀ a o, H a = some o → ¬ M a → H' a = some o) (hC : ∀ i ∈ L, ∀ a, C i = some a → C' i = some a) (hM : ∀ a, H a ≠ none → ¬ M a → ¬ M' a) : ∀ {v : List V} {d : List D}, VOkA L d → RepAll H C M v d → RepAll H' C' M' v d
  | _, _, _, .nil => .nil
  | _, _, .cons k j, .cons r s => .cons (Rep.monoL hH hC hM k r) (RepAll.monoL hH hC hM j s)
theorem RepKV.monoL {L : List Nat} {H H' : Hp} {C C' : Nat → Option Addr} {M M' : Addr → Prop} (hH : ∀ a o, H a = some o → ¬ M a → H' a = some o) (hC : ∀ i ∈ L, ∀ a, C i = some a → C' i = some a) (hM : ∀ a, H a ≠ none → ¬ M a → ¬ M' a) : ∀ {v : List (Key × V)} {d : List (Key × D)}, VOkA L (d.map (·.2)) → RepKV H C M v d → RepKV H' C' M' v d
  | _, [], _, .nil => .nil
  | _, (_, _) :: _, kk, .cons r s => .cons (Rep.monoL hH hC hM (match kk with | .cons k _ => k) r) (RepKV.monoL hH hC hM (match kk with | .cons _ j => j) s)
end
theorem ObjD.monoL {L : List Nat} {H H' : Hp} {C C' : Nat → Option Addr} {M M' : Addr → Prop} (hH : ∀ a o, H a = some o → ¬ M a → H' a = some o) (hC : ∀ i ∈ L, ∀ a, C i = some a → C' i = some a) (hM : ∀ a, H a ≠ none → ¬ M a → ¬ M' a) {o : HO} {d : D} (k : VOk L d) (h : ObjD H C M o d) : ObjD H' C' M' o d := by
  cases o <;> cases d <;> cases k <;> first
    | (rename_i kk; exact RepAll.monoL hH hC hM kk h)
    | (rename_i kk; exact RepKV.monoL hH hC hM kk h)
    | exact h.elim

/-- from one state to a later one of the frame -/
structure SStp (L : List Nat) (δ : FS) (σ : St) (H : Hp) (δ' : FS) (σ' : St) (H' : Hp) : Prop where
  mu : ∀ a, MuA δ' σ' a → MuA δ σ a ∨ H a = none
  hp : ∀ b o, H b = some o → ¬ MuA δ σ b → H' b = some o
  ca : ∀ j ∈ L, ∀ a, cA δ σ j = some a → cA δ' σ' j = some a
  th : ∀ b, H b ≠ none → H' b ≠ none
section
variable {W : WO} {F : Fr} {L : List Nat} {k : Kd} {δ δ' δ1 δ2 : FS} {σ σ' σ1 σ2 : St} {H H' H1 H2 : Hp}
theorem SStp.refl : SStp L δ σ H δ σ H := ⟨fun _ h => .inl h, fun _ _ h _ => h, fun _ _ _ h => h, fun _ h => h⟩
theorem Stp.s (s : Stp δ σ H δ' H') : SStp L δ σ H δ' σ H' := ⟨fun a h => .inl (s.mu a h), s.hp, fun _ _ _ h => s.cA h, s.th⟩
theorem SStp.trans (a : SStp L δ σ H δ1 σ1 H1) (b : SStp L δ1 σ1 H1 δ2 σ2 H2) : SStp L δ σ H δ2 σ2 H2 := by
  refine ⟨fun x h => ?_, fun x o h n => b.hp x o (a.hp x o h n) fun q => ?_, fun j hj x h => b.ca j hj x (a.ca j hj x h), fun x h => b.th x (a.th x h)⟩
  · rcases b.mu x h with h | h
    · exact a.mu x h
    · refine .inr ?_
      cases e : H x with
      | none => rfl
      | some o => exact absurd h (a.th x (by rw [e]; exact fun q => nomatch q))
  · rcases a.mu x q with q | q
    · exact n q
    · rw [h] at q; cases q
theorem SStp.rep (s : SStp L δ σ H δ' σ' H') {v : V} {d : D} (k : VOk L d) (r : RepH F δ σ H v d) : RepH F δ' σ' H' v d :=
  r.monoL (fun a o e n => s.hp a o e fun q => n (.inr q)) s.ca (fun a h n q => q.elim (fun z => n (.inl z)) fun z => (s.mu a z).elim (fun z => n (.inr z)) h) k
theorem SStp.repA (s : SStp L δ σ H δ' σ' H') {v : List V} {d : List D} (k : VOkA L d) (r : RepHA F δ σ H v d) : RepHA F δ' σ' H' v d :=
  r.monoL (fun a o e n => s.hp a o e fun q => n (.inr q)) s.ca (fun a h n q => q.elim (fun z => n (.inl z)) fun z => (s.mu a z).elim (fun z => n (.inr z)) h) k
theorem SStp.laid (s : SStp L δ σ H δ' σ' H') {p : Addr} {o : HO} (hp : H' p = none) : SStp L δ σ H δ' σ' (upd H' p o) := by
  refine ⟨s.mu, fun b u e n => ?_, s.ca, fun b h => ?_⟩
  · rw [upd_ne (ne_of_none (s.hp b u e n) hp)]
    exact s.hp b u e n
  · by_cases q : b = p
    · rw [q, upd_same]; exact fun z => nomatch z
    · rw [upd_ne q]; exact s.th b h

def SPost (W : WO) (F : Fr) (L : List Nat) (δ : FS) (σ : St) (H : Hp) (D : Ends) : O → Prop
  | .nx δ' => ∀ σ' H', Rel F L δ' σ' H' → SStp L δ σ H δ' σ' H' → D.nx σ' H'
  | .bk δ' => ∀ σ' H', Rel F L δ' σ' H' → SStp L δ σ H δ' σ' H' → D.bk σ' H'
  | .ct δ' => ∀ σ' H', Rel F L δ' σ' H' → SStp L δ σ H δ' σ' H' → D.ct σ' H'
  | .ret d δ' => ∀ v σ' H', Rel F L δ' σ' H' → RepH F δ' σ' H' v d → VOk L d → D.rt v H'
  | .retO d δ' => ∀ p o σ' H', Rel F L δ' σ' H' → H' p = none → ObjD H' (cA δ' σ') (MA F δ' σ') o d → VOk L d → D.rt (.ref p) (upd H' p o)
  | .exn x δ' => match W with
    | none => False
    | some W => ∀ σ' H' cls dd, Rel F L δ' σ' H' → SStp L δ σ H δ' σ' H' → XRep H' x cls dd → W cls dd σ' H'
  | .bad => False
  | .retT xs ds ys δ' => ∀ p q σ' H' us vs zs, Rel F L δ' σ' H' → H' p = none → H' q = none → p ≠ q → RepHA F δ' σ' H' vs xs → RepHA F δ' σ' H' us ds → RepHA F δ' σ' H' zs ys → VOkA L xs ∧ VOkA L ds ∧ VOkA L ys → D.rt (.ref p) (upd (upd H' q (.lst us)) p (.tup (vs ++ .ref q :: zs)))
theorem SPost.shift {D : Ends} (s : SStp L δ σ H δ' σ' H') : ∀ {r : O}, SPost W F L δ σ H D r → SPost W F L δ' σ' H' D r
  | .nx _, p => fun σ2 H2 R2 s2 => p σ2 H2 R2 (s.trans s2)
  | .bk _, p => fun σ2 H2 R2 s2 => p σ2 H2 R2 (s.trans s2)
  | .ct _, p => fun σ2 H2 R2 s2 => p σ2 H2 R2 (s.trans s2)
  | .ret _ _, p => p
  | .retO _ _, p => p
  | .retT _ _ _ _, p => p
  | .exn x _, p => by
    cases W with
    | none => exact p
    | some W => exact fun σ2 H2 cls dd R2 s2 xr => p σ2 H2 cls dd R2 (s.trans s2) xr
  | .bad, p => p
def EvS (W : WO) (L : List Nat) (t : TS) (g : GS) : Prop := ∀ (F : Fr) (δ : FS) (σ : St) (H : Hp) (D : Ends), Rel F L δ σ H → SPost W F L δ σ H D (g δ) → t D σ H
structure DS (X : Cx) (W : WO) (L : List Nat) (st : Stmt) (t : TS) (g : GS) : Prop where
  ps : PS X st t
  ev : EvS W L t g
structure DSs (X : Cx) (W : WO) (L : List Nat) (st : List Stmt) (t : TS) (g : GS) : Prop where
  ps : PSs X st t
  ev : EvS W L t g
def RE.bindS : RE → (D → FS → O) → O
  | .ok d δ, c => c d δ
  | .ownT xs ds ys δ, c => c (tupN xs ds ys) δ
  | .own d δ, c => c d δ
  | .exn x δ, _ => .exn x δ
  | .bad, _ => .bad
def RB.bindS : RB → (Bool → FS → O) → O
  | .ok d δ, c => c d δ
  | .exn x δ, _ => .exn x δ
  | .bad, _ => .bad
theorem EPost.bindS {r : RE} {c : D → FS → O} {D : Ends} {Q1 : VK} (P : SPost W F L δ σ H D (r.bindS c))
    (K : ∀ d δ' v H', Got F L k δ σ H δ' v d H' → SPost W F L δ' σ H' D (c d δ') → Q1 v H') : EPost W F L k δ σ H Q1 r := by
  cases r with
  | ok d δ1 => exact fun v H1 R1 s1 r1 k1 => K d δ1 v H1 ⟨R1, s1, r1, k1⟩ (SPost.shift s1.s P)
  | own d δ1 => exact fun p H1 o R1 s1 hp ob k1 => K d δ1 _ _ ⟨R1.laid hp, s1.laid hp, own_rep R1 hp ob, k1⟩ (SPost.shift (s1.laid hp).s P)
  | exn x δ1 =>
    cases W with
    | none => exact P
    | some W => exact fun H1 cls dd R1 s1 xr => P σ H1 cls dd R1 s1.s xr
  | bad => exact P
  | ownT xs ds ys δ1 => exact EPost.fgt fun v H1 R1 s1 r1 k1 => K _ δ1 v H1 ⟨R1, s1, r1, k1⟩ (SPost.shift s1.s P)
theorem BPost.bindS {r : RB} {c : Bool → FS → O} {D : Ends} {Q1 : Bool → Hp → Prop} (P : SPost W F L δ σ H D (r.bindS c))
    (K : ∀ d δ' H', Rel F L δ' σ H' → Stp δ σ H δ' H' → SPost W F L δ' σ H' D (c d δ') → Q1 d H') : BPost W F L δ σ H Q1 r := by
  cases r with
  | ok d δ1 => exact fun H1 R1 s1 => K d δ1 H1 R1 s1 (SPost.shift s1.s P)
  | exn x δ1 =>
    cases W with
    | none => exact P
    | some W => exact fun H1 cls dd R1 s1 xr => P σ H1 cls dd R1 s1.s xr
  | bad => exact P

variable {X : Cx} {st : Stmt} {rest : List Stmt} {t u : TS} {e : Expr} {te : TE} {pos : Pos} {g a b : GS} {ge : GE}
/-! ### blocks, if, return -/
def gNx : GS := fun δ => .nx δ
def gSeq (a b : GS) : GS := fun δ => match a δ with
  | .nx δ' => b δ'
  | o => o
theorem dss_nil : DSs X W L [] tNext gNx := ⟨pss_nil, fun F δ σ H D R P => P σ H R .refl⟩
theorem EvS.seq (ha : EvS W L t a) (hb : EvS W L u b) : EvS W L (tSeq t u) (gSeq a b) := fun F δ σ H D R P => by
  refine ha F δ σ H { D with nx := u D } R ?_
  unfold gSeq at P
  cases e : a δ with
  | nx δ1 =>
    rw [e] at P
    exact fun σ1 H1 R1 s1 => hb F δ1 σ1 H1 D R1 (SPost.shift s1 P)
  | _ => rw [e] at P; exact P
theorem dss_cons (h1 : DS X W L st t a) (h2 : DSs X W L rest u b) : DSs X W L (st :: rest) (tSeq t u) (gSeq a b) := ⟨pss_cons h1.ps h2.ps, h1.ev.seq h2.ev⟩
theorem dss_one (h1 : DS X W L st t a) : DSs X W L [st] t a := ⟨pss_one h1.ps, h1.ev⟩
def gBk : GS := fun δ => .bk δ
def gCt : GS := fun δ => .ct δ
theorem ds_pass : DS X W L (.Pass pos) tNext gNx := ⟨ps_pass, fun F δ σ H D R P => P σ H R .refl⟩
theorem ds_break : DS X W L (.Break pos) tBreak gBk := ⟨ps_break, fun F δ σ H D R P => P σ H R .refl⟩
theorem ds_continue : DS X W L (.Continue pos) tCont gCt := ⟨ps_continue, fun F δ σ H D R P => P σ H R .refl⟩
/-- what is never come to -/
def gNever : GS := fun _ => .bad
theorem ds_never : DS X W L st tNever gNever := ⟨ps_never, fun F δ σ H D R P => P⟩
def gDrop (g : GE) : GS := fun δ => (g δ).bindS fun _ δ1 => .nx δ1
theorem ds_expr (he : DE X W L .any e te ge) (hs : swapsWith e none pos.line X.env = pure false := by rfl) : DS X W L (.Expr e pos) (tDrop te) (gDrop ge) :=
  ⟨ps_expr he.pe hs, fun F δ σ H D R P => he.ev F δ σ H _ R (EPost.bindS P fun d δ1 v H1 G P1 => P1 σ H1 G.R .refl)⟩
def gRet (g : GE) : GS := fun δ => match g δ with
  | .ok d δ1 => .ret d δ1
  | .own d δ1 => .retO d δ1
  | .exn x δ1 => .exn x δ1
  | .bad => .bad
  | .ownT xs ds ys δ1 => .retT xs ds ys δ1
theorem ds_ret (he : DE X W L .val e te ge) : DS X W L (.Return (some e) pos) (tRet te) (gRet ge) :=
  ⟨ps_ret he.pe, fun F δ σ H D R P => he.ev F δ σ H _ R (by
    unfold gRet at P
    cases q : ge δ with
    | ok d δ1 => rw [q] at P; exact fun v H1 R1 s1 r1 k1 => P v σ H1 R1 r1 k1
    | own d δ1 => rw [q] at P; exact fun p H1 o R1 s1 hp ob k1 => P p o σ H1 R1 hp ob k1
    | exn x δ1 =>
      rw [q] at P
      cases W with
      | none => exact P
      | some W => exact fun H1 cls dd R1 s1 xr => P σ H1 cls dd R1 s1.s xr
    | bad => rw [q] at P; exact P
    | ownT xs ds ys δ1 => rw [q] at P; exact fun p q H1 us vs zs R1 s1 hp hq hn r1 r2 r3 k1 => P p q σ H1 us vs zs R1 hp hq hn r1 r2 r3 (k1 fun z => nomatch z))⟩
/-- return x, x a cell of the frame: its list is handed over -/
def gRetC (i : Nat) : GS := fun δ => match δ[i]? with
  | some (some (.cl .mu d)) => .retO d (δ.set i none)
  | some (some (.cl .ro d)) => .ret d δ
  | some (some (.fz d)) => .ret d δ
  | _ => .bad
def gRetN : GS := fun δ => .ret .non δ
theorem ds_retN : DS X W L (.Return none pos) tRetN gRetN := ⟨ps_retN, fun F δ σ H D R P => P .non σ H R .non .non⟩
variable {c : Expr} {sa sb : List Stmt} {tc : TT} {gc : GB}
def gIf (c : GB) (a b : GS) : GS := fun δ => (c δ).bindS fun x δ1 => if x = true then a δ1 else b δ1
theorem ds_if (hc : DT X W L c tc gc) (ha : DSs X W L sa t a) (hb : DSs X W L sb u b) : DS X W L (.If c sa sb pos) (tIfS tc t u) (gIf gc a b) :=
  ⟨ps_if hc.pt ha.ps hb.ps, fun F δ σ H D R P => hc.ev F δ σ H _ R (BPost.bindS P fun x δ1 H1 R1 s1 P1 => by
    cases x with
    | true => exact ha.ev F δ1 σ H1 D R1 P1
    | false => exact hb.ev F δ1 σ H1 D R1 P1)⟩
end

/-! ### slots -/
section
variable {W : WO} {F : Fr} {L : List Nat} {δ δ' : FS} {σ σ' : St} {H H' : Hp}
def notCell (δ : FS) (i : Nat) : Bool := match δ[i]? with
  | some (some (.cl _ _)) => false
  | some _ => true
  | none => false
theorem notCell_lt {i : Nat} (h : notCell δ i = true) : i < δ.length := by
  unfold notCell at h
  cases e : δ[i]? with
  | none => rw [e] at h; cases h
  | some s => exact (List.getElem?_eq_some_iff.mp e).1
theorem notCell_no {i : Nat} (h : notCell δ i = true) (m : Md) (d : D) : ¬ IsC δ i m d := fun e => by
  unfold notCell at h
  rw [e] at h
  cases h
/-- a slot that is no cell is set to a value: the cells are as they were -/
theorem cell_setF {i : Nat} {s : Option SV} (hn : notCell δ i = true) (hs : ∀ m d, s ≠ some (.cl m d)) {j : Nat} {m : Md} {d : D} : IsC (δ.set i s) j m d ↔ IsC δ j m d := by
  by_cases q : j = i
  · subst q
    constructor
    · intro h
      have h : (δ.set j s)[j]? = some (some (SV.cl m d)) := h
      rw [List.getElem?_set_self (notCell_lt hn)] at h
      exact absurd (Option.some.inj h) (hs m d)
    · intro h
      exact absurd h (notCell_no hn m d)
  · show (δ.set i s)[j]? = _ ↔ _
    rw [List.getElem?_set_ne (Ne.symm q)]
theorem cell_at {i : Nat} {v : Option V} (hn : notCell δ i = true) {j : Nat} {m : Md} {d : D} (h : IsC δ j m d) {x : V} : At (σ.set i v) j x ↔ At σ j x := by
  have q : j ≠ i := fun q => notCell_no hn m d (q ▸ h)
  show (σ.set i v)[j]? = _ ↔ _
  rw [List.getElem?_set_ne (Ne.symm q)]
theorem cA_setF {i : Nat} {s : Option SV} {v : Option V} (hn : notCell δ i = true) (hs : ∀ m d, s ≠ some (.cl m d)) : cA (δ.set i s) (σ.set i v) = cA δ σ := by
  funext j
  have key : ∀ a, cA (δ.set i s) (σ.set i v) j = some a ↔ cA δ σ j = some a := fun a => by
    rw [cA_some, cA_some]
    constructor
    · rintro ⟨⟨m, d, h⟩, e⟩
      have h := (cell_setF hn hs).mp h
      exact ⟨⟨m, d, h⟩, (cell_at hn h).mp e⟩
    · rintro ⟨⟨m, d, h⟩, e⟩
      exact ⟨⟨m, d, (cell_setF hn hs).mpr h⟩, (cell_at hn h).mpr e⟩
  cases e : cA δ σ j with
  | some a => exact (key a).mpr e
  | none =>
    cases e' : cA (δ.set i s) (σ.set i v) j with
    | none => rfl
    | some a => rw [(key a).mp e'] at e; cases e
theorem MuA_setF {i : Nat} {s : Option SV} {v : Option V} (hn : notCell δ i = true) (hs : ∀ m d, s ≠ some (.cl m d)) {a : Addr} : MuA (δ.set i s) (σ.set i v) a ↔ MuA δ σ a := by
  constructor
  · rintro ⟨j, m, d, h, n, e⟩
    have h := (cell_setF hn hs).mp h
    exact ⟨j, m, d, h, n, (cell_at hn h).mp e⟩
  · rintro ⟨j, m, d, h, n, e⟩
    exact ⟨j, m, d, (cell_setF hn hs).mpr h, n, (cell_at hn h).mpr e⟩
theorem MA_setF {i : Nat} {s : Option SV} {v : Option V} (hn : notCell δ i = true) (hs : ∀ m d, s ≠ some (.cl m d)) : MA F (δ.set i s) (σ.set i v) = MA F δ σ := by
  funext a
  exact propext ⟨fun h => h.imp id (MuA_setF hn hs).mp, fun h => h.imp id (MuA_setF hn hs).mpr⟩
/-- the slot i, no cell, holds a value from now on (or none) -/
theorem Rel.setF {i : Nat} {s : Option SV} {v : Option V} (R : Rel F L δ σ H) (hn : notCell δ i = true) (hs : ∀ m d, s ≠ some (.cl m d))
    (h : ∀ d, s = some (.fz d) → ∃ x, v = some x ∧ RepH F δ σ H x d ∧ VOk L d) : Rel F L (δ.set i s) (σ.set i v) H := by
  have iδ := notCell_lt hn
  have iσ : i < σ.length := by rw [← R.len]; exact iδ
  have eC : cA (δ.set i s) (σ.set i v) = cA δ σ := cA_setF hn hs
  have eM : MA F (δ.set i s) (σ.set i v) = MA F δ σ := MA_setF hn hs
  refine ⟨by rw [List.length_set, List.length_set]; exact R.len, fun j d e => ?_, fun j d e => ?_, fun j m d e => ?_, fun j m d e => R.cok j m d ((cell_setF hn hs).mp e), fun j l m d m' d' a e1 e2 e3 e4 => ?_, R.keep, R.avt, R.bt, fun j a hb => ?_, fun j m d a e hm ea => R.avm j m d a ((cell_setF hn hs).mp e) hm ((cell_at hn ((cell_setF hn hs).mp e)).mp ea)⟩
  · rw [eC, eM]
    by_cases q : j = i
    · subst q
      have e : (δ.set j s)[j]? = some (some (SV.fz d)) := e
      rw [List.getElem?_set_self iδ] at e
      obtain ⟨x, ev, r, _⟩ := h d (Option.some.inj e)
      refine ⟨x, ?_, r⟩
      show (σ.set j v)[j]? = _
      rw [List.getElem?_set_self iσ, ev]
    · have e : (δ.set i s)[j]? = some (some (SV.fz d)) := e
      rw [List.getElem?_set_ne (Ne.symm q)] at e
      obtain ⟨x, ex, r⟩ := R.slot j d e
      refine ⟨x, ?_, r⟩
      show (σ.set i v)[j]? = _
      rw [List.getElem?_set_ne (Ne.symm q)]
      exact ex
  · by_cases q : j = i
    · subst q
      have e : (δ.set j s)[j]? = some (some (SV.fz d)) := e
      rw [List.getElem?_set_self iδ] at e
      obtain ⟨x, ev, r, k⟩ := h d (Option.some.inj e)
      exact k
    · have e : (δ.set i s)[j]? = some (some (SV.fz d)) := e
      rw [List.getElem?_set_ne (Ne.symm q)] at e
      exact R.vok j d e
  · have e := (cell_setF hn hs).mp e
    obtain ⟨a, o, ea, ho, ob, z⟩ := R.cell j m d e
    exact ⟨a, o, (cell_at hn e).mpr ea, ho, by rw [eC, eM]; exact ob, z⟩
  · have e1 := (cell_setF hn hs).mp e1
    have e2 := (cell_setF hn hs).mp e2
    exact R.dist j l m d m' d' a e1 e2 ((cell_at hn e1).mp e3) ((cell_at hn e2).mp e4)
  · obtain ⟨d, e, ea⟩ := R.bor j a hb
    exact ⟨d, (cell_setF hn hs).mpr e, (cell_at hn e).mpr ea⟩
theorem SStp.setF {i : Nat} {s : Option SV} {v : Option V} (hn : notCell δ i = true) (hs : ∀ m d, s ≠ some (.cl m d)) : SStp L δ σ H (δ.set i s) (σ.set i v) H :=
  ⟨fun a h => .inl ((MuA_setF hn hs).mp h), fun _ _ h _ => h, fun j _ a h => by rw [cA_setF hn hs]; exact h, fun _ h => h⟩
/-- x = e -/
def gSet (i : Nat) (g : GE) : GS := fun δ => (g δ).bindS fun d δ1 => if notCell δ1 i then .nx (δ1.set i (some (.fz d))) else .bad
theorem evs_set {i : Nat} {te : TE} {ge : GE} (he : Ev W L .val te ge) : EvS W L (tAsg te (gName i)) (gSet i ge) := fun F δ σ H D R P =>
  he F δ σ H _ R (EPost.bindS P fun d δ1 v H1 G P1 => by
    split at P1
    · rename_i hn
      exact P1 _ _ (G.R.setF hn (fun _ _ q => nomatch q) fun d' q => by cases q; exact ⟨v, rfl, G.r, G.k⟩) (SStp.setF hn fun _ _ q => nomatch q)
    · exact P1.elim)
variable {X : Cx} {pos : Pos}
theorem ds_set {i : Nat} {x : Str} {e : Expr} {te : TE} {ge : GE} {pos' : Pos} (hN : X.N.Nodup) (hi : X.N[i]? = some x) (hx : Loc X.env.scope x) (he : DE X W L .val e te ge) (hs : swapsWith e (some (.Name x pos')) pos.line X.env = pure false := by rfl) (hf : X.fn x = true ∨ X.env.scope.names.lookup x = some .local := by first | exact .inl rfl | exact .inr rfl | assumption) :
    DS X W L (.Assign [.Name x pos'] e pos) (tAsg te (gName i)) (gSet i ge) := ⟨ps_set hN hi hx he.pe hs hf, evs_set he.ev⟩

/-! ### cells -/
/-- the frame with one more address that values keep away from -/
def Fr.and (F : Fr) (p : Addr) : Fr := { F with Av := fun a => F.Av a ∨ a = p }
theorem Rel.and (R : Rel F L δ σ H) {p : Addr} {o : HO} (hp : H p = none) : Rel (F.and p) L δ σ (upd H p o) := by
  have R1 := R.laid (o := o) hp
  have mm : ∀ a, H a ≠ none → ¬ MA F δ σ a → ¬ MA (F.and p) δ σ a := fun a h n q => by
    rcases q with (q | q) | q
    · exact n (.inl q)
    · subst q; exact h hp
    · exact n (.inr q)
  have up : ∀ b u, H b = some u → upd H p o b = some u := fun b u e => by rw [upd_ne (ne_of_none e hp)]; exact e
  refine ⟨R1.len, fun i d e => ?_, R1.vok, fun i m d e => ?_, R1.cok, R1.dist, R1.keep, fun a h => ?_, R1.bt, R1.bor, fun j m d a e hm ea h => h.elim (R.avm j m d a e hm ea) fun q => ?_⟩
  · obtain ⟨v, ev, r⟩ := R.slot i d e
    exact ⟨v, ev, r.mono (fun a u q _ => up a u q) (fun _ _ h => h) mm⟩
  · obtain ⟨a, u, ea, hu, ob, z⟩ := R.cell i m d e
    exact ⟨a, u, ea, up a u hu, ob.mono (fun a u q _ => up a u q) (fun _ _ h => h) mm, z⟩
  · rcases h with h | h
    · exact R1.avt a h
    · rw [h, upd_same]; exact fun q => nomatch q
  · obtain ⟨b, u, eb, hu, _⟩ := R.cell j _ d e
    cases Option.some.inj (Option.some.inj (ea.symm.trans eb))
    rw [q, hp] at hu
    cases hu
theorem MA_and {p a : Addr} : MA (F.and p) δ σ a ↔ MA F δ σ a ∨ a = p := by
  unfold MA Fr.and
  constructor
  · rintro ((h | h) | h)
    · exact .inl (.inl h)
    · exact .inr h
    · exact .inl (.inr h)
  · rintro ((h | h) | h)
    · exact .inl (.inl h)
    · exact .inr h
    · exact .inl (.inr h)
/-- may slot i be made a cell anew -/
def freeSlot (δ : FS) (i : Nat) : Bool := match δ[i]? with
  | some (some (.cl .bo _)) => false
  | some _ => true
  | none => false
theorem freeSlot_lt {i : Nat} (h : freeSlot δ i = true) : i < δ.length := by
  unfold freeSlot at h
  cases e : δ[i]? with
  | none => rw [e] at h; cases h
  | some s => exact (List.getElem?_eq_some_iff.mp e).1
theorem freeSlot_no {i : Nat} (h : freeSlot δ i = true) (d : D) : ¬ IsC δ i .bo d := fun e => by
  unfold freeSlot at h
  rw [e] at h
  cases h
/-- the new object at p becomes the cell of slot i -/
theorem Rel.setC {i : Nat} {p : Addr} {o : HO} {d : D} (R : Rel (F.and p) L δ σ H) (hf : freeSlot δ i = true) (hL : i ∉ L) (h0 : F.H0 p = none) (hv : ¬ F.Av p) (ho : H p = some o) (hm : ¬ MuA δ σ p) (hc : ∀ j m c, IsC δ j m c → ¬ At σ j (.ref p))
    (ob : ObjD H (cA δ σ) (MA (F.and p) δ σ) o d) (kd : VOk [] d) : Rel F L (δ.set i (some (.cl .mu d))) (σ.set i (some (.ref p))) H := by
  have iδ := freeSlot_lt hf
  have iσ : i < σ.length := by rw [← R.len]; exact iδ
  have cs : ∀ {j m c}, j ≠ i → (IsC (δ.set i (some (.cl .mu d))) j m c ↔ IsC δ j m c) := fun {j m c} q => by
    show (δ.set i _)[j]? = _ ↔ _
    rw [List.getElem?_set_ne (Ne.symm q)]
  have fs : ∀ {j c}, j ≠ i → (IsF (δ.set i (some (.cl .mu d))) j c ↔ IsF δ j c) := fun {j c} q => by
    show (δ.set i _)[j]? = _ ↔ _
    rw [List.getElem?_set_ne (Ne.symm q)]
  have as : ∀ {j x}, j ≠ i → (At (σ.set i (some (.ref p))) j x ↔ At σ j x) := fun {j x} q => by
    show (σ.set i _)[j]? = _ ↔ _
    rw [List.getElem?_set_ne (Ne.symm q)]
  have ci : IsC (δ.set i (some (.cl .mu d))) i .mu d := List.getElem?_set_self iδ
  have ai : At (σ.set i (some (.ref p))) i (.ref p) := List.getElem?_set_self iσ
  have cu : ∀ {m c}, IsC (δ.set i (some (.cl .mu d))) i m c → m = .mu ∧ c = d := fun {m c} e => by
    have e := Option.some.inj (Option.some.inj (ci.symm.trans e))
    cases e
    exact ⟨rfl, rfl⟩
  have au : ∀ {x}, At (σ.set i (some (.ref p))) i x → x = .ref p := fun {x} e => (Option.some.inj (Option.some.inj (ai.symm.trans e))).symm
  have mM : ∀ a, MA F (δ.set i (some (.cl .mu d))) (σ.set i (some (.ref p))) a → MA (F.and p) δ σ a := fun a h => by
    rw [MA_and]
    rcases h with h | ⟨j, m, c, e, n, ea⟩
    · exact .inl (.inl h)
    · by_cases q : j = i
      · subst q
        exact .inr (V.ref.inj (au ea))
      · exact .inl (.inr ⟨j, m, c, (cs q).mp e, n, (as q).mp ea⟩)
  have cC : ∀ j ∈ L, ∀ a, cA δ σ j = some a → cA (δ.set i (some (.cl .mu d))) (σ.set i (some (.ref p))) j = some a := fun j hj a e => by
    have q : j ≠ i := fun q => hL (q ▸ hj)
    rw [cA_some] at e ⊢
    obtain ⟨⟨m, c, e1⟩, e2⟩ := e
    exact ⟨⟨m, c, (cs q).mpr e1⟩, (as q).mpr e2⟩
  have mono : ∀ {v c}, VOk L c → RepH (F.and p) δ σ H v c → RepH F (δ.set i (some (.cl .mu d))) (σ.set i (some (.ref p))) H v c := fun {v c} kc r =>
    r.monoL (fun _ _ h _ => h) cC (fun a _ n q => n (mM a q)) kc
  have monoO : ∀ {u c}, VOk [] c → ObjD H (cA δ σ) (MA (F.and p) δ σ) u c → ObjD H (cA (δ.set i (some (.cl .mu d))) (σ.set i (some (.ref p)))) (MA F (δ.set i (some (.cl .mu d))) (σ.set i (some (.ref p)))) u c := fun {u c} kc r =>
    r.monoL (L := []) (fun _ _ h _ => h) (fun j hj => absurd hj List.not_mem_nil) (fun a _ n q => n (mM a q)) kc
  refine ⟨by rw [List.length_set, List.length_set]; exact R.len, fun j c e => ?_, fun j c e => ?_, fun j m c e => ?_, fun j m c e => ?_, fun j l m c m' c' a e1 e2 e3 e4 => ?_, R.keep, fun a h => R.avt a (.inl h), R.bt, fun j a hb => ?_, fun j m c a e hm ea => ?_⟩
  · by_cases q : j = i
    · subst q
      exact nomatch (Option.some.inj (Option.some.inj (ci.symm.trans e)))
    · obtain ⟨v, ev, r⟩ := R.slot j c ((fs q).mp e)
      exact ⟨v, (as q).mpr ev, mono (R.vok j c ((fs q).mp e)) r⟩
  · by_cases q : j = i
    · subst q
      exact nomatch (Option.some.inj (Option.some.inj (ci.symm.trans e)))
    · exact R.vok j c ((fs q).mp e)
  · by_cases q : j = i
    · subst q
      obtain ⟨rfl, rfl⟩ := cu e
      exact ⟨p, o, ai, ho, monoO kd ob, fun _ => h0, fun z => nomatch z⟩
    · obtain ⟨a, u, ea, hu, ob', z1, z2⟩ := R.cell j m c ((cs q).mp e)
      exact ⟨a, u, (as q).mpr ea, hu, monoO (R.cok j m c ((cs q).mp e)) ob', z1, z2⟩
  · by_cases q : j = i
    · subst q
      obtain ⟨rfl, rfl⟩ := cu e
      exact kd
    · exact R.cok j m c ((cs q).mp e)
  · by_cases q : j = i
    · by_cases q' : l = i
      · rw [q, q']
      · subst q
        have := V.ref.inj (au e3)
        subst this
        exact absurd ((as q').mp e4) (hc l m' c' ((cs q').mp e2))
    · by_cases q' : l = i
      · subst q'
        have := V.ref.inj (au e4)
        subst this
        exact absurd ((as q).mp e3) (hc j m c ((cs q).mp e1))
      · exact R.dist j l m c m' c' a ((cs q).mp e1) ((cs q').mp e2) ((as q).mp e3) ((as q').mp e4)
  · obtain ⟨c, e, ea⟩ := R.bor j a hb
    have q : j ≠ i := fun q => freeSlot_no hf c (q ▸ e)
    exact ⟨c, (cs q).mpr e, (as q).mpr ea⟩
  · by_cases q : j = i
    · subst q
      have := V.ref.inj (au ea)
      subst this
      exact hv
    · exact fun z => R.avm j m c a ((cs q).mp e) hm ((as q).mp ea) (.inl z)
theorem SStp.setC {i : Nat} {p : Addr} {d : D} (hL : i ∉ L) (hf : freeSlot δ i = true) (iσ : i < σ.length) (hp : H p = none) (hH : ∀ b o, H b = some o → ¬ MuA δ σ b → H' b = some o) (th : ∀ b, H b ≠ none → H' b ≠ none) : SStp L δ σ H (δ.set i (some (.cl .mu d))) (σ.set i (some (.ref p))) H' := by
  have iδ := freeSlot_lt hf
  refine ⟨fun a h => ?_, hH, fun j hj a e => ?_, th⟩
  · obtain ⟨j, m, c, e, n, ea⟩ := h
    by_cases q : j = i
    · subst q
      have ea : (σ.set j (some (V.ref p)))[j]? = some (some (V.ref a)) := ea
      rw [List.getElem?_set_self iσ] at ea
      have := V.ref.inj (Option.some.inj (Option.some.inj ea))
      subst this
      exact .inr hp
    · have e : (δ.set i _)[j]? = _ := e
      have ea : (σ.set i _)[j]? = _ := ea
      rw [List.getElem?_set_ne (Ne.symm q)] at e ea
      exact .inl ⟨j, m, c, e, n, ea⟩
  · have q : j ≠ i := fun q => hL (q ▸ hj)
    rw [cA_some] at e ⊢
    obtain ⟨⟨m, c, e1⟩, e2⟩ := e
    refine ⟨⟨m, c, ?_⟩, ?_⟩
    · show (δ.set i _)[j]? = _
      rw [List.getElem?_set_ne (Ne.symm q)]; exact e1
    · show (σ.set i _)[j]? = _
      rw [List.getElem?_set_ne (Ne.symm q)]; exact e2
/-- x = e, e a new list, x's own from now on -/
def gSetC (i : Nat) (g : GE) : GS := fun δ => match g δ with
  | .own d δ1 => if freeSlot δ1 i then .nx (δ1.set i (some (.cl .mu d))) else .bad
  | .exn x δ1 => .exn x δ1
  | _ => .bad
theorem evs_setC {i : Nat} {te : TE} {ge : GE} (hL : L = []) (he : Ev W L .val te ge) : EvS W L (tAsg te (gName i)) (gSetC i ge) := fun F δ σ H D R P => by
  refine he F δ σ H _ R ?_
  unfold gSetC at P
  cases q : ge δ with
  | own d δ1 =>
    rw [q] at P
    simp only at P
    intro p H1 o R1 s1 hp ob k1
    split at P
    · rename_i hf
      have hm := R1.fresh hp
      have h0 : F.H0 p = none := by
        cases e : F.H0 p with
        | none => rfl
        | some u =>
          by_cases z : F.inB p
          · exact absurd hp (R1.bt p z)
          · have := R1.keep p u z e
            rw [hp] at this
            cases this
      have hc : ∀ j m c, IsC δ1 j m c → ¬ At σ j (.ref p) := fun j m c e ea => by
        obtain ⟨a, u, ea', hu, _⟩ := R1.cell j m c e
        cases Option.some.inj (Option.some.inj (ea.symm.trans ea'))
        rw [hp] at hu
        cases hu
      have ob' : ObjD (upd H1 p o) (cA δ1 σ) (MA (F.and p) δ1 σ) o d := by
        refine ob.mono (fun a u e _ => by rw [upd_ne (ne_of_none e hp)]; exact e) (fun _ _ h => h) fun a h n z => ?_
        rcases MA_and.mp z with z | z
        · exact n z
        · subst z; exact h hp
      have iσ : i < σ.length := by rw [← R1.len]; exact freeSlot_lt hf
      refine P _ _ ((R1.and hp).setC hf (by rw [hL]; exact List.not_mem_nil) h0 (fun z => hm (.inl z)) upd_same (fun z => hm (.inr z)) hc ob' (by rw [← hL]; exact k1)) ?_
      have s2 := (s1.laid (o := o) hp).s (L := L)
      have hp0 : H p = none := by
        cases e : H p with
        | none => rfl
        | some u => exact absurd hp (s1.th p (by rw [e]; exact fun z => nomatch z))
      refine s1.s.trans (SStp.setC (by rw [hL]; exact List.not_mem_nil) hf iσ hp (fun b u e _ => by rw [upd_ne (ne_of_none e hp)]; exact e) fun b h => ?_)
      by_cases z : b = p
      · rw [z, upd_same]; exact fun z => nomatch z
      · rw [upd_ne z]; exact h
    · exact P.elim
  | ok d δ1 => rw [q] at P; exact P.elim
  | exn x δ1 =>
    rw [q] at P
    cases W with
    | none => exact P
    | some W => exact fun H1 cls dd R1 s1 xr => P σ H1 cls dd R1 s1.s xr
  | bad => rw [q] at P; exact P.elim
  | ownT xs ds ys δ1 => rw [q] at P; exact P.elim
end
end DL

/-! DL, part h: lists changed, targets, while. -/
namespace DL
open PySem PySem.Spec PyProof.Rows L2
variable [KL]

section
variable {W : WO} {F : Fr} {L : List Nat} {k : Kd} {δ δ' : FS} {σ σ' : St} {H H' : Hp}
/-! ### an object taken out of the heap that is spoken of -/
def era (H : Hp) (p : Addr) : Hp := fun b => if b = p then none else H b
theorem era_same {p : Addr} : era H p p = none := if_pos rfl
theorem era_ne {p b : Addr} (h : b ≠ p) : era H p b = H b := if_neg h
theorem upd_era {p : Addr} {o : HO} (h : H p = some o) : upd (era H p) p o = H := by
  funext b
  by_cases q : b = p
  · rw [q, upd_same, h]
  · rw [upd_ne q, era_ne q]
theorem Rel.erase {p : Addr} (R : Rel (F.and p) L δ σ H) (hc : ∀ j m c, IsC δ j m c → ¬ At σ j (.ref p)) (h0 : F.H0 p = none) (hv : ¬ F.Av p) (hb : ¬ F.inB p) : Rel F L δ σ (era H p) := by
  have kp : ∀ a u, H a = some u → ¬ MA (F.and p) δ σ a → era H p a = some u := fun a u e n => by
    rw [era_ne fun q => n (MA_and.mpr (.inr q))]; exact e
  have mm : ∀ a, H a ≠ none → ¬ MA (F.and p) δ σ a → ¬ MA F δ σ a := fun a _ n q => n (MA_and.mpr (.inl q))
  refine ⟨R.len, fun j d e => ?_, R.vok, fun j m d e => ?_, R.cok, R.dist, fun b u n e => ?_, fun a h => ?_, fun a h => ?_, R.bor, fun j m d a e hm ea z => R.avm j m d a e hm ea (.inl z)⟩
  · obtain ⟨v, ev, r⟩ := R.slot j d e
    exact ⟨v, ev, r.mono kp (fun _ _ h => h) mm⟩
  · obtain ⟨a, u, ea, hu, ob, z⟩ := R.cell j m d e
    refine ⟨a, u, ea, ?_, ob.mono kp (fun _ _ h => h) mm, z⟩
    rw [era_ne (show a ≠ p from fun q => hc j m d e (by rw [← q]; exact ea))]
    exact hu
  · rw [era_ne (show b ≠ p from fun q => by rw [q, h0] at e; cases e)]
    exact R.keep b u n e
  · rw [era_ne (show a ≠ p from fun q => hv (by rw [← q]; exact h))]
    exact R.avt a (.inl h)
  · rw [era_ne (show a ≠ p from fun q => hb (by rw [← q]; exact h))]
    exact R.bt a h
theorem Rel.h0 (R : Rel F L δ σ H) {p : Addr} (hp : H p = none) : F.H0 p = none ∧ ¬ F.inB p := by
  have hb : ¬ F.inB p := fun z => R.bt p z hp
  refine ⟨?_, hb⟩
  cases e : F.H0 p with
  | none => rfl
  | some u =>
    have := R.keep p u hb e
    rw [hp] at this
    cases this
/-- a cell's slot is emptied, its list stays in the heap, spoken of by no one -/
theorem Rel.release {i : Nat} {d : D} {a : Addr} (R : Rel F L δ σ H) (hL : i ∉ L) (e : IsC δ i .mu d) (ea : At σ i (.ref a)) : Rel (F.and a) L (δ.set i none) (σ.set i none) H := by
  have iδ : i < δ.length := (List.getElem?_eq_some_iff.mp e).1
  have iσ : i < σ.length := (List.getElem?_eq_some_iff.mp ea).1
  have cs : ∀ {j m c}, IsC (δ.set i none) j m c → j ≠ i ∧ IsC δ j m c := fun {j m c} h => by
    have q : j ≠ i := fun q => by
      subst q
      have h : (δ.set j none)[j]? = _ := h
      rw [List.getElem?_set_self iδ] at h
      cases h
    have h : (δ.set i none)[j]? = _ := h
    rw [List.getElem?_set_ne (Ne.symm q)] at h
    exact ⟨q, h⟩
  have cs' : ∀ {j m c}, j ≠ i → IsC δ j m c → IsC (δ.set i none) j m c := fun {j m c} q h => by
    show (δ.set i none)[j]? = _
    rw [List.getElem?_set_ne (Ne.symm q)]; exact h
  have fs : ∀ {j c}, IsF (δ.set i none) j c → j ≠ i ∧ IsF δ j c := fun {j c} h => by
    have q : j ≠ i := fun q => by
      subst q
      have h : (δ.set j none)[j]? = _ := h
      rw [List.getElem?_set_self iδ] at h
      cases h
    have h : (δ.set i none)[j]? = _ := h
    rw [List.getElem?_set_ne (Ne.symm q)] at h
    exact ⟨q, h⟩
  have as : ∀ {j x}, j ≠ i → (At (σ.set i none) j x ↔ At σ j x) := fun {j x} q => by
    show (σ.set i none)[j]? = _ ↔ _
    rw [List.getElem?_set_ne (Ne.symm q)]
  have mM : ∀ b, MA (F.and a) (δ.set i none) (σ.set i none) b → MA F δ σ b := fun b h => by
    rcases MA_and.mp h with h | h
    · rcases h with h | ⟨j, m, c, h, n, eb⟩
      · exact .inl h
      · obtain ⟨q, h⟩ := cs h
        exact .inr ⟨j, m, c, h, n, (as q).mp eb⟩
    · rw [h]
      exact .inr ⟨i, .mu, d, e, by decide, ea⟩
  have cC : ∀ j ∈ L, ∀ b, cA δ σ j = some b → cA (δ.set i none) (σ.set i none) j = some b := fun j hj b h => by
    have q : j ≠ i := fun q => hL (q ▸ hj)
    rw [cA_some] at h ⊢
    obtain ⟨⟨m, c, h1⟩, h2⟩ := h
    exact ⟨⟨m, c, cs' q h1⟩, (as q).mpr h2⟩
  refine ⟨by rw [List.length_set, List.length_set]; exact R.len, fun j c h => ?_, fun j c h => R.vok j c (fs h).2, fun j m c h => ?_, fun j m c h => R.cok j m c (cs h).2, fun j l m c m' c' b h1 h2 h3 h4 => ?_, R.keep, fun b h => ?_, R.bt, fun j b hb => ?_, fun j m c b h hm hb z => ?_⟩
  · obtain ⟨q, h⟩ := fs h
    obtain ⟨v, ev, r⟩ := R.slot j c h
    exact ⟨v, (as q).mpr ev, r.monoL (fun _ _ h _ => h) cC (fun b _ n z => n (mM b z)) (R.vok j c h)⟩
  · obtain ⟨q, h⟩ := cs h
    obtain ⟨b, u, eb, hu, ob, z⟩ := R.cell j m c h
    exact ⟨b, u, (as q).mpr eb, hu, ob.monoL (L := []) (fun _ _ h _ => h) (fun j hj => absurd hj List.not_mem_nil) (fun b _ n z => n (mM b z)) (R.cok j m c h), z⟩
  · obtain ⟨q1, h1⟩ := cs h1
    obtain ⟨q2, h2⟩ := cs h2
    exact R.dist j l m c m' c' b h1 h2 ((as q1).mp h3) ((as q2).mp h4)
  · rcases h with h | h
    · exact R.avt b h
    · obtain ⟨b', u, eb, hu, _⟩ := R.cell i _ d e
      cases Option.some.inj (Option.some.inj (ea.symm.trans eb))
      rw [h, hu]
      exact fun z => nomatch z
  · obtain ⟨c, h, eb⟩ := R.bor j b hb
    have q : j ≠ i := fun q => by
      subst q
      have := Option.some.inj (Option.some.inj (e.symm.trans h))
      cases this
    exact ⟨c, cs' q h, (as q).mpr eb⟩
  · obtain ⟨q, h⟩ := cs h
    rcases z with z | z
    · exact R.avm j m c b h hm ((as q).mp hb) z
    · subst z
      exact q (R.dist j i _ c _ d b h e ((as q).mp hb) ea)
variable {X : Cx} {pos : Pos}
theorem ds_retC {i : Nat} {x : Str} {p : Pos} (hL : L = []) (he : PE X (.Name x p) (tVar i)) : DS X W L (.Return (some (.Name x p)) pos) (tRet (tVar i)) (gRetC i) :=
  ⟨ps_ret he, fun F δ σ H D R P => by
    unfold gRetC at P
    split at P
    · rename_i d e
      obtain ⟨a, o, ea, ho, ob, z1, z2⟩ := R.cell i _ d e
      refine ⟨.ref a, ea, ?_⟩
      have hi : i ∉ L := by rw [hL]; exact List.not_mem_nil
      have R1 := R.release hi e ea
      have hv := R.avm i _ d a e (by decide) ea
      have nc : ∀ j m c, IsC (δ.set i none) j m c → ¬ At (σ.set i none) j (.ref a) := fun j m c h hb => by
        have q : j ≠ i := fun q => by
          subst q
          have h : (δ.set j none)[j]? = _ := h
          rw [List.getElem?_set_self (List.getElem?_eq_some_iff.mp e).1] at h
          cases h
        have h : (δ.set i none)[j]? = _ := h
        have hb : (σ.set i none)[j]? = _ := hb
        rw [List.getElem?_set_ne (Ne.symm q)] at h hb
        exact q (R.dist j i _ c _ d a h e hb ea)
      have nb : ¬ F.inB a := fun ⟨j, hb⟩ => by
        obtain ⟨c, h, eb⟩ := R.bor j a hb
        have q := R.dist j i _ c _ d a h e eb ea
        subst q
        have := Option.some.inj (Option.some.inj (e.symm.trans h))
        cases this
      have R2 := R1.erase nc (z1 rfl) hv nb
      have := P a o (σ.set i none) (era H a) R2 era_same (ob.monoL (L := []) (fun b u h n => ?_) (fun j hj => absurd hj List.not_mem_nil) (fun b h n z => ?_) (R.cok i _ d e)) (by rw [hL]; exact R.cok i _ d e)
      · rw [upd_era ho] at this
        exact this
      · rw [era_ne (show b ≠ a from fun q => n (.inr ⟨i, _, d, e, by decide, by rw [q]; exact ea⟩))]
        exact h
      · refine n ?_
        rcases z with z | ⟨j, m, c, h, m', hb⟩
        · exact .inl z
        · have q : j ≠ i := fun q => by
            subst q
            have h : (δ.set j none)[j]? = _ := h
            rw [List.getElem?_set_self (List.getElem?_eq_some_iff.mp e).1] at h
            cases h
          have h : (δ.set i none)[j]? = _ := h
          have hb : (σ.set i none)[j]? = _ := hb
          rw [List.getElem?_set_ne (Ne.symm q)] at h hb
          exact .inr ⟨j, m, c, h, m', hb⟩
    · rename_i d e
      obtain ⟨a, o, ea, ho, ob, z1, z2⟩ := R.cell i _ d e
      have nM : ¬ MA F δ σ a := fun z => by
        rcases z with z | ⟨j, m, c, h, hm, hb⟩
        · exact R.avm i _ d a e (by decide) ea z
        · have q := R.dist j i _ c _ d a h e hb ea
          subst q
          cases Option.some.inj (Option.some.inj (e.symm.trans h))
          exact hm rfl
      have nm : ¬ MA F δ σ a → RepH F δ σ H (.ref a) d := fun n => by
        cases o with
        | lst us => cases d with
          | lst ds => exact .lst (.of ho) n ob
          | _ => exact ob.elim
        | dK us => cases d with
          | dic ds => exact .dic ho n ob
          | _ => exact ob.elim
        | _ => cases d <;> exact ob.elim
      exact ⟨.ref a, ea, P (.ref a) σ H R (nm nM) (by rw [hL]; exact R.cok i _ d e)⟩
    · rename_i d e
      obtain ⟨v, ev, r⟩ := R.slot i d e
      exact ⟨v, ev, P v σ H R r (R.vok i d e)⟩
    · exact P.elim⟩
end
end DL

/-! DL, part i: lists changed in place, targets, while. -/
namespace DL
open PySem PySem.Spec PyProof.Rows L2
variable [KL]

section
variable {W : WO} {F : Fr} {L : List Nat} {k : Kd} {δ δ' : FS} {σ σ' : St} {H H' : Hp}
/-- a cell's list is another one from now on -/
theorem Rel.put {i : Nat} {m : Md} {c c' : D} {a : Addr} {o' : HO} (R : Rel F L δ σ H) (e : IsC δ i m c) (hm : m ≠ .ro) (ea : At σ i (.ref a)) (ob : ObjD H (cA δ σ) (MA F δ σ) o' c') (kc : VOk [] c') :
    Rel F L (δ.set i (some (.cl m c'))) σ (upd H a o') ∧ Stp δ σ H (δ.set i (some (.cl m c'))) (upd H a o') := by
  have iδ : i < δ.length := (List.getElem?_eq_some_iff.mp e).1
  have cs : ∀ {j m' d}, j ≠ i → (IsC (δ.set i (some (.cl m c'))) j m' d ↔ IsC δ j m' d) := fun {j m' d} q => by
    show (δ.set i _)[j]? = _ ↔ _
    rw [List.getElem?_set_ne (Ne.symm q)]
  have ci : IsC (δ.set i (some (.cl m c'))) i m c' := List.getElem?_set_self iδ
  have cu : ∀ {m' d}, IsC (δ.set i (some (.cl m c'))) i m' d → m' = m ∧ d = c' := fun {m' d} h => by
    have h := Option.some.inj (Option.some.inj (ci.symm.trans h))
    cases h
    exact ⟨rfl, rfl⟩
  have fs : ∀ {j d}, IsF (δ.set i (some (.cl m c'))) j d → j ≠ i ∧ IsF δ j d := fun {j d} h => by
    have q : j ≠ i := fun q => by
      subst q
      exact nomatch (Option.some.inj (Option.some.inj (ci.symm.trans h)))
    have h : (δ.set i _)[j]? = _ := h
    rw [List.getElem?_set_ne (Ne.symm q)] at h
    exact ⟨q, h⟩
  have eC : cA (δ.set i (some (.cl m c'))) σ = cA δ σ := by
    funext j
    have key : ∀ b, cA (δ.set i (some (.cl m c'))) σ j = some b ↔ cA δ σ j = some b := fun b => by
      rw [cA_some, cA_some]
      by_cases q : j = i
      · subst q
        exact ⟨fun h => ⟨⟨m, c, e⟩, h.2⟩, fun h => ⟨⟨m, c', ci⟩, h.2⟩⟩
      · exact ⟨fun ⟨⟨m', d, h⟩, h2⟩ => ⟨⟨m', d, (cs q).mp h⟩, h2⟩, fun ⟨⟨m', d, h⟩, h2⟩ => ⟨⟨m', d, (cs q).mpr h⟩, h2⟩⟩
    cases h : cA δ σ j with
    | some b => exact (key b).mpr h
    | none =>
      cases h' : cA (δ.set i (some (.cl m c'))) σ j with
      | none => rfl
      | some b => rw [(key b).mp h'] at h; cases h
  have eMu : ∀ b, MuA (δ.set i (some (.cl m c'))) σ b ↔ MuA δ σ b := fun b => by
    constructor
    · rintro ⟨j, m', d, h, n, hb⟩
      by_cases q : j = i
      · subst q
        exact ⟨j, m, c, e, hm, hb⟩
      · exact ⟨j, m', d, (cs q).mp h, n, hb⟩
    · rintro ⟨j, m', d, h, n, hb⟩
      by_cases q : j = i
      · subst q
        exact ⟨j, m, c', ci, hm, hb⟩
      · exact ⟨j, m', d, (cs q).mpr h, n, hb⟩
  have eM : MA F (δ.set i (some (.cl m c'))) σ = MA F δ σ := by
    funext b
    exact propext ⟨fun h => h.imp id (eMu b).mp, fun h => h.imp id (eMu b).mpr⟩
  have mA : MuA δ σ a := ⟨i, m, c, e, hm, ea⟩
  have kp : ∀ b u, H b = some u → ¬ MA F δ σ b → upd H a o' b = some u := fun b u h n => by
    rw [upd_ne (show b ≠ a from fun q => n (.inr (by rw [q]; exact mA)))]
    exact h
  have nn : ∀ b, H b ≠ none → upd H a o' b ≠ none := fun b h => by
    by_cases q : b = a
    · rw [q, upd_same]; exact fun z => nomatch z
    · rw [upd_ne q]; exact h
  obtain ⟨a', o, ea', ho, ob0, z1, z2⟩ := R.cell i m c e
  cases Option.some.inj (Option.some.inj (ea.symm.trans ea'))
  refine ⟨⟨by rw [List.length_set]; exact R.len, fun j d h => ?_, fun j d h => R.vok j d (fs h).2, fun j m' d h => ?_, fun j m' d h => ?_, fun j l m1 d1 m2 d2 b h1 h2 h3 h4 => ?_, fun b u n h => ?_, fun b h => nn b (R.avt b h), fun b h => nn b (R.bt b h), fun j b hb => ?_, fun j m' d b h hm' hb => ?_⟩, ?_⟩
  · obtain ⟨v, ev, r⟩ := R.slot j d (fs h).2
    exact ⟨v, ev, by rw [eC, eM]; exact r.mono kp (fun _ _ h => h) (fun _ _ n => n)⟩
  · rw [eC, eM]
    by_cases q : j = i
    · subst q
      obtain ⟨rfl, rfl⟩ := cu h
      exact ⟨a, o', ea, upd_same, ob.mono kp (fun _ _ h => h) (fun _ _ n => n), z1, z2⟩
    · have h := (cs q).mp h
      obtain ⟨b, u, eb, hu, obb, z⟩ := R.cell j m' d h
      have nb : b ≠ a := fun q' => by
        rw [q'] at eb
        exact q (R.dist j i m' d m c a h e eb ea)
      exact ⟨b, u, eb, by rw [upd_ne nb]; exact hu, obb.mono kp (fun _ _ h => h) (fun _ _ n => n), z⟩
  · by_cases q : j = i
    · subst q
      obtain ⟨rfl, rfl⟩ := cu h
      exact kc
    · exact R.cok j m' d ((cs q).mp h)
  · have g : ∀ {j m' d}, IsC (δ.set i (some (.cl m c'))) j m' d → ∃ m'' d'', IsC δ j m'' d'' := fun {j m' d} h => by
      by_cases q : j = i
      · subst q; exact ⟨m, c, e⟩
      · exact ⟨m', d, (cs q).mp h⟩
    obtain ⟨_, _, g1⟩ := g h1
    obtain ⟨_, _, g2⟩ := g h2
    exact R.dist j l _ _ _ _ b g1 g2 h3 h4
  · have nb : b ≠ a := fun q => by
      subst q
      cases m with
      | ro => exact hm rfl
      | mu => rw [z1 rfl] at h; cases h
      | bo => exact n ⟨i, z2 rfl⟩
    rw [upd_ne nb]
    exact R.keep b u n h
  · obtain ⟨d, h, eb⟩ := R.bor j b hb
    by_cases q : j = i
    · subst q
      have := Option.some.inj (Option.some.inj (e.symm.trans h))
      cases this
      exact ⟨c', ci, eb⟩
    · exact ⟨d, (cs q).mpr h, eb⟩
  · by_cases q : j = i
    · subst q
      obtain ⟨rfl, rfl⟩ := cu h
      exact R.avm j _ c b e hm' hb
    · exact R.avm j m' d b ((cs q).mp h) hm' hb
  · refine ⟨List.length_set, fun j => ?_, fun b h => (eMu b).mp h, fun b u h n => ?_, nn⟩
    · by_cases q : j = i
      · subst q
        exact ⟨fun _ => ⟨m, c', ci⟩, fun _ => ⟨m, c, e⟩⟩
      · exact ⟨fun ⟨m', d, h⟩ => ⟨m', d, (cs q).mpr h⟩, fun ⟨m', d, h⟩ => ⟨m', d, (cs q).mp h⟩⟩
    · rw [upd_ne (show b ≠ a from fun q => n (by rw [q]; exact mA))]
      exact h
/-- the list that a cell may change -/
def mutL (δ : FS) (i : Nat) : Option (Md × List D) := match δ[i]? with
  | some (some (.cl m (.lst ds))) => if m = .ro then none else some (m, ds)
  | _ => none
theorem mutL_some {i : Nat} {m : Md} {ds : List D} (h : mutL δ i = some (m, ds)) : IsC δ i m (.lst ds) ∧ m ≠ .ro := by
  unfold mutL at h
  split at h
  · rename_i m' ds' e
    split at h
    · cases h
    · rename_i n
      cases h
      exact ⟨e, n⟩
  · cases h
theorem Rel.cellL {i : Nat} {m : Md} {ds : List D} (R : Rel F L δ σ H) (e : IsC δ i m (.lst ds)) : ∃ a us, At σ i (.ref a) ∧ H a = some (.lst us) ∧ RepHA F δ σ H us ds ∧ VOkA [] ds := by
  obtain ⟨a, o, ea, ho, ob, _⟩ := R.cell i m _ e
  have kc := R.cok i m _ e
  cases o with
  | lst us => cases kc with
    | lst kc => exact ⟨a, us, ea, ho, ob, kc⟩
  | _ => exact ob.elim
/-- is the slot a list's cell -/
def isL (δ : FS) (i : Nat) : Bool := match δ[i]? with
  | some (some (.cl _ (.lst _))) => true
  | _ => false
theorem isL_some {i : Nat} (h : isL δ i = true) : ∃ m ds, IsC δ i m (.lst ds) := by
  unfold isL at h
  split at h
  · rename_i m ds e
    exact ⟨m, ds, e⟩
  · cases h
/-- x.append(e) -/
def gApp (i : Nat) (g : GE) : GE := fun δ => if isL δ i then (g δ).bind fun d δ1 => match mutL δ1 i with
  | some (m, ds) => if ds.length < 16777216 then .ok .non (δ1.set i (some (.cl m (.lst (ds ++ [d]))))) else .bad
  | none => .bad else .bad
theorem ev_app {K : PySem.W.Frag} {i : Nat} {te : TE} {ge : GE} (hL : L = []) (he : Ev W L .val te ge) : Ev W L k (tBM K "list" rAppend (tVar i) (tCons te tNil)) (gApp i ge) := fun F δ σ H Q R P => by
  unfold gApp at P
  split at P
  · rename_i hl
    obtain ⟨m0, ds0, e0⟩ := isL_some hl
    obtain ⟨a, us0, ea, ha, _, _⟩ := R.cellL e0
    refine ⟨.ref a, ea, .inl ⟨rfl, _, .inl (.inl ha)⟩, he.seq R P fun d δ1 v H1 G P1 => ?_⟩
    split at P1
    · rename_i m ds e
      split at P1
      · rename_i z
        obtain ⟨ec, hm⟩ := mutL_some e
        obtain ⟨a', us, ea', ha', r, kc⟩ := G.R.cellL ec
        cases Option.some.inj (Option.some.inj (ea.symm.trans ea'))
        have kd : VOk [] d := by have := G.k; rw [hL] at this; exact this
        obtain ⟨R2, s2⟩ := G.R.put ec hm ea (o' := .lst (us ++ [v])) (c' := .lst (ds ++ [d])) (r.append (.cons G.r .nil)) (.lst (kc.append (.cons kd .nil)))
        exact ⟨a, us, v, rfl, rfl, ha', by rw [r.length, sizeLine_eq]; exact z, P1 .non _ R2 s2 .non (KOk.mk R2 fun _ => .non)⟩
      · exact P1.elim
    · exact P1.elim
  · exact P.elim
variable {X : Cx} {pos apos : Pos} {e : Expr} {te : TE} {ge : GE} {o : Expr}
theorem de_app {i : Nat} (hL : L = []) (ho : PE X o (tVar i)) (he : DE X W L .val e te ge)
    (hst : starEach (e :: []) X.env = (false, eval e X.env) :: starEach [] X.env := by rfl) (hpe : PE X (.Call (.Attribute o "append" apos) [e] [] pos) (tBM X.K "list" rAppend (tVar i) (tCons te tNil))) : DE X W L k (.Call (.Attribute o "append" apos) [e] [] pos) (tBM X.K "list" rAppend (tVar i) (tCons te tNil)) (gApp i ge) :=
  ⟨hpe, ev_app hL he.ev⟩
/-- x.pop() -/
def gPop (i : Nat) : GE := fun δ => match mutL δ i with
  | some (m, ds) => (match ds[ds.length - 1]? with | some d => .ok d (δ.set i (some (.cl m (.lst ds.dropLast)))) | none => .bad)
  | none => .bad
theorem repAll_dropLast {C : Nat → Option Addr} {M : Addr → Prop} {us : List V} {ds : List D} (r : RepAll H C M us ds) : RepAll H C M us.dropLast ds.dropLast := by
  rw [List.dropLast_eq_take, List.dropLast_eq_take, r.length]
  exact r.take _
theorem vok_dropLast {ds : List D} (h : VOkA L ds) : VOkA L ds.dropLast := by
  rw [List.dropLast_eq_take]
  exact h.take _
theorem ev_pop {K : PySem.W.Frag} {i : Nat} : Ev W L k (tBM0 K "list" rPop (tVar i)) (gPop i) := fun F δ σ H Q R P => by
  unfold gPop at P
  split at P
  · rename_i m ds e
    obtain ⟨ec, hm⟩ := mutL_some e
    obtain ⟨a, us, ea, ha, r, kc⟩ := R.cellL ec
    split at P
    · rename_i d ed
      obtain ⟨v, hv, rv⟩ := r.get ed
      obtain ⟨R2, s2⟩ := R.put ec hm ea (o' := .lst us.dropLast) (c' := .lst ds.dropLast) (repAll_dropLast r) (.lst (vok_dropLast kc))
      have kd : VOk [] d := kc.get ed
      exact ⟨.ref a, ea, .inl ⟨rfl, _, .inl (.inl ha)⟩, a, us, v, rfl, rfl, ha, by rw [r.length]; exact hv, P v _ R2 s2 (s2.rep rv) (KOk.mk R2 fun _ => kd.mono fun _ h => absurd h List.not_mem_nil)⟩
    · exact P.elim
  · exact P.elim
/-- x.pop(e) -/
def gPopAt (i : Nat) (g : GE) : GE := fun δ => if isL δ i then (g δ).bind fun d δ1 => match top δ1 d with
  | .int j => if j < -16777216 ∨ 16777216 < j then .bad else (match mutL δ1 i with
    | some (m, ds) => (match ixN ds.length j with
      | some q => (match ds[q]? with | some d => .ok d (δ1.set i (some (.cl m (.lst (ds.eraseIdx q))))) | none => .bad)
      | none => .bad)
    | none => .bad)
  | _ => .bad else .bad
theorem repAll_eraseIdx {C : Nat → Option Addr} {M : Addr → Prop} : ∀ {us : List V} {ds : List D} (n : Nat), RepAll H C M us ds → RepAll H C M (us.eraseIdx n) (ds.eraseIdx n)
  | _, _, _, .nil => .nil
  | _, _, 0, .cons _ b => b
  | _, _, n + 1, .cons a b => .cons a (repAll_eraseIdx n b)
theorem vok_eraseIdx : ∀ {ds : List D} (n : Nat), VOkA L ds → VOkA L (ds.eraseIdx n)
  | _, _, .nil => .nil
  | _, 0, .cons _ b => b
  | _, n + 1, .cons a b => .cons a (vok_eraseIdx n b)
theorem ev_popAt {K : PySem.W.Frag} {i : Nat} (he : Ev W L .any te ge) : Ev W L k (tBM K "list" rPopAt (tVar i) (tCons te tNil)) (gPopAt i ge) := fun F δ σ H Q R P => by
  unfold gPopAt at P
  split at P
  · rename_i hl
    obtain ⟨m0, ds0, e0⟩ := isL_some hl
    obtain ⟨a, us0, ea, ha, _, _⟩ := R.cellL e0
    refine ⟨.ref a, ea, .inl ⟨rfl, _, .inl (.inl ha)⟩, he.seq R P fun d δ1 v H1 G P1 => ?_⟩
    split at P1
    · rename_i j ej
      split at P1
      · exact P1.elim
      rename_i hz
      split at P1
      · rename_i m ds e
        obtain ⟨ec, hm⟩ := mutL_some e
        obtain ⟨a', us, ea', ha', r, kc⟩ := G.R.cellL ec
        cases Option.some.inj (Option.some.inj (ea.symm.trans ea'))
        split at P1
        · rename_i q eq
          obtain ⟨z1, z2, z3, z4⟩ := ixN_seq eq
          split at P1
          · rename_i d' ed
            obtain ⟨v', hv, rv⟩ := r.get ed
            obtain ⟨R2, s2⟩ := G.R.put ec hm ea (o' := .lst (us.eraseIdx q)) (c' := .lst (ds.eraseIdx q)) (repAll_eraseIdx q r) (.lst (vok_eraseIdx q kc))
            have kd : VOk [] d' := kc.get ed
            refine ⟨a, us, j, q, v', rfl, by rw [G.R.int G.r ej], ha', by omega, by omega, by rw [r.length]; exact z1, hv, P1 v' _ R2 s2 (s2.rep rv) (KOk.mk R2 fun _ => kd.mono fun _ h => absurd h List.not_mem_nil)⟩
          · exact P1.elim
        · exact P1.elim
      · exact P1.elim
    · exact P1.elim
  · exact P.elim
end
end DL

/-! DL, part j: stores, targets, while, two names at once. -/
namespace DL
open PySem PySem.Spec PyProof.Rows L2
variable [KL]

section
variable {W : WO} {F : Fr} {L : List Nat} {k ka kb : Kd} {δ δ' : FS} {σ σ' : St} {H H' : Hp} {X : Cx} {pos apos : Pos} {e : Expr} {te ti : TE} {ge gi : GE} {o : Expr}
/-! ### x[i] = e -/
def gSetIx (i : Nat) (gi ge : GE) : GS := fun δ => (ge δ).bindS fun d δ1 => if isL δ1 i then (gi δ1).bindS fun j δ2 => match top δ2 j with
  | .int k => (match mutL δ2 i with
    | some (m, ds) => (match ixN ds.length k with
      | some q => .nx (δ2.set i (some (.cl m (.lst (ds.set q d)))))
      | none => .bad)
    | none => .bad)
  | _ => .bad else .bad
theorem evs_setIx {i : Nat} (hL : L = []) (he : Ev W L .val te ge) (hi : Ev W L .any ti gi) : EvS W L (tAsg te (gSub (tVar i) ti rSetL)) (gSetIx i gi ge) := fun F δ σ H D R P => by
  refine he F δ σ H _ R (EPost.bindS P fun d δ1 v H1 G1 P1 => ?_)
  split at P1
  · rename_i hl
    obtain ⟨m0, ds0, e0⟩ := isL_some hl
    obtain ⟨x, us0, ex, _, _, _⟩ := G1.R.cellL e0
    refine ⟨.ref x, ex, hi F δ1 σ H1 _ G1.R (EPost.bindS P1 fun j δ2 u H2 G2 P2 => ?_)⟩
    have G := G1.shift G2.s G2.R
    split at P2
    · rename_i kk ek
      split at P2
      · rename_i m ds em
        obtain ⟨ec, hm⟩ := mutL_some em
        obtain ⟨a, us, ea, ha, r, kc⟩ := G2.R.cellL ec
        cases Option.some.inj (Option.some.inj (ex.symm.trans ea))
        split at P2
        · rename_i q eq
          have kd : VOk [] d := by have := G.k; rw [hL] at this; exact this
          obtain ⟨R3, s3⟩ := G2.R.put ec hm ea (o' := .lst (us.set q v)) (c' := .lst (ds.set q d)) (RepAll.set G.r q r) (.lst (VOkA.set kd q kc))
          exact ⟨x, us, kk, q, rfl, G2.R.int G2.r ek, ha, by rw [r.length]; exact eq, P2 σ _ R3 s3.s⟩
        · exact P2.elim
      · exact P2.elim
    · exact P2.elim
  · exact P1.elim
theorem ds_setIx {i : Nat} {ix : Expr} {kpos : Pos} (hL : L = []) (ho : PE X o (tVar i)) (hi : DE X W L .any ix ti gi) (he : DE X W L .val e te ge)
    (ha : ∀ v, assign (.Subscript o ix kpos) X.env v = (do
      let ov ← holding [v] (eval o X.env)
      let iv ← holding [v, ov] (eval ix X.env)
      standAt kpos
      holding [v, ov, iv] (setItem ov iv v)
      release [v, ov, iv] []) := by intro _; rfl)
    (hs : swapsWithSole [.Subscript o ix kpos] e pos.line X.env = pure false := by rfl) (hw : swappedStores [.Subscript o ix kpos] e X.env = pure none := by rfl)
    (h1 : (assignEach [.Subscript o ix kpos] X.env).map (·.2) = [assign (.Subscript o ix kpos) X.env] := by rfl) : DS X W L (.Assign [.Subscript o ix kpos] e pos) (tAsg te (gSub (tVar i) ti rSetL)) (gSetIx i gi ge) :=
  ⟨ps_asg he.pe (pg_sub ho hi.pe set_list ha) hs hw h1, evs_setIx hL he.ev hi.ev⟩

/-! ### x op= e -/
def gAug (i : Nat) (f : FS → D → D → RE) (g : GE) : GS := fun δ => match δ[i]? with
  | some (some (.fz d)) => (g δ).bindS fun e δ1 => (f δ1 d e).bindS fun z δ2 => if notCell δ2 i then .nx (δ2.set i (some (.fz z))) else .bad
  | _ => .bad
theorem evs_aug {i : Nat} {r : R2} {f : FS → D → D → RE} (hf : OpD L .any kb .val r f) (he : Ev W L kb te ge) : EvS W L (tAug i te r) (gAug i f ge) := fun F δ σ H D R P => by
  unfold gAug at P
  split at P
  · rename_i d e
    obtain ⟨x, ex, rx⟩ := R.slot i d e
    refine ⟨x, ex, he F δ σ H _ R (EPost.bindS P fun y δ1 v H1 G1 P1 => ?_)⟩
    refine hf W F δ1 σ H1 _ x v d y G1.R (G1.s.rep rx) trivial G1.r G1.k (EPost.bindS P1 fun z δ2 u H2 G2 P2 => ?_)
    split at P2
    · rename_i hn
      exact P2 _ _ (G2.R.setF hn (fun _ _ q => nomatch q) fun d' q => by cases q; exact ⟨u, rfl, G2.r, G2.k⟩) (SStp.setF hn fun _ _ q => nomatch q)
    · exact P2.elim
  · exact P.elim
theorem ds_aug {i : Nat} {x : Str} {op : Operator} {r : R2} {f : FS → D → D → RE} {pos' : Pos} (hN : X.N.Nodup) (hi : X.N[i]? = some x) (hx : Loc X.env.scope x) (he : DE X W L kb e te ge) (ho : OpR X (inplaceOp op) r) (hr : OpD L .any kb .val r f) (hf : X.fn x = true ∨ X.env.scope.names.lookup x = some .local := by first | exact .inl rfl | exact .inr rfl | assumption) :
    DS X W L (.AugAssign (.Name x pos') op e pos) (tAug i te r) (gAug i f ge) := ⟨ps_aug hN hi hx he.pe ho hf, evs_aug hr he.ev⟩

/-! ### targets -/
/-- from one state to a later one, the same cells at the same addresses -/
structure CStp (δ : FS) (σ : St) (H : Hp) (δ' : FS) (σ' : St) (H' : Hp) : Prop where
  len : δ'.length = δ.length
  cc : ∀ i, (∃ m d, IsC δ i m d) ↔ (∃ m d, IsC δ' i m d)
  at_ : ∀ i m d, IsC δ i m d → ∀ x, At σ' i x ↔ At σ i x
  mu : ∀ a, MuA δ' σ' a → MuA δ σ a
  hp : ∀ b o, H b = some o → ¬ MuA δ σ b → H' b = some o
  th : ∀ b, H b ≠ none → H' b ≠ none
theorem CStp.refl : CStp δ σ H δ σ H := ⟨rfl, fun _ => Iff.rfl, fun _ _ _ _ _ => Iff.rfl, fun _ h => h, fun _ _ h _ => h, fun _ h => h⟩
theorem CStp.trans {δ1 δ2 : FS} {σ1 σ2 : St} {H1 H2 : Hp} (a : CStp δ σ H δ1 σ1 H1) (b : CStp δ1 σ1 H1 δ2 σ2 H2) : CStp δ σ H δ2 σ2 H2 := by
  refine ⟨b.len.trans a.len, fun i => (a.cc i).trans (b.cc i), fun i m d e x => ?_, fun x h => a.mu x (b.mu x h), fun x o h n => b.hp x o (a.hp x o h n) fun q => n (a.mu x q), fun x h => b.th x (a.th x h)⟩
  obtain ⟨m1, d1, e1⟩ := (a.cc i).mp ⟨m, d, e⟩
  exact (b.at_ i m1 d1 e1 x).trans (a.at_ i m d e x)
theorem CStp.s (s : CStp δ σ H δ' σ' H') : SStp L δ σ H δ' σ' H' := ⟨fun a h => .inl (s.mu a h), s.hp, fun j _ a h => by
  rw [cA_some] at h ⊢
  obtain ⟨⟨m, d, e⟩, ea⟩ := h
  exact ⟨(s.cc j).mp ⟨m, d, e⟩, (s.at_ j m d e _).mpr ea⟩, s.th⟩
theorem Stp.c (s : Stp δ σ H δ' H') : CStp δ σ H δ' σ H' := ⟨s.len, s.cc, fun _ _ _ _ _ => Iff.rfl, s.mu, s.hp, s.th⟩
theorem CStp.stp (s : CStp δ σ H δ' σ H') : Stp δ σ H δ' H' := ⟨s.len, s.cc, s.mu, s.hp, s.th⟩
theorem CStp.setF {i : Nat} {s : Option SV} {v : Option V} (hn : notCell δ i = true) (hs : ∀ m d, s ≠ some (.cl m d)) : CStp δ σ H (δ.set i s) (σ.set i v) H :=
  ⟨List.length_set, fun j => ⟨fun ⟨m, d, e⟩ => ⟨m, d, (cell_setF hn hs).mpr e⟩, fun ⟨m, d, e⟩ => ⟨m, d, (cell_setF hn hs).mp e⟩⟩, fun j m d e x => cell_at hn e, fun a h => (MuA_setF hn hs).mp h, fun _ _ h _ => h, fun _ h => h⟩
abbrev GT := D → FS → Option FS
abbrev GTs := List D → FS → Option FS
def EvG (L : List Nat) (t : TG) (g : GT) : Prop := ∀ (F : Fr) (δ : FS) (σ : St) (H : Hp) (v : V) (d : D) (Q : St → Hp → Prop), Rel F L δ σ H → RepH F δ σ H v d → VOk L d → (match g d δ with
  | some δ' => ∀ σ' H', Rel F L δ' σ' H' → CStp δ σ H δ' σ' H' → Q σ' H'
  | none => False) → t v σ H Q
def EvGs (L : List Nat) (t : TGs) (g : GTs) : Prop := ∀ (F : Fr) (δ : FS) (σ : St) (H : Hp) (vs : List V) (ds : List D) (Q : St → Hp → Prop), Rel F L δ σ H → RepHA F δ σ H vs ds → VOkA L ds → (match g ds δ with
  | some δ' => ∀ σ' H', Rel F L δ' σ' H' → CStp δ σ H δ' σ' H' → Q σ' H'
  | none => False) → t vs σ H Q
structure DG (X : Cx) (L : List Nat) (e : Expr) (t : TG) (g : GT) : Prop where
  pg : PG X e t
  ev : EvG L t g
structure DGs (X : Cx) (L : List Nat) (e : List Expr) (t : TGs) (g : GTs) : Prop where
  pg : PGs X e t
  ev : EvGs L t g
def gtName (i : Nat) : GT := fun d δ => if notCell δ i then some (δ.set i (some (.fz d))) else none
theorem evg_name {i : Nat} : EvG L (gName i) (gtName i) := fun F δ σ H v d Q R r kd P => by
  unfold gtName at P
  split at P
  · rename_i δ' e
    split at e
    · rename_i hn
      cases e
      exact P _ _ (R.setF hn (fun _ _ q => nomatch q) fun d' q => by cases q; exact ⟨v, rfl, r, kd⟩) (CStp.setF hn fun _ _ q => nomatch q)
    · cases e
  · exact P.elim
theorem dg_name {i : Nat} {x : Str} (hN : X.N.Nodup) (hi : X.N[i]? = some x) (hx : Loc X.env.scope x) (hf : X.fn x = true ∨ X.env.scope.names.lookup x = some .local := by first | exact .inl rfl | exact .inr rfl | assumption) : DG X L (.Name x pos) (gName i) (gtName i) := ⟨pg_name hN hi hx hf, evg_name⟩
def gtNil : GTs := fun ds δ => match ds with | [] => some δ | _ => none
def gtCons (g : GT) (r : GTs) : GTs := fun ds δ => match ds with
  | d :: ds => (match g d δ with | some δ1 => r ds δ1 | none => none)
  | [] => none
theorem dgs_nil : DGs X L [] L2.gNil gtNil := ⟨pgs_nil, fun F δ σ H vs ds Q R r kd P => by
  cases r with
  | nil => exact ⟨rfl, P σ H R .refl⟩
  | cons _ _ => exact (show False from P).elim⟩
theorem dgs_cons {es : List Expr} {t : TG} {u : TGs} {g : GT} {gr : GTs} (h1 : DG X L e t g) (h2 : DGs X L es u gr) (hs : (assignEach (e :: es) X.env).map (·.2) = assign e X.env :: (assignEach es X.env).map (·.2) := by rfl) : DGs X L (e :: es) (L2.gCons t u) (gtCons g gr) :=
  ⟨pgs_cons h1.pg h2.pg hs, fun F δ σ H vs ds Q R r kd P => by
    cases r with
    | nil => exact P.elim
    | @cons v vs d ds r1 r2 =>
      cases kd with
      | cons k1 k2 =>
        refine ⟨v, vs, rfl, h1.ev F δ σ H v d _ R r1 k1 ?_⟩
        unfold gtCons at P
        simp only at P
        cases q : g d δ with
        | none => rw [q] at P; exact P.elim
        | some δ1 =>
          rw [q] at P
          intro σ1 H1 R1 s1
          refine h2.ev F δ1 σ1 H1 vs ds Q R1 (s1.s.repA k2 r2) k2 ?_
          split at P
          · rename_i δ2 e2
            simp only at e2
            rw [e2]
            exact fun σ2 H2 R2 s2 => P σ2 H2 R2 (s1.trans s2)
          · exact P.elim⟩
def gtTup (n : Nat) (r : GTs) : GT := fun d δ => match d with
  | .tup ds => if ds.length = n then r ds δ else none
  | _ => none
theorem dg_tup {es : List Expr} {kk : Nat} {t : TGs} {g : GTs} {n : Nat} (hc : X.calm = true) (h : DGs X L es t g) (hn : (assignEach es X.env).length = n := by rfl) (hst : (assignEach es X.env).findIdx? (·.1) = none := by rfl) : DG X L (.Tuple es kk pos) (L2.gTup X.K n t) (gtTup n g) :=
  ⟨pg_tup hc h.pg hn hst, fun F δ σ H v d Q R r kd P => by
    unfold gtTup at P
    cases d with
    | tup ds =>
      cases r with
      | tup h1 n1 r1 => cases kd with
        | tup k1 =>
          by_cases z : ds.length = n
          · simp only [if_pos z] at P
            exact ⟨_, _, rfl, .inl h1, by rw [r1.length]; exact z, h.ev F δ σ H _ ds Q R r1 k1 P⟩
          · simp only [if_neg z] at P
    | _ => exact P.elim⟩
def gAsg (gt : GT) (g : GE) : GS := fun δ => (g δ).bindS fun d δ1 => match gt d δ1 with
  | some δ2 => .nx δ2
  | none => .bad
theorem ds_asg {tg : Expr} {g : TG} {gt : GT} (he : DE X W L .val e te ge) (hg : DG X L tg g gt) (hs : swapsWithSole [tg] e pos.line X.env = pure false := by rfl) (hw : swappedStores [tg] e X.env = pure none := by rfl)
    (h1 : (assignEach [tg] X.env).map (·.2) = [assign tg X.env] := by rfl) : DS X W L (.Assign [tg] e pos) (tAsg te g) (gAsg gt ge) :=
  ⟨ps_asg he.pe hg.pg hs hw h1, fun F δ σ H D R P => he.ev F δ σ H _ R (EPost.bindS P fun d δ1 v H1 G P1 => hg.ev F δ1 σ H1 v d _ G.R G.r G.k (by
    cases q : gt d δ1 with
    | none => rw [q] at P1; exact P1
    | some δ2 => rw [q] at P1; exact fun σ2 H2 R2 s2 => P1 σ2 H2 R2 s2.s))⟩

/-! ### while -/
def loopW (c : GB) (b : GS) : Nat → FS → O
  | 0, _ => .bad
  | n + 1, δ => (c δ).bindS fun t δ1 => if t = true then (match b δ1 with
    | .nx δ2 => loopW c b n δ2
    | .ct δ2 => loopW c b n δ2
    | .bk δ2 => .nx δ2
    | o => o) else .nx δ1
def wFuel : Nat := 1000000000
def gWhile (c : GB) (b : GS) : GS := fun δ => loopW c b wFuel δ
variable {c : Expr} {body : List Stmt} {tc : TT} {gc : GB} {tb : TS} {gb : GS}
theorem evs_while (hc : EvB W L tc gc) (hb : EvS W L tb gb) : EvS W L (tWhile tc tb) (gWhile gc gb) := fun F δ0 σ0 H0 D R0 P0 => by
  refine ⟨fun m σ H => ∃ δ, Rel F L δ σ H ∧ SPost W F L δ σ H D (loopW gc gb m δ), ⟨wFuel, δ0, R0, P0⟩, ?_⟩
  rintro m σ H ⟨δ, R, P⟩
  cases m with
  | zero => exact P.elim
  | succ n =>
    unfold loopW at P
    refine hc F δ σ H _ R (BPost.bindS P fun t δ1 H1 R1 s1 P1 => ?_)
    cases t with
    | false => exact P1 σ H1 R1 .refl
    | true =>
      simp only [if_true] at P1 ⊢
      refine ⟨fun σ' H' => ∃ δ, Rel F L δ σ' H' ∧ SPost W F L δ σ' H' D (loopW gc gb n δ), fun σ' H' h => ⟨n, Nat.lt_succ_self n, h⟩, hb F δ1 σ H1 _ R1 ?_⟩
      cases q : gb δ1 with
      | nx δ2 =>
        rw [q] at P1
        exact fun σ2 H2 R2 s2 => ⟨δ2, R2, SPost.shift s2 P1⟩
      | ct δ2 =>
        rw [q] at P1
        exact fun σ2 H2 R2 s2 => ⟨δ2, R2, SPost.shift s2 P1⟩
      | bk δ2 =>
        rw [q] at P1
        exact P1
      | _ => rw [q] at P1; exact P1
theorem ds_while (hp : PassesOwn (model X.prog X.w) X.A X.env X.xe) (hc : DT X W L c tc gc) (hb : DSs X W L body tb gb) : DS X W L (.While c body [] pos) (tWhile tc tb) (gWhile gc gb) := ⟨ps_while hp hc.pt hb.ps, evs_while hc.ev hb.ev⟩
end
end DL

/-! DL, part k: what is walked, for, list comprehensions. -/
namespace DL
open PySem PySem.Spec PyProof.Rows L2
variable [KL]

/-- a walk J over the data ds, as long as I holds -/
structure Wk (L : List Nat) (J : It) (ds : List D) (I : Fr → FS → St → Hp → Prop) : Prop where
  kv : VOkA L ds
  go : ∀ F i δ σ H, Rel F L δ σ H → I F δ σ H → i < ds.length → J.go i H ∧ ∀ x H', J.yld i H x H' → ∃ d, ds[i]? = some d ∧ Rel F L δ σ H' ∧ CStp δ σ H δ σ H' ∧ RepH F δ σ H' x d
  stop : ∀ F δ σ H, Rel F L δ σ H → I F δ σ H → J.stop ds.length H
  step : ∀ F δ σ H δ' σ' H', I F δ σ H → SStp L δ σ H δ' σ' H' → Rel F L δ' σ' H' → I F δ' σ' H'
  and_ : ∀ F δ σ H p o, Rel F L δ σ H → I F δ σ H → H p = none → I (F.and p) δ σ (upd H p o)
  upd_ : ∀ (F : Fr) δ σ H p o, I (F.and p) δ σ H → I (F.and p) δ σ (upd H p o)
section
variable {W : WO} {F : Fr} {L : List Nat} {k ka kb : Kd} {δ δ' : FS} {σ σ' : St} {H H' : Hp} {X : Cx} {pos p : Pos} {e tg : Expr} {te ti : TE} {ge : GE} {t : TA} {ga : GA}
def IPost (W : WO) (F : Fr) (L : List Nat) (δ : FS) (σ : St) (H : Hp) (R : It → Hp → Prop) : RL → Prop
  | .ok ds δ' => ∀ J H' I, Rel F L δ' σ H' → Stp δ σ H δ' H' → Wk L J ds I → I F δ' σ H' → R J H'
  | .exn x δ' => match W with
    | none => False
    | some W => ∀ H' cls dd, Rel F L δ' σ H' → Stp δ σ H δ' H' → XRep H' x cls dd → W cls dd σ H'
  | .bad => False
theorem IPost.shift {R : It → Hp → Prop} (s : Stp δ σ H δ' H') : ∀ {r : RL}, IPost W F L δ σ H R r → IPost W F L δ' σ H' R r
  | .ok ds δ2, p => fun J H2 I R2 s2 => p J H2 I R2 (s.trans s2)
  | .exn x δ2, p => by
    cases W with
    | none => exact p
    | some W => exact fun H2 cls dd R2 s2 xr => p H2 cls dd R2 (s.trans s2) xr
  | .bad, p => p
def EvI (W : WO) (L : List Nat) (t : TI) (g : GA) : Prop := ∀ (F : Fr) (δ : FS) (σ : St) (H : Hp) (R : It → Hp → Prop), Rel F L δ σ H → IPost W F L δ σ H R (g δ) → t σ H R
structure DI (X : Cx) (W : WO) (L : List Nat) (tg e : Expr) (t : TI) (g : GA) : Prop where
  pi : PI X tg e t
  ev : EvI W L t g
theorem EPost.bindI {r : RE} {c : D → FS → RL} {R : It → Hp → Prop} {Q1 : VK} (P : IPost W F L δ σ H R (r.bindL c))
    (K : ∀ d δ' v H', Got F L ka δ σ H δ' v d H' → IPost W F L δ' σ H' R (c d δ') → Q1 v H') : EPost W F L ka δ σ H Q1 r := by
  cases r with
  | ok d δ1 => exact fun v H1 R1 s1 r1 k1 => K d δ1 v H1 ⟨R1, s1, r1, k1⟩ (IPost.shift s1 P)
  | own d δ1 => exact fun p H1 o R1 s1 hp ob k1 => K d δ1 _ _ ⟨R1.laid hp, s1.laid hp, own_rep R1 hp ob, k1⟩ (IPost.shift (s1.laid hp) P)
  | exn x δ1 => exact P
  | bad => exact P
  | ownT xs ds ys δ1 => exact EPost.fgt fun v H1 R1 s1 r1 k1 => K _ δ1 v H1 ⟨R1, s1, r1, k1⟩ (IPost.shift s1 P)
theorem APost.bindI {r : RL} {c : List D → FS → RL} {R : It → Hp → Prop} {Q1 : List V → Hp → Prop} (P : IPost W F L δ σ H R (r.bindL c))
    (K : ∀ ds δ' vs H', GotA F L ka δ σ H δ' vs ds H' → IPost W F L δ' σ H' R (c ds δ') → Q1 vs H') : APost W F L ka δ σ H Q1 r := by
  cases r with
  | ok d δ1 => exact fun v H1 R1 s1 r1 k1 => K d δ1 v H1 ⟨R1, s1, r1, k1⟩ (IPost.shift s1 P)
  | exn x δ1 => exact P
  | bad => exact P

/-! ### range -/
def rngL (lo c : Int) : Nat → List D
  | 0 => []
  | n + 1 => .int lo :: rngL (lo + c) c n
theorem rngL_length (lo c : Int) : ∀ n, (rngL lo c n).length = n
  | 0 => rfl
  | n + 1 => congrArg (· + 1) (rngL_length (lo + c) c n)
theorem rngL_get (c : Int) : ∀ (n i : Nat) (lo : Int), i < n → (rngL lo c n)[i]? = some (.int (lo + (i : Nat) * c))
  | n + 1, 0, lo, _ => by simp [rngL]
  | n + 1, i + 1, lo, h => by
    have ih := rngL_get c n i (lo + c) (by omega)
    show (rngL (lo + c) c n)[i]? = _
    rw [ih]
    congr 2
    rw [Int.natCast_succ, Int.add_mul]
    omega
theorem rngL_vok (c : Int) : ∀ (n : Nat) (lo : Int), VOkA L (rngL lo c n)
  | 0, _ => .nil
  | n + 1, lo => .cons (.int lo) (rngL_vok c n (lo + c))
theorem wk_rng (lo : Int) (n : Nat) : Wk L (Itr lo n) (rngL lo 1 n) (fun _ _ _ _ => True) where
  kv := rngL_vok 1 n lo
  go := fun F i δ σ H R _ hi => by
    rw [rngL_length] at hi
    refine ⟨hi, fun x H' y => ?_⟩
    obtain ⟨rfl, rfl⟩ := y
    exact ⟨_, rngL_get 1 n i lo hi, R, .refl, by rw [Int.mul_one]; exact .int _⟩
  stop := fun F δ σ H R _ => by rw [rngL_length]; exact Nat.le_refl n
  step := fun _ _ _ _ _ _ _ _ _ _ => trivial
  and_ := fun _ _ _ _ _ _ _ _ _ => trivial
  upd_ := fun _ _ _ _ _ _ _ => trivial
theorem wk_rngC (lo c : Int) (n : Nat) : Wk L (Itc lo c n) (rngL lo c n) (fun _ _ _ _ => True) where
  kv := rngL_vok c n lo
  go := fun F i δ σ H R _ hi => by
    rw [rngL_length] at hi
    refine ⟨hi, fun x H' y => ?_⟩
    obtain ⟨rfl, rfl⟩ := y
    exact ⟨_, rngL_get c n i lo hi, R, .refl, .int _⟩
  stop := fun F δ σ H R _ => by rw [rngL_length]; exact Nat.le_refl n
  step := fun _ _ _ _ _ _ _ _ _ _ => trivial
  and_ := fun _ _ _ _ _ _ _ _ _ => trivial
  upd_ := fun _ _ _ _ _ _ _ => trivial
def rngOk (i : Int) : Bool := decide (-16777216 ≤ i) && decide (i ≤ 16777216)
theorem rngOk_ok {i : Int} (h : rngOk i = true) : -16777216 ≤ i ∧ i ≤ 16777216 := by
  unfold rngOk at h
  simpa using h
/-- three whole numbers out of one, two, three -/
def int1 (δ : FS) (ds : List D) (c : Int → RL) : RL := match ds with
  | [a] => (match top δ a with
    | .int j => if rngOk j then c j else .bad
    | _ => .bad)
  | _ => .bad
def int2 (δ : FS) (ds : List D) (c : Int → Int → RL) : RL := match ds with
  | a :: r => (match top δ a with
    | .int i => if rngOk i then int1 δ r (c i) else .bad
    | _ => .bad)
  | _ => .bad
def int3 (δ : FS) (ds : List D) (c : Int → Int → Int → RL) : RL := match ds with
  | a :: r => (match top δ a with
    | .int i => if rngOk i then int2 δ r (c i) else .bad
    | _ => .bad)
  | _ => .bad
theorem int1_ok {R : It → Hp → Prop} {ds : List D} {vs : List V} {c : Int → RL} (R0 : Rel F L δ σ H) (r : RepHA F δ σ H vs ds) (P : IPost W F L δ σ H R (int1 δ ds c)) : ∃ j, vs = [.int j] ∧ (-16777216 ≤ j ∧ j ≤ 16777216) ∧ IPost W F L δ σ H R (c j) := by
  unfold int1 at P
  split at P
  · cases r with
    | cons r r' =>
      cases r'
      split at P
      · rename_i j e
        split at P
        · rename_i z
          exact ⟨j, by rw [R0.int r e], rngOk_ok z, P⟩
        · exact P.elim
      · exact P.elim
  · exact P.elim
theorem int2_ok {R : It → Hp → Prop} {ds : List D} {vs : List V} {c : Int → Int → RL} (R0 : Rel F L δ σ H) (r : RepHA F δ σ H vs ds) (P : IPost W F L δ σ H R (int2 δ ds c)) : ∃ i j, vs = [.int i, .int j] ∧ (-16777216 ≤ i ∧ i ≤ 16777216) ∧ (-16777216 ≤ j ∧ j ≤ 16777216) ∧ IPost W F L δ σ H R (c i j) := by
  unfold int2 at P
  split at P
  · cases r with
    | cons r r' =>
      split at P
      · rename_i i e
        split at P
        · rename_i z
          obtain ⟨j, rfl, z2, P2⟩ := int1_ok R0 r' P
          exact ⟨i, j, by rw [R0.int r e], rngOk_ok z, z2, P2⟩
        · exact P.elim
      · exact P.elim
  · exact P.elim
theorem int3_ok {R : It → Hp → Prop} {ds : List D} {vs : List V} {c : Int → Int → Int → RL} (R0 : Rel F L δ σ H) (r : RepHA F δ σ H vs ds) (P : IPost W F L δ σ H R (int3 δ ds c)) : ∃ i j l, vs = [.int i, .int j, .int l] ∧ (-16777216 ≤ i ∧ i ≤ 16777216) ∧ (-16777216 ≤ j ∧ j ≤ 16777216) ∧ (-16777216 ≤ l ∧ l ≤ 16777216) ∧ IPost W F L δ σ H R (c i j l) := by
  unfold int3 at P
  split at P
  · cases r with
    | cons r r' =>
      split at P
      · rename_i i e
        split at P
        · rename_i z
          obtain ⟨j, l, rfl, z2, z3, P2⟩ := int2_ok R0 r' P
          exact ⟨i, j, l, by rw [R0.int r e], rngOk_ok z, z2, z3, P2⟩
        · exact P.elim
      · exact P.elim
  · exact P.elim
def gRng1 (a : GA) : GA := fun δ => (a δ).bindL fun ds δ1 => int1 δ1 ds fun j => .ok (rngL 0 1 j.toNat) δ1
def gRng2 (a : GA) : GA := fun δ => (a δ).bindL fun ds δ1 => int2 δ1 ds fun i j => .ok (rngL i 1 (j - i).toNat) δ1
/-- steps of a positive width -/
def gRng3 (a : GA) : GA := fun δ => (a δ).bindL fun ds δ1 => int3 δ1 ds fun i j c => if 0 < c then .ok (rngL i c (if i < j then (j - i - 1) / c + 1 else 0).toNat) δ1 else .bad
theorem di_rng1 {a : Expr} (hg : Gl X "range") (hm : X.mg "range" = none) (ha : DA X W L .any [a] t ga) (hs : starEach [a] X.env = [(false, eval a X.env)] := by rfl) : DI X W L tg (.Call (.Name "range" p) [a] [] pos) (iRng1 t) (gRng1 ga) :=
  ⟨pi_range1 hg hm ha.pa hs, fun F δ σ H R R0 P => ha.ev F δ σ H _ R0 (APost.bindI P fun ds δ1 vs H1 G P1 => by
    obtain ⟨j, rfl, z, P2⟩ := int1_ok G.R G.r P1
    exact ⟨j, rfl, by omega, by omega, P2 _ _ _ G.R .refl (wk_rng 0 j.toNat) trivial⟩)⟩
theorem di_rng2 {a b : Expr} (hg : Gl X "range") (hm : X.mg "range" = none) (ha : DA X W L .any [a, b] t ga) (hs : starEach [a, b] X.env = [(false, eval a X.env), (false, eval b X.env)] := by rfl) (hs2 : starEach [b] X.env = [(false, eval b X.env)] := by rfl) : DI X W L tg (.Call (.Name "range" p) [a, b] [] pos) (iRng2 t) (gRng2 ga) :=
  ⟨pi_range2 hg hm ha.pa hs hs2, fun F δ σ H R R0 P => ha.ev F δ σ H _ R0 (APost.bindI P fun ds δ1 vs H1 G P1 => by
    obtain ⟨i, j, rfl, z, z2, P2⟩ := int2_ok G.R G.r P1
    exact ⟨i, j, rfl, ⟨by omega, by omega, by omega, by omega⟩, P2 _ _ _ G.R .refl (wk_rng i (j - i).toNat) trivial⟩)⟩
theorem small_pos {i j c : Int} (hi : -16777216 ≤ i ∧ i ≤ 16777216) (hj : -16777216 ≤ j ∧ j ≤ 16777216) (hc : 0 < c ∧ c ≤ 16777216) : RgC i j c (if i < j then (j - i - 1) / c + 1 else 0).toNat := by
  have hz : Builtin.Range.rangeSize i j c = (if i < j then (j - i - 1) / c + 1 else 0) := by
    unfold Builtin.Range.rangeSize
    rw [if_pos hc.1]
  have hn : 0 ≤ (if i < j then (j - i - 1) / c + 1 else 0) ∧ (if i < j then (j - i - 1) / c + 1 else 0) ≤ 33554433 := by
    split
    · have h1 : 0 ≤ (j - i - 1) / c := Int.ediv_nonneg (by omega) (by omega)
      have h2 : (j - i - 1) / c ≤ j - i - 1 := Int.ediv_le_self _ (by omega)
      omega
    · omega
  refine ⟨by omega, by omega, ?_, by rw [hz]; omega⟩
  have hm : 0 ≤ (if i < j then (j - i - 1) / c + 1 else 0) * c ∧ (if i < j then (j - i - 1) / c + 1 else 0) * c ≤ 100000000 := by
    split
    · have h1 : 0 ≤ (j - i - 1) / c := Int.ediv_nonneg (by omega) (by omega)
      have h3 : (j - i - 1) / c * c ≤ j - i - 1 := Int.ediv_mul_le _ (by omega)
      have h4 : 0 ≤ (j - i - 1) / c * c := Int.mul_nonneg h1 (by omega)
      rw [Int.add_mul]
      omega
    · omega
  unfold Builtin.Range.small
  rw [hz]
  simp only [Builtin.Range.rangeFitsLong, Bool.and_eq_true, Bool.or_eq_true, decide_eq_true_eq, beq_iff_eq, hc.1, if_true]
  omega
theorem di_rng3 {a b c : Expr} (hg : Gl X "range") (hm : X.mg "range" = none) (ha : DA X W L .any [a, b, c] t ga) (hs : starEach [a, b, c] X.env = (false, eval a X.env) :: starEach [b, c] X.env := by rfl) (hpl : (backTo pos (starEach [b, c] X.env)).any (·.1) = false := by rfl) : DI X W L tg (.Call (.Name "range" p) [a, b, c] [] pos) (iRng3 t) (gRng3 ga) :=
  ⟨pi_range3 hg hm ha.pa hs hpl, fun F δ σ H R R0 P => ha.ev F δ σ H _ R0 (APost.bindI P fun ds δ1 vs H1 G P1 => by
    obtain ⟨i, j, c, rfl, z, z2, z3, P2⟩ := int3_ok G.R G.r P1
    split at P2
    · rename_i hc
      exact ⟨i, j, c, _, rfl, small_pos z z2 ⟨hc, z3.2⟩, P2 _ _ _ G.R .refl (wk_rngC i c _) trivial⟩
    · exact P2.elim)⟩
end
end DL

/-! DL, part l: lists, tuples walked; enumerate, zip; for. -/
namespace DL
open PySem PySem.Spec PyProof.Rows L2
variable [KL]

section
variable {W : WO} {F : Fr} {L : List Nat} {k ka kb : Kd} {δ δ' : FS} {σ σ' : St} {H H' : Hp} {X : Cx} {pos p : Pos} {e tg : Expr} {te ti : TE} {ge : GE} {t : TA} {ga : GA}
/-! ### a list that stands still -/
structure Fz (F : Fr) (L : List Nat) (δ : FS) (σ : St) (H : Hp) (a : Addr) (us : List V) (ds : List D) (u : HO) : Prop where
  rd : Rd H a u
  nm : ¬ MA F δ σ a
  rp : RepHA F δ σ H us ds
  kv : VOkA L ds
theorem Fz.step {a : Addr} {us : List V} {ds : List D} {u : HO} (z : Fz F L δ σ H a us ds u) (s : SStp L δ σ H δ' σ' H') : Fz F L δ' σ' H' a us ds u :=
  ⟨Rd.keep z.rd fun o e => s.hp a o e fun q => z.nm (.inr q), fun q => q.elim (fun q => z.nm (.inl q)) fun q => (s.mu a q).elim (fun q => z.nm (.inr q)) fun q => Rd.there z.rd q, s.repA z.kv z.rp, z.kv⟩
theorem Fz.and_ {a : Addr} {us : List V} {ds : List D} {u : HO} (z : Fz F L δ σ H a us ds u) {p : Addr} {o : HO} (hp : H p = none) : Fz (F.and p) L δ σ (upd H p o) a us ds u := by
  have ne : ∀ b, H b ≠ none → b ≠ p := fun b h q => h (by rw [q]; exact hp)
  refine ⟨Rd.keep z.rd fun o e => by rw [upd_ne (ne_of_none e hp)]; exact e, fun q => ?_, z.rp.mono (fun b o e _ => by rw [upd_ne (ne_of_none e hp)]; exact e) (fun _ _ h => h) (fun b h n q => ?_), z.kv⟩
  · rcases MA_and.mp q with q | q
    · exact z.nm q
    · exact ne a (Rd.there z.rd) q
  · rcases MA_and.mp q with q | q
    · exact n q
    · exact ne b h q
theorem Fz.upd_ {a : Addr} {us : List V} {ds : List D} {u : HO} {p : Addr} (z : Fz (F.and p) L δ σ H a us ds u) {o : HO} : Fz (F.and p) L δ σ (upd H p o) a us ds u := by
  have ne : ∀ b, ¬ MA (F.and p) δ σ b → b ≠ p := fun b h q => h (MA_and.mpr (.inr q))
  exact ⟨Rd.keep z.rd fun o e => by rw [upd_ne (ne a z.nm)]; exact e, z.nm, z.rp.mono (fun b o e n => by rw [upd_ne (ne b n)]; exact e) (fun _ _ h => h) (fun b h n q => n q), z.kv⟩
theorem rep_at {a b : List V} {ds : List D} {i : Nat} {x : V} (r : RepHA F δ σ H a ds) (hi : i < ds.length) (hx : a[i]? = some x) : ∃ d, ds[i]? = some d ∧ RepH F δ σ H x d := by
  obtain ⟨v, hv, rv⟩ := r.get (List.getElem?_eq_getElem hi)
  rw [hx] at hv
  cases hv
  exact ⟨_, List.getElem?_eq_getElem hi, rv⟩
theorem some_at {us : List V} {ds : List D} {i : Nat} (r : RepHA F δ σ H us ds) (hi : i < ds.length) : ∃ x, us[i]? = some x := by
  have : i < us.length := by rw [r.length]; exact hi
  exact ⟨_, List.getElem?_eq_getElem this⟩
theorem wk_lst {K : PySem.W.Frag} {a : Addr} {us : List V} {ds : List D} (kv : VOkA L ds) : Wk L (Itl K a) ds (fun F δ σ H => Fz F L δ σ H a us ds (.lst us)) where
  kv := kv
  go := fun F i δ σ H R z hi => by
    obtain ⟨x, hx⟩ := some_at z.rp hi
    refine ⟨⟨us, x, .inl z.rd, hx⟩, fun y H' q => ?_⟩
    obtain ⟨rfl, q⟩ := q
    obtain ⟨d, hd, r⟩ := rep_at (b := us) z.rp hi (q us (.inl z.rd))
    exact ⟨d, hd, R, .refl, r⟩
  stop := fun F δ σ H R z => ⟨us, .inl z.rd, Nat.le_of_eq z.rp.length⟩
  step := fun F δ σ H δ' σ' H' z s _ => z.step s
  and_ := fun F δ σ H p o R z hp => z.and_ hp
  upd_ := fun F δ σ H p o z => z.upd_
theorem wk_tup {K : PySem.W.Frag} {a : Addr} {us : List V} {ds : List D} (kv : VOkA L ds) : Wk L (Itt K a) ds (fun F δ σ H => Fz F L δ σ H a us ds (.tup us)) where
  kv := kv
  go := fun F i δ σ H R z hi => by
    obtain ⟨x, hx⟩ := some_at z.rp hi
    refine ⟨⟨us, x, .inl z.rd, hx⟩, fun y H' q => ?_⟩
    obtain ⟨rfl, q⟩ := q
    obtain ⟨d, hd, r⟩ := rep_at (b := us) z.rp hi (q us (.inl z.rd))
    exact ⟨d, hd, R, .refl, r⟩
  stop := fun F δ σ H R z => ⟨us, .inl z.rd, Nat.le_of_eq z.rp.length⟩
  step := fun F δ σ H δ' σ' H' z s _ => z.step s
  and_ := fun F δ σ H p o R z hp => z.and_ hp
  upd_ := fun F δ σ H p o z => z.upd_
def enumL : Nat → List D → List D
  | _, [] => []
  | i, d :: ds => .tup [.int i, d] :: enumL (i + 1) ds
theorem enumL_length : ∀ (i : Nat) (ds : List D), (enumL i ds).length = ds.length
  | _, [] => rfl
  | i, _ :: ds => congrArg (· + 1) (enumL_length (i + 1) ds)
theorem enumL_get : ∀ (i j : Nat) (ds : List D) (d : D), ds[j]? = some d → (enumL i ds)[j]? = some (.tup [.int ((i + j : Nat) : Int), d])
  | i, 0, x :: ds, d, h => by cases h; rfl
  | i, j + 1, x :: ds, d, h => by
    have ih := enumL_get (i + 1) j ds d h
    show (enumL (i + 1) ds)[j]? = _
    rw [ih, show i + 1 + j = i + (j + 1) by omega]
theorem enumL_vok : ∀ {ds : List D} (i : Nat), VOkA L ds → VOkA L (enumL i ds)
  | _, _, .nil => .nil
  | _, i, .cons a b => .cons (.tup (.cons (.int _) (.cons a .nil))) (enumL_vok (i + 1) b)
/-- a tuple just laid -/
theorem tup_new {T : Addr} {xs : List V} {ds : List D} (R : Rel F L δ σ H) (hT : H T = none) (r : RepHA F δ σ H xs ds) : Rel F L δ σ (upd H T (.tup xs)) ∧ CStp δ σ H δ σ (upd H T (.tup xs)) ∧ RepH F δ σ (upd H T (.tup xs)) (.ref T) (.tup ds) :=
  ⟨R.laid hT, (Stp.refl.laid hT).c, .tup (.of upd_same) (R.fresh hT) (repAll_upd hT r)⟩
theorem wk_enum {K : PySem.W.Frag} {a : Addr} {us : List V} {ds : List D} (kv : VOkA L ds) : Wk L (Ite K a) (enumL 0 ds) (fun F δ σ H => Fz F L δ σ H a us ds (.lst us)) where
  kv := enumL_vok 0 kv
  go := fun F i δ σ H R z hi => by
    rw [enumL_length] at hi
    obtain ⟨x, hx⟩ := some_at z.rp hi
    refine ⟨⟨us, x, .inl z.rd, hx⟩, fun y H' q => ?_⟩
    obtain ⟨T, v, rfl, hT, rfl, q⟩ := q
    obtain ⟨d, hd, r⟩ := rep_at (b := us) z.rp hi (q us (.inl z.rd))
    obtain ⟨r1, r2, r3⟩ := tup_new R hT (.cons (.int (i : Nat)) (.cons r .nil))
    have e := enumL_get 0 i ds d hd
    rw [Nat.zero_add] at e
    exact ⟨_, e, r1, r2, r3⟩
  stop := fun F δ σ H R z => ⟨us, .inl z.rd, by rw [enumL_length]; exact Nat.le_of_eq z.rp.length⟩
  step := fun F δ σ H δ' σ' H' z s _ => z.step s
  and_ := fun F δ σ H p o R z hp => z.and_ hp
  upd_ := fun F δ σ H p o z => z.upd_
def zipL : List D → List D → List D
  | a :: r, b :: s => .tup [a, b] :: zipL r s
  | _, _ => []
theorem zipL_get : ∀ (j : Nat) (xs ys : List D) (d e : D), xs[j]? = some d → ys[j]? = some e → (zipL xs ys)[j]? = some (.tup [d, e])
  | 0, x :: xs, y :: ys, d, e, h, h' => by cases h; cases h'; rfl
  | j + 1, x :: xs, y :: ys, d, e, h, h' => zipL_get j xs ys d e h h'
  | _, [], _, _, _, h, _ => by cases h
  | _, _ :: _, [], _, _, _, h => by cases h
theorem zipL_length : ∀ (xs ys : List D), (zipL xs ys).length = min xs.length ys.length
  | [], ys => by simp [zipL]
  | _ :: _, [] => by simp [zipL]
  | _ :: xs, _ :: ys => by
    have ih := zipL_length xs ys
    simp only [zipL, List.length_cons, ih]
    omega
theorem zipL_vok : ∀ {xs ys : List D}, VOkA L xs → VOkA L ys → VOkA L (zipL xs ys)
  | _, _, .nil, _ => .nil
  | _, _, .cons _ _, .nil => .nil
  | _, _, .cons a b, .cons c d => .cons (.tup (.cons a (.cons c .nil))) (zipL_vok b d)
theorem wk_zip {K : PySem.W.Frag} {a b : Addr} {us ws : List V} {ds es : List D} (kv : VOkA L ds) (kw : VOkA L es) : Wk L (Itz K a b) (zipL ds es) (fun F δ σ H => Fz F L δ σ H a us ds (.lst us) ∧ Fz F L δ σ H b ws es (.lst ws)) where
  kv := zipL_vok kv kw
  go := fun F i δ σ H R z hi => by
    rw [zipL_length] at hi
    obtain ⟨z1, z2⟩ := z
    have h1 : i < ds.length := by omega
    have h2 : i < es.length := by omega
    obtain ⟨x, hx⟩ := some_at z1.rp h1
    obtain ⟨y, hy⟩ := some_at z2.rp h2
    refine ⟨⟨us, ws, x, y, .inl z1.rd, .inl z2.rd, hx, hy⟩, fun v H' q => ?_⟩
    obtain ⟨T, x', y', rfl, hT, rfl, q1, q2⟩ := q
    obtain ⟨d, hd, r⟩ := rep_at (b := us) z1.rp h1 (q1 us (.inl z1.rd))
    obtain ⟨d', hd', r'⟩ := rep_at (b := ws) z2.rp h2 (q2 ws (.inl z2.rd))
    obtain ⟨r1, r2, r3⟩ := tup_new R hT (.cons r (.cons r' .nil))
    exact ⟨_, zipL_get i ds es d d' hd hd', r1, r2, r3⟩
  stop := fun F δ σ H R z => by
    refine ⟨us, ws, .inl z.1.rd, .inl z.2.rd, ?_⟩
    rw [zipL_length, z.1.rp.length, z.2.rp.length]
    omega
  step := fun F δ σ H δ' σ' H' z s _ => ⟨z.1.step s, z.2.step s⟩
  and_ := fun F δ σ H p o R z hp => ⟨z.1.and_ hp, z.2.and_ hp⟩
  upd_ := fun F δ σ H p o z => ⟨z.1.upd_, z.2.upd_⟩

/-! ### a list to be walked: a cell is locked for good -/
def frz (δ : FS) (d : D) : Option (List D × FS) := match d with
  | .lst ds => some (ds, δ)
  | .var i => (match δ[i]? with
    | some (some (.cl .ro (.lst ds))) => some (ds, δ)
    | some (some (.cl .mu (.lst ds))) => some (ds, δ.set i (some (.cl .ro (.lst ds))))
    | _ => none)
  | _ => none
theorem Rel.lock {i : Nat} {d : D} (R : Rel F L δ σ H) (e : IsC δ i .mu d) : Rel F L (δ.set i (some (.cl .ro d))) σ H ∧ Stp δ σ H (δ.set i (some (.cl .ro d))) H := by
  have iδ : i < δ.length := (List.getElem?_eq_some_iff.mp e).1
  have ci : IsC (δ.set i (some (.cl .ro d))) i .ro d := List.getElem?_set_self iδ
  have cs : ∀ {j m c}, j ≠ i → (IsC (δ.set i (some (.cl .ro d))) j m c ↔ IsC δ j m c) := fun {j m c} q => by
    show (δ.set i _)[j]? = _ ↔ _
    rw [List.getElem?_set_ne (Ne.symm q)]
  have cu : ∀ {m c}, IsC (δ.set i (some (.cl .ro d))) i m c → m = .ro ∧ c = d := fun {m c} h => by
    have h := Option.some.inj (Option.some.inj (ci.symm.trans h))
    cases h
    exact ⟨rfl, rfl⟩
  have fs : ∀ {j c}, IsF (δ.set i (some (.cl .ro d))) j c → IsF δ j c := fun {j c} h => by
    have q : j ≠ i := fun q => by
      subst q
      exact nomatch (Option.some.inj (Option.some.inj (ci.symm.trans h)))
    have h : (δ.set i _)[j]? = _ := h
    rw [List.getElem?_set_ne (Ne.symm q)] at h
    exact h
  have back : ∀ {j m c}, IsC (δ.set i (some (.cl .ro d))) j m c → ∃ m', IsC δ j m' c ∧ (m ≠ .ro → m' = m) := fun {j m c} h => by
    by_cases q : j = i
    · subst q
      obtain ⟨rfl, rfl⟩ := cu h
      exact ⟨.mu, e, fun z => (z rfl).elim⟩
    · exact ⟨m, (cs q).mp h, fun _ => rfl⟩
  have cc : ∀ j, (∃ m c, IsC δ j m c) ↔ ∃ m c, IsC (δ.set i (some (.cl .ro d))) j m c := fun j => by
    by_cases q : j = i
    · subst q; exact ⟨fun _ => ⟨_, _, ci⟩, fun _ => ⟨_, _, e⟩⟩
    · exact ⟨fun ⟨m, c, h⟩ => ⟨m, c, (cs q).mpr h⟩, fun ⟨m, c, h⟩ => ⟨m, c, (cs q).mp h⟩⟩
  have mu : ∀ a, MuA (δ.set i (some (.cl .ro d))) σ a → MuA δ σ a := fun a ⟨j, m, c, h, n, ea⟩ => by
    obtain ⟨m', h', hm⟩ := back h
    exact ⟨j, m', c, h', by rw [hm n]; exact n, ea⟩
  have s : Stp δ σ H (δ.set i (some (.cl .ro d))) H := ⟨List.length_set, cc, mu, fun _ _ h _ => h, fun _ h => h⟩
  refine ⟨⟨by rw [List.length_set]; exact R.len, fun j c h => ?_, fun j c h => R.vok j c (fs h), fun j m c h => ?_, fun j m c h => ?_, fun j l m c m' c' a h1 h2 h3 h4 => ?_, R.keep, R.avt, R.bt, fun j a hb => ?_, fun j m c a h hm ha => ?_⟩, s⟩
  · obtain ⟨v, ev, r⟩ := R.slot j c (fs h)
    exact ⟨v, ev, s.rep r⟩
  · obtain ⟨m', h', hm⟩ := back h
    obtain ⟨a, o, ea, ho, ob, z1, z2⟩ := R.cell j m' c h'
    refine ⟨a, o, ea, ho, ob.mono (fun _ _ h _ => h) (fun _ _ h => s.cA h) (fun _ _ n q => n (s.MA q)), fun z => ?_, fun z => ?_⟩
    · exact z1 ((hm (by rw [z]; decide)).trans z)
    · exact z2 ((hm (by rw [z]; decide)).trans z)
  · obtain ⟨m', h', _⟩ := back h
    exact R.cok j m' c h'
  · obtain ⟨n1, g1, _⟩ := back h1
    obtain ⟨n2, g2, _⟩ := back h2
    exact R.dist j l n1 c n2 c' a g1 g2 h3 h4
  · obtain ⟨c, h, ea⟩ := R.bor j a hb
    have q : j ≠ i := fun q => by
      subst q
      have := Option.some.inj (Option.some.inj (e.symm.trans h))
      cases this
    exact ⟨c, (cs q).mpr h, ea⟩
  · obtain ⟨m', h', hm'⟩ := back h
    refine R.avm j m' c a h' (fun z => ?_) ha
    subst z
    by_cases q : j = i
    · subst q
      cases Option.some.inj (Option.some.inj (e.symm.trans h'))
    · cases Option.some.inj (Option.some.inj (((cs q).mp h).symm.trans h'))
      exact hm rfl
theorem frz_ok {v : V} {d : D} {ds : List D} (R : Rel F L δ σ H) (r : RepH F δ σ H v d) (K : KOk L .itm δ d) (e : frz δ d = some (ds, δ')) :
    ∃ a us, v = .ref a ∧ Rel F L δ' σ H ∧ Stp δ σ H δ' H ∧ Fz F L δ' σ H a us ds (.lst us) := by
  cases d with
  | lst xs =>
    cases e
    cases r with
    | lst h n ra =>
      cases (show VOk L (.lst ds) from K) with
      | lst kv => exact ⟨_, _, rfl, R, .refl, h, n, ra, kv⟩
  | var i =>
    obtain ⟨m, c, a, o, ec, rfl, ea, ho, ob⟩ := top_cell R r
    have kc := R.cok i m c ec
    have kl : VOk L c := kc.mono fun _ h => absurd h List.not_mem_nil
    have nMA : ∀ {δ2 : FS}, (∀ j m' c', IsC δ2 j m' c' → m' ≠ .ro → IsC δ j m' c' ∧ j ≠ i) → ¬ F.Av a → ¬ MA F δ2 σ a := fun {δ2} hb hv q => by
      rcases q with q | ⟨j, m', c', h, n, hb'⟩
      · exact hv q
      · obtain ⟨h, q⟩ := hb j m' c' h n
        exact q (R.dist j i m' c' m c a h ec hb' ea)
    unfold frz at e
    simp only at e
    split at e
    · rename_i xs e1
      cases e
      have q := Option.some.inj (Option.some.inj (e1.symm.trans ec))
      cases q
      cases o with
      | lst us =>
        cases kl with
        | lst kv =>
          refine ⟨a, us, rfl, R, .refl, .of ho, nMA (fun j m' c' h n => ⟨h, fun q => ?_⟩) (R.avm i _ _ a ec (by decide) ea), ob, kv⟩
          subst q
          cases Option.some.inj (Option.some.inj (ec.symm.trans h))
          exact n rfl
      | _ => exact ob.elim
    · rename_i xs e1
      cases e
      have q := Option.some.inj (Option.some.inj (e1.symm.trans ec))
      cases q
      cases o with
      | lst us =>
        cases kl with
        | lst kv =>
          obtain ⟨R2, s2⟩ := R.lock ec
          have iδ : i < δ.length := (List.getElem?_eq_some_iff.mp ec).1
          refine ⟨a, us, rfl, R2, s2, .of ho, nMA (fun j m' c' h n => ?_) (R.avm i _ _ a ec (by decide) ea), RepAll.mono (fun _ _ h _ => h) (fun _ _ h => s2.cA h) (fun _ _ n q => n (s2.MA q)) ob, kv⟩
          have q : j ≠ i := fun q => by
            subst q
            have h : (δ.set j _)[j]? = _ := h
            rw [List.getElem?_set_self iδ] at h
            cases Option.some.inj (Option.some.inj h)
            exact n rfl
          have h : (δ.set i _)[j]? = _ := h
          rw [List.getElem?_set_ne (Ne.symm q)] at h
          exact ⟨h, q⟩
      | _ => exact ob.elim
    · cases e
  | _ => cases e
/-- for x in e: a list or a tuple -/
def gSeqI (g : GE) : GA := fun δ => (g δ).bindL fun d δ1 => match d with
  | .tup ds => .ok ds δ1
  | d => (match frz δ1 d with | some (ds, δ2) => .ok ds δ2 | none => .bad)
def iSeq (K : PySem.W.Frag) (tl : TE) : TI := fun σ H R => tl σ H fun x H1 => ∃ a, x = .ref a ∧ (((∃ xs, SqL K H1 a xs) ∧ R (Itl K a) H1) ∨ ((∃ xs, SqT K H1 a xs) ∧ R (Itt K a) H1))
theorem pi_seq {l : Expr} {tl : TE} (hl : PE X l tl) : PI X tg l (iSeq X.K tl) := by
  constructor
  intro pins s σ H R I h
  refine thn (hl.run pins s σ H _ I h) ?_
  rintro v s1 ⟨x, H1, I1, r1, a, rfl, q⟩
  cases r1
  have new : ∀ {it : Obj}, Inv X pins σ H1 { s1 with heap := s1.heap.push it } := fun {it} => I1.kept (t' := s1.toks) fun b o e => Heap.get?_push_of_some _ e
  have fp : ∀ b ∈ [s1.heap.objs.size], FpOk X pins H1 b := fun b hb => by
    rw [List.mem_singleton] at hb
    subst hb
    exact I1.fpOk (Nat.le_refl _) (I1.hok.fresh (Nat.le_refl _))
  rcases q with ⟨⟨xs, hq⟩, q⟩ | ⟨⟨xs, hq⟩, q⟩
  · obtain ⟨its, rv, pl, _⟩ := I1.list hq
    exact wpAny_pyIter_list pl.isList ⟨_, _, _, _, H1, rfl, new, turn_list a _, ⟨_, Heap.get?_push_size _ rfl, rfl, rfl⟩, fp, q⟩
  · obtain ⟨its, rv, pl, _⟩ := I1.tuple hq
    exact wpAny_pyIter_tuple (show s1.heap.IsTuple a its.toArray from pl) ⟨_, _, _, _, H1, rfl, new, turn_tuple a _, ⟨_, Heap.get?_push_size _ rfl, rfl, rfl⟩, fp, q⟩
theorem di_seq (h : DE X W L .itm e te ge) : DI X W L tg e (iSeq X.K te) (gSeqI ge) :=
  ⟨pi_seq h.pe, fun F δ σ H R R0 P => h.ev F δ σ H _ R0 (EPost.bindI P fun d δ1 v H1 G P1 => by
    split at P1
    · rename_i ds
      have hr := G.r
      cases hr with
      | @tup a us _ h1 n r =>
        cases (show VOk L (.tup ds) from G.k) with
        | tup kv => exact ⟨a, rfl, .inr ⟨⟨us, .inl h1⟩, P1 _ _ _ G.R .refl (wk_tup kv) ⟨h1, n, r, kv⟩⟩⟩
    · split at P1
      · rename_i ds δ2 e2
        obtain ⟨a, us, rfl, R2, s2, z⟩ := frz_ok G.R G.r G.k e2
        exact ⟨a, rfl, .inl ⟨⟨us, .inl z.rd⟩, P1 _ _ _ R2 s2 (wk_lst z.kv) z⟩⟩
      · exact P1.elim)⟩
def gEnum (a : GA) : GA := fun δ => (a δ).bindL fun ds δ1 => match ds with
  | [d] => (match frz δ1 d with | some (xs, δ2) => .ok (enumL 0 xs) δ2 | none => .bad)
  | _ => .bad
theorem di_enum {tpos : Pos} {elts : List Expr} {kk : Nat} (hg : Gl X "enumerate") (hm : X.mg "enumerate" = none) (ha : DA X W L .itm [e] t ga) (hs : starEach [e] X.env = [(false, eval e X.env)] := by rfl) : DI X W L (.Tuple elts kk tpos) (.Call (.Name "enumerate" p) [e] [] pos) (iEnum X.K t) (gEnum ga) :=
  ⟨pi_enum hg hm ha.pa hs, fun F δ σ H R R0 P => ha.ev F δ σ H _ R0 (APost.bindI P fun ds δ1 vs H1 G P1 => by
    have hr := G.r
    split at P1
    · rename_i d
      cases hr with
      | cons r r' =>
        cases r'
        split at P1
        · rename_i xs δ2 e2
          obtain ⟨a, us, rfl, R2, s2, z⟩ := frz_ok G.R r (G.k _ List.mem_cons_self) e2
          exact ⟨a, us, rfl, .inl z.rd, P1 _ _ _ R2 s2 (wk_enum z.kv) z⟩
        · exact P1.elim
    · exact P1.elim)⟩
def gZip (a : GA) : GA := fun δ => (a δ).bindL fun ds δ1 => match ds with
  | [d, e] => (match frz δ1 d with
    | some (xs, δ2) => (match frz δ2 e with | some (ys, δ3) => .ok (zipL xs ys) δ3 | none => .bad)
    | none => .bad)
  | _ => .bad
theorem di_zip {tpos : Pos} {elts : List Expr} {kk : Nat} {e2 : Expr} (hg : Gl X "zip") (hm : X.mg "zip" = none) (ha : DA X W L .itm [e, e2] t ga) (hs : starEach [e, e2] X.env = (false, eval e X.env) :: starEach [e2] X.env := by rfl) (hpl : (backTo pos (starEach [e2] X.env)).any (·.1) = false := by rfl) :
    DI X W L (.Tuple elts kk tpos) (.Call (.Name "zip" p) [e, e2] [] pos) (iZip X.K t) (gZip ga) :=
  ⟨pi_zip hg hm ha.pa hs hpl, fun F δ σ H R R0 P => ha.ev F δ σ H _ R0 (APost.bindI P fun ds δ1 vs H1 G P1 => by
    have hr := G.r
    split at P1
    · rename_i d d'
      cases hr with
      | cons r r' =>
        cases r' with
        | cons r' r'' =>
          cases r''
          split at P1
          · rename_i xs δ2 e2
            obtain ⟨a, us, rfl, R2, s2, z⟩ := frz_ok G.R r (G.k _ List.mem_cons_self) e2
            split at P1
            · rename_i ys δ3 e3
              obtain ⟨b, ws, rfl, R3, s3, z'⟩ := frz_ok R2 (s2.rep r') ((G.k _ (List.mem_cons_of_mem _ List.mem_cons_self)).shift s2 R2) e3
              exact ⟨a, b, us, ws, rfl, .inl z.rd, .inl z'.rd, P1 _ _ _ R3 (s2.trans s3) (wk_zip z.kv z'.kv) ⟨z.step s3.s, z'⟩⟩
            · exact P1.elim
          · exact P1.elim
    · exact P1.elim)⟩

/-! ### for -/
def loopF (gt : GT) (b : GS) : List D → FS → O
  | [], δ => .nx δ
  | d :: r, δ => match gt d δ with
    | none => .bad
    | some δ1 => match b δ1 with
      | .nx δ2 => loopF gt b r δ2
      | .ct δ2 => loopF gt b r δ2
      | .bk δ2 => .nx δ2
      | o => o
def gFor (gi : GA) (gt : GT) (b : GS) : GS := fun δ => match gi δ with
  | .ok ds δ1 => loopF gt b ds δ1
  | .exn x δ1 => .exn x δ1
  | .bad => .bad
variable {wi : TI} {gi : GA} {g : TG} {gt : GT} {tb : TS} {gb : GS} {body : List Stmt}
theorem evs_for (hi : EvI W L wi gi) (hg : EvG L g gt) (hb : EvS W L tb gb) : EvS W L (tFor wi g tb) (gFor gi gt gb) := fun F δ0 σ0 H0 D R0 P0 => by
  refine hi F δ0 σ0 H0 _ R0 ?_
  unfold gFor at P0
  cases q : gi δ0 with
  | bad => rw [q] at P0; exact P0
  | exn x δ1 =>
    rw [q] at P0
    cases W with
    | none => exact P0
    | some W => exact fun H1 cls dd R1 s1 xr => P0 σ0 H1 cls dd R1 s1.s xr
  | ok ds δ1 =>
    rw [q] at P0
    intro J H1 I R1 s1 w i1
    have P1 : SPost W F L δ1 σ0 H1 D (loopF gt gb ds δ1) := SPost.shift s1.s P0
    refine ⟨fun i m σ H => i ≤ ds.length ∧ m = ds.length - i ∧ ∃ δ, Rel F L δ σ H ∧ I F δ σ H ∧ SPost W F L δ σ H D (loopF gt gb (ds.drop i) δ), ⟨_, Nat.zero_le _, rfl, δ1, R1, i1, P1⟩, ?_⟩
    rintro i m σ H ⟨hi, rfl, δ, R, iI, P⟩
    by_cases hlt : i < ds.length
    · obtain ⟨go, yl⟩ := w.go F i δ σ H R iI hlt
      refine .inr ⟨go, fun σ' H' => ∃ δ, Rel F L δ σ' H' ∧ I F δ σ' H' ∧ SPost W F L δ σ' H' D (loopF gt gb (ds.drop (i + 1)) δ), fun σ' H' h => ⟨_, by omega, hlt, rfl, h⟩, fun x H' y => ?_⟩
      obtain ⟨d, hd, R2, s2, r⟩ := yl x H' y
      have P2 := SPost.shift s2.s P
      have iI2 := w.step F δ σ H δ σ H' iI s2.s R2
      have ed : ds.drop i = d :: ds.drop (i + 1) := by
        rw [List.drop_eq_getElem_cons hlt]
        rw [List.getElem?_eq_getElem hlt] at hd
        rw [Option.some.inj hd]
      rw [ed] at P2
      unfold loopF at P2
      refine hg F δ σ H' x d _ R2 r (w.kv.get hd) ?_
      cases z : gt d δ with
      | none => rw [z] at P2; exact P2
      | some δ2 =>
        rw [z] at P2
        simp only at P2 ⊢
        intro σ3 H3 R3 s3
        have iI3 := w.step F δ σ H' δ2 σ3 H3 iI2 s3.s R3
        have P3 := SPost.shift s3.s P2
        refine hb F δ2 σ3 H3 _ R3 ?_
        cases zb : gb δ2 with
        | nx δ4 => rw [zb] at P3; exact fun σ4 H4 R4 s4 => ⟨δ4, R4, w.step F _ _ _ _ _ _ iI3 s4 R4, SPost.shift s4 P3⟩
        | ct δ4 => rw [zb] at P3; exact fun σ4 H4 R4 s4 => ⟨δ4, R4, w.step F _ _ _ _ _ _ iI3 s4 R4, SPost.shift s4 P3⟩
        | bk δ4 => rw [zb] at P3; exact P3
        | _ => rw [zb] at P3; exact P3
    · have e : i = ds.length := by omega
      subst e
      refine .inl ⟨w.stop F δ σ H R iI, ?_⟩
      rw [List.drop_length] at P
      exact P σ H R .refl
theorem ds_for {iter : Expr} (hp : PassesOwn (model X.prog X.w) X.A X.env X.xe) (hc : X.calm = true) (hi : DI X W L tg iter wi gi) (hg : DG X L tg g gt) (hb : DSs X W L body tb gb) (hs : ∀ x, foldedSetIterable iter X.env x = pure x := by intro _; rfl) :
    DS X W L (.For tg iter body [] pos) (tFor wi g tb) (gFor gi gt gb) := ⟨ps_for hp hc hi.pi hg.pg hb.ps hs, evs_for hi.ev hg.ev hb.ev⟩
end
end DL

/-! DL, part m: list comprehensions; several names at once. -/
namespace DL
open PySem PySem.Spec PyProof.Rows L2
variable [KL]

section
variable {W : WO} {F : Fr} {L : List Nat} {k ka kb : Kd} {δ δ' : FS} {σ σ' : St} {H H' : Hp} {X : Cx} {pos p : Pos} {e tg : Expr} {te ti : TE} {ge : GE} {t : TA} {ga : GA}
def wipeF (δ : FS) : List Nat → FS
  | [] => δ
  | v :: vs => (wipeF δ vs).set v none
def restF (δ1 δ : FS) : List Nat → FS
  | [] => δ
  | v :: vs => (restF δ1 δ vs).set v (δ1.getD v none)
def restS (σ1 σ : St) : List Nat → St
  | [] => σ
  | v :: vs => (restS σ1 σ vs).set v (σ1.getD v none)
theorem notCell_set {i j : Nat} {s : Option SV} (h : notCell δ i = true) (hs : ∀ m d, s ≠ some (.cl m d)) : notCell (δ.set j s) i = true := by
  unfold notCell at h ⊢
  by_cases q : i = j
  · subst q
    cases e : δ[i]? with
    | none => rw [e] at h; cases h
    | some u =>
      rw [List.getElem?_set_self (List.getElem?_eq_some_iff.mp e).1]
      cases s with
      | none => rfl
      | some s => cases s with
        | fz d => rfl
        | cl m d => exact absurd rfl (hs m d)
  · rw [List.getElem?_set_ne (Ne.symm q)]
    exact h
theorem wipe_ok : ∀ {vs : List Nat}, (∀ v ∈ vs, notCell δ v = true) → Rel F L δ σ H → Rel F L (wipeF δ vs) (wipe σ vs) H ∧ CStp δ σ H (wipeF δ vs) (wipe σ vs) H ∧ ∀ j, notCell δ j = true → notCell (wipeF δ vs) j = true
  | [], _, R => ⟨R, .refl, fun _ h => h⟩
  | v :: vs, hn, R => by
    obtain ⟨R1, s1, n1⟩ := wipe_ok (vs := vs) (fun w hw => hn w (List.mem_cons_of_mem _ hw)) R
    have hv := n1 v (hn v List.mem_cons_self)
    exact ⟨R1.setF hv (fun _ _ q => nomatch q) (fun _ q => nomatch q), s1.trans (CStp.setF hv fun _ _ q => nomatch q), fun j hj => notCell_set (n1 j hj) fun _ _ q => nomatch q⟩
theorem CStp.notCell {δ1 δ2 : FS} {σ1 σ2 : St} {H1 H2 : Hp} (s : CStp δ1 σ1 H1 δ2 σ2 H2) {i : Nat} (h : DL.notCell δ1 i = true) : DL.notCell δ2 i = true := by
  have hl := notCell_lt h
  rw [← s.len] at hl
  unfold DL.notCell
  rw [List.getElem?_eq_getElem hl]
  cases q : δ2[i] with
  | none => rfl
  | some u => cases u with
    | fz d => rfl
    | cl m d =>
      obtain ⟨m', d', e⟩ := (s.cc i).mpr ⟨m, d, by show δ2[i]? = _; rw [List.getElem?_eq_getElem hl, q]⟩
      exact absurd e (notCell_no h m' d')
theorem rest_ok {δ1 : FS} {σ1 : St} {H1 : Hp} (R1 : Rel F L δ1 σ1 H1) : ∀ {vs : List Nat}, (∀ v ∈ vs, notCell δ1 v = true) → Rel F L δ σ H → CStp δ1 σ1 H1 δ σ H → Rel F L (restF δ1 δ vs) (restS σ1 σ vs) H ∧ CStp δ σ H (restF δ1 δ vs) (restS σ1 σ vs) H
  | [], _, R, s => ⟨R, .refl⟩
  | v :: vs, hn, R, s => by
    obtain ⟨R2, s2⟩ := rest_ok R1 (vs := vs) (fun w hw => hn w (List.mem_cons_of_mem _ hw)) R s
    have s3 := s.trans s2
    have hv := s3.notCell (hn v List.mem_cons_self)
    have hs : ∀ m d, δ1.getD v none ≠ some (.cl m d) := fun m d q => by
      refine notCell_no (hn v List.mem_cons_self) m d ?_
      show δ1[v]? = _
      have hl := notCell_lt (hn v List.mem_cons_self)
      rw [List.getElem?_eq_getElem hl]
      rw [List.getD_eq_getElem?_getD, List.getElem?_eq_getElem hl] at q
      exact congrArg some q
    refine ⟨R2.setF hv hs fun d q => ?_, s2.trans (CStp.setF hv hs)⟩
    have e1 : IsF δ1 v d := by
      show δ1[v]? = _
      have hl := notCell_lt (hn v List.mem_cons_self)
      rw [List.getElem?_eq_getElem hl]
      rw [List.getD_eq_getElem?_getD, List.getElem?_eq_getElem hl] at q
      exact congrArg some q
    obtain ⟨x, ex, r⟩ := R1.slot v d e1
    have kd := R1.vok v d e1
    refine ⟨x, ?_, s3.s.rep kd r, kd⟩
    rw [List.getD_eq_getElem?_getD, ex]
    rfl
theorem wipe_get {σ : St} {j : Nat} : ∀ {vs : List Nat}, j ∉ vs → (wipe σ vs)[j]? = σ[j]?
  | [], _ => rfl
  | v :: vs, h => by
    show ((wipe σ vs).set v none)[j]? = _
    rw [List.getElem?_set_ne (fun q => h (by rw [q]; exact List.mem_cons_self))]
    exact wipe_get fun q => h (List.mem_cons_of_mem _ q)
theorem restS_length {σ1 σ : St} : ∀ vs : List Nat, (restS σ1 σ vs).length = σ.length
  | [] => rfl
  | v :: vs => by
    show ((restS σ1 σ vs).set v _).length = _
    rw [List.length_set, restS_length vs]
theorem restS_get {σ1 σ : St} (hl : σ.length = σ1.length) : ∀ {vs : List Nat} {j : Nat}, (j ∈ vs ∨ σ[j]? = σ1[j]?) → (restS σ1 σ vs)[j]? = σ1[j]?
  | [], j, h => by
    rcases h with h | h
    · exact absurd h List.not_mem_nil
    · exact h
  | v :: vs, j, h => by
    show ((restS σ1 σ vs).set v (σ1.getD v none))[j]? = _
    by_cases q : j = v
    · subst q
      by_cases z : j < σ1.length
      · rw [List.getElem?_set_self (by rw [restS_length, hl]; exact z), List.getD_eq_getElem?_getD, List.getElem?_eq_getElem z]
        rfl
      · rw [List.getElem?_eq_none (by rw [List.length_set, restS_length, hl]; omega), List.getElem?_eq_none (by omega)]
    · rw [List.getElem?_set_ne (Ne.symm q)]
      refine restS_get hl (h.imp (fun h => ?_) id)
      rcases List.mem_cons.mp h with h | h
      · exact absurd h q
      · exact h
theorem restS_wipe (vs : List Nat) : restS σ (wipe σ vs) vs = σ := by
  refine List.ext_getElem? fun j => ?_
  refine restS_get (wipe_length σ vs) ?_
  by_cases h : j ∈ vs
  · exact .inl h
  · exact .inr (wipe_get h)

/-! ### the turns of a comprehension -/
def loopL (gt : GT) (gc : GB) (ge : GE) (vs : List Nat) : List D → FS → RL
  | [], δ => .ok [] δ
  | d :: r, δ => match gt d δ with
    | none => .bad
    | some δ1 => match gc δ1 with
      | .ok true δ2 => (match ge δ2 with
        | .ok y δ3 => (match loopL gt gc ge vs r (wipeF δ3 vs) with | .ok ys δ4 => .ok (y :: ys) δ4 | _ => .bad)
        | .own y δ3 => (match loopL gt gc ge vs r (wipeF δ3 vs) with | .ok ys δ4 => .ok (y :: ys) δ4 | _ => .bad)
        | _ => .bad)
      | .ok false δ2 => loopL gt gc ge vs r (wipeF δ2 vs)
      | _ => .bad
def gLc (gi : GA) (gt : GT) (gc : GB) (ge : GE) (vs : List Nat) : GE := fun δ => match gi δ with
  | .ok ds δ1 => if vs.all (notCell δ1) && decide (ds.length ≤ 16777216) then (match loopL gt gc ge vs ds (wipeF δ1 vs) with
    | .ok ys δ2 => .own (.lst ys) (restF δ1 δ2 vs)
    | _ => .bad) else .bad
  | .exn x δ1 => .exn x δ1
  | .bad => .bad
def gYes : GB := fun δ => .ok true δ
theorem evb_yes : EvB W L tYes gYes := fun F δ σ H Q R P => P H R .refl
/-- a target stores into the places vs alone -/
def GW (vs : List Nat) (g : TG) : Prop := ∀ (x : V) (σ : St) (H : Hp) (Q Q' : St → Hp → Prop), g x σ H Q → (∀ σ3 H3, wipe σ3 vs = wipe σ vs → Q σ3 H3 → Q' σ3 H3) → g x σ H Q'
def GWs (vs : List Nat) (g : TGs) : Prop := ∀ (x : List V) (σ : St) (H : Hp) (Q Q' : St → Hp → Prop), g x σ H Q → (∀ σ3 H3, wipe σ3 vs = wipe σ vs → Q σ3 H3 → Q' σ3 H3) → g x σ H Q'
theorem wipe_set {i : Nat} {v : Option V} : ∀ {vs : List Nat}, i ∈ vs → wipe (σ.set i v) vs = wipe σ vs
  | w :: vs, h => by
    show (wipe (σ.set i v) vs).set w none = (wipe σ vs).set w none
    by_cases hi : i ∈ vs
    · rw [wipe_set hi]
    · have e : i = w := by
        rcases List.mem_cons.mp h with h | h
        · exact h
        · exact absurd h hi
      subst e
      refine List.ext_getElem? fun j => ?_
      by_cases q : j = i
      · subst q
        by_cases z : j < σ.length
        · rw [List.getElem?_set_self (by rw [wipe_length, List.length_set]; exact z), List.getElem?_set_self (by rw [wipe_length]; exact z)]
        · rw [List.getElem?_eq_none (by rw [List.length_set, wipe_length, List.length_set]; omega), List.getElem?_eq_none (by rw [List.length_set, wipe_length]; omega)]
      · rw [List.getElem?_set_ne (Ne.symm q), List.getElem?_set_ne (Ne.symm q)]
        by_cases hj : j ∈ vs
        · have z : ∀ (τ : St) {us : List Nat}, j ∈ us → (wipe τ us)[j]? = if j < τ.length then some none else none := by
            intro τ us
            induction us with
            | nil => intro h; exact absurd h List.not_mem_nil
            | cons u us ih =>
              intro h
              show ((wipe τ us).set u none)[j]? = _
              by_cases q : j = u
              · subst q
                split
                · rename_i z; rw [List.getElem?_set_self (by rw [wipe_length]; exact z)]
                · rename_i z; rw [List.getElem?_eq_none (by rw [List.length_set, wipe_length]; omega)]
              · rw [List.getElem?_set_ne (Ne.symm q)]
                refine ih ?_
                rcases List.mem_cons.mp h with h | h
                · exact absurd h q
                · exact h
          rw [z _ hj, z _ hj, List.length_set]
        · rw [wipe_get hj, wipe_get hj, List.getElem?_set_ne (Ne.symm q)]
theorem wipe_idem (vs : List Nat) (τ : St) : wipe (wipe τ vs) vs = wipe τ vs := by
  have z : ∀ (us : List Nat) (τ : St), (∀ u ∈ us, u ∈ vs) → wipe (wipe τ us) vs = wipe τ vs := by
    intro us
    induction us with
    | nil => intro τ _; rfl
    | cons u us ih =>
      intro τ h
      show wipe ((wipe τ us).set u none) vs = _
      rw [wipe_set (h u List.mem_cons_self)]
      exact ih τ fun x hx => h x (List.mem_cons_of_mem _ hx)
  exact z vs τ fun _ h => h
theorem gw_name {i : Nat} {vs : List Nat} (h : i ∈ vs) : GW vs (gName i) := fun x σ H Q Q' q k => k _ _ (wipe_set h) q
theorem gw_nil {vs : List Nat} : GWs vs L2.gNil := fun x σ H Q Q' q k => ⟨q.1, k _ _ rfl q.2⟩
theorem gw_cons {vs : List Nat} {t : TG} {u : TGs} (h1 : GW vs t) (h2 : GWs vs u) : GWs vs (L2.gCons t u) := fun x σ H Q Q' q k => by
  obtain ⟨v, r, e, q⟩ := q
  exact ⟨v, r, e, h1 v σ H _ _ q fun σ3 H3 w q3 => h2 r σ3 H3 _ _ q3 fun σ4 H4 w4 q4 => k σ4 H4 (w4.trans w) q4⟩
theorem gw_tup {vs : List Nat} {K : PySem.W.Frag} {n : Nat} {u : TGs} (h : GWs vs u) : GW vs (L2.gTup K n u) := fun x σ H Q Q' q k => by
  obtain ⟨a, xs, e, s, l, q⟩ := q
  exact ⟨a, xs, e, s, l, h xs σ H _ _ q k⟩
theorem CStp.era (s : CStp δ σ H δ' σ' H') (p : Addr) : CStp δ σ (DL.era H p) δ' σ' (DL.era H' p) := by
  refine ⟨s.len, s.cc, s.at_, s.mu, fun b o e n => ?_, fun b h => ?_⟩
  · have q : b ≠ p := fun q => by rw [q, era_same] at e; cases e
    rw [era_ne q] at e ⊢
    exact s.hp b o e n
  · have q : b ≠ p := fun q => h (by rw [q, era_same])
    rw [era_ne q] at h ⊢
    exact s.th b h
theorem era_upd {p : Addr} {o : HO} : era (upd H p o) p = era H p := by
  funext b
  by_cases q : b = p
  · rw [q, era_same, era_same]
  · rw [era_ne q, era_ne q, upd_ne q]
theorem era_none {p : Addr} (h : H p = none) : era H p = H := by
  funext b
  by_cases q : b = p
  · rw [q, era_same, h]
  · rw [era_ne q]
/-- the object kept away from is changed -/
theorem Rel.updA {p : Addr} {o : HO} (R : Rel (F.and p) L δ σ H) (hc : ∀ j m c, IsC δ j m c → ¬ At σ j (.ref p)) (h0 : F.H0 p = none) (hb : ¬ F.inB p) : Rel (F.and p) L δ σ (upd H p o) := by
  have ne : ∀ b, ¬ MA (F.and p) δ σ b → b ≠ p := fun b h q => h (MA_and.mpr (.inr q))
  have kp : ∀ b u, H b = some u → ¬ MA (F.and p) δ σ b → upd H p o b = some u := fun b u e n => by rw [upd_ne (ne b n)]; exact e
  have nn : ∀ b, H b ≠ none → upd H p o b ≠ none := fun b h => by
    by_cases q : b = p
    · rw [q, upd_same]; exact fun z => nomatch z
    · rw [upd_ne q]; exact h
  refine ⟨R.len, fun i d e => ?_, R.vok, fun i m d e => ?_, R.cok, R.dist, fun b u n e => ?_, fun b h => nn b (R.avt b h), fun b h => nn b (R.bt b h), R.bor, R.avm⟩
  · obtain ⟨v, ev, r⟩ := R.slot i d e
    exact ⟨v, ev, r.mono kp (fun _ _ h => h) (fun _ _ n => n)⟩
  · obtain ⟨a, u, ea, hu, ob, z⟩ := R.cell i m d e
    refine ⟨a, u, ea, ?_, ob.mono kp (fun _ _ h => h) (fun _ _ n => n), z⟩
    rw [upd_ne (show a ≠ p from fun q => hc i m d e (by rw [← q]; exact ea))]
    exact hu
  · have n' : b ≠ p := fun q => by
      subst q
      have e : F.H0 b = some u := e
      rw [h0] at e; cases e
    rw [upd_ne n']
    exact R.keep b u n e
variable {wi : TI} {gi : GA} {g : TG} {gt : GT} {tt : TT} {gc : GB}
theorem ev_lc {vs : List Nat} (hi : EvI W L wi gi) (hg : EvG L g gt) (hgw : GW vs g)
    (ht : EvB none L tt gc) (he : Ev none L .val te ge) : Ev W L k (tLc wi g tt te vs) (gLc gi gt gc ge vs) := fun F δ0 σ H0 Q R0 P0 => by
  refine hi F δ0 σ H0 _ R0 ?_
  unfold gLc at P0
  cases q : gi δ0 with
  | bad => rw [q] at P0; exact P0
  | exn x δ1 => rw [q] at P0; exact P0
  | ok ds δ1 =>
    rw [q] at P0
    simp only at P0
    intro J H1 I R1 s1 w i1 Dn hD
    split at P0
    · rename_i hz
      simp only [Bool.and_eq_true, List.all_eq_true, decide_eq_true_eq] at hz
      obtain ⟨hn, hlen⟩ := hz
      have hv0 : ¬ F.Av Dn := fun h => R1.avt Dn h hD
      obtain ⟨h00, hb0⟩ := R1.h0 hD
      have R2 : Rel (F.and Dn) L δ1 σ (upd H1 Dn (.lst [])) := R1.and hD
      have i2 := w.and_ F δ1 σ H1 Dn (.lst []) R1 i1 hD
      obtain ⟨R3, s3, _⟩ := wipe_ok (vs := vs) hn R2
      have i3 := w.step _ _ _ _ _ _ _ i2 s3.s R3
      have s3' : CStp δ1 σ H1 (wipeF δ1 vs) (wipe σ vs) (era (upd H1 Dn (.lst [])) Dn) := by
        have z := s3.era Dn
        rw [era_upd, era_none hD] at z
        rw [era_upd, era_none hD]
        exact z
      have nC1 : ∀ j m c, IsC δ1 j m c → ¬ At σ j (.ref Dn) := fun j m c ec ea => by
        obtain ⟨a, u, ea', hu, _⟩ := R1.cell j m c ec
        cases Option.some.inj (Option.some.inj (ea.symm.trans ea'))
        rw [hD] at hu
        cases hu
      have nCell : ∀ {δ4 : FS} {σ4 : St} {H4 : Hp}, CStp δ1 σ H1 δ4 σ4 H4 → ∀ j m c, IsC δ4 j m c → ¬ At σ4 j (.ref Dn) := fun {δ4 σ4 H4} s j m c h ha => by
        obtain ⟨m', c', h'⟩ := (s.cc j).mpr ⟨m, c, h⟩
        exact nC1 j m' c' h' ((s.at_ j m' c' h' _).mp ha)
      have nMu1 : ¬ MuA δ1 σ Dn := fun z => R1.fresh hD (.inr z)
      cases ql : loopL gt gc ge vs ds (wipeF δ1 vs) with
      | bad => rw [ql] at P0; exact P0.elim
      | exn _ _ => rw [ql] at P0; exact P0.elim
      | ok ys δe =>
        rw [ql] at P0
        refine ⟨fun i m H => i ≤ ds.length ∧ m = ds.length - i ∧ ∃ δ acc us zs, Rel (F.and Dn) L δ (wipe σ vs) H ∧ I (F.and Dn) δ (wipe σ vs) H ∧ CStp δ1 σ H1 δ (wipe σ vs) (era H Dn) ∧ H Dn = some (.lst us) ∧ RepHA (F.and Dn) δ (wipe σ vs) H us acc ∧ VOkA L acc ∧ acc.length ≤ i ∧
          loopL gt gc ge vs (ds.drop i) δ = .ok zs δe ∧ ys = acc ++ zs, ⟨_, Nat.zero_le _, rfl, wipeF δ1 vs, [], [], ys, R3, i3, s3', upd_same, .nil, .nil, Nat.le_refl _, ql, rfl⟩, ?_⟩
        rintro i m H ⟨hi', rfl, δ, acc, us, zs, R, iI, s, hus, ra, kv, hal, hl, eys⟩
        by_cases hlt : i < ds.length
        · obtain ⟨go, yl⟩ := w.go (F.and Dn) i δ (wipe σ vs) H R iI hlt
          refine .inr ⟨go, fun H' => ∃ δ acc us zs, Rel (F.and Dn) L δ (wipe σ vs) H' ∧ I (F.and Dn) δ (wipe σ vs) H' ∧ CStp δ1 σ H1 δ (wipe σ vs) (era H' Dn) ∧ H' Dn = some (.lst us) ∧ RepHA (F.and Dn) δ (wipe σ vs) H' us acc ∧ VOkA L acc ∧ acc.length ≤ i + 1 ∧
            loopL gt gc ge vs (ds.drop (i + 1)) δ = .ok zs δe ∧ ys = acc ++ zs, fun H' h => ⟨_, by omega, hlt, rfl, h⟩, fun x H' y => ?_⟩
          obtain ⟨d, hd, Ra, sa, rx⟩ := yl x H' y
          have ed : ds.drop i = d :: ds.drop (i + 1) := by
            rw [List.drop_eq_getElem_cons hlt]
            rw [List.getElem?_eq_getElem hlt] at hd
            rw [Option.some.inj hd]
          rw [ed] at hl
          unfold loopL at hl
          cases zg : gt d δ with
          | none => rw [zg] at hl; cases hl
          | some δb =>
            rw [zg] at hl
            simp only at hl
            refine hgw x (wipe σ vs) H' (fun σ2 H2 => wipe σ2 vs = wipe σ vs → tt σ2 H2 _) _ (hg (F.and Dn) δ (wipe σ vs) H' x d _ Ra rx (w.kv.get hd) ?_) (fun σ3 H3 e3 q3 => ⟨e3.trans (wipe_idem vs σ), q3 (e3.trans (wipe_idem vs σ))⟩)
            rw [zg]
            simp only
            intro σb Hb Rb sb ew
            refine ht (F.and Dn) δb σb Hb _ Rb ?_
            cases zc : gc δb with
            | bad => rw [zc] at hl; cases hl
            | exn _ _ => rw [zc] at hl; cases hl
            | ok bb δc =>
              rw [zc] at hl
              intro Hc Rc sc
              have sac : CStp δ (wipe σ vs) H δc σb Hc := (sa.trans sb).trans sc.c
              have nD : ¬ MuA δ (wipe σ vs) Dn := fun z => nMu1 (s.mu Dn z)
              -- the way back to the block's start
              have back : ∀ {δ4 : FS} {H4 : Hp}, Rel (F.and Dn) L δ4 σb H4 → CStp δ (wipe σ vs) H δ4 σb H4 → Rel (F.and Dn) L (wipeF δ4 vs) (wipe σ vs) H4 ∧ CStp δ (wipe σ vs) H (wipeF δ4 vs) (wipe σ vs) H4 ∧ CStp δ4 σb H4 (wipeF δ4 vs) (wipe σ vs) H4 := fun {δ4 H4} R4 s4 => by
                have n4 : ∀ v ∈ vs, notCell δ4 v = true := fun v hv => s4.notCell (s.notCell (hn v hv))
                obtain ⟨R5, s5, _⟩ := wipe_ok (vs := vs) n4 R4
                rw [ew] at R5 s5
                exact ⟨R5, s4.trans s5, s5⟩
              cases bb with
              | false =>
                simp only [Bool.false_eq_true, if_false]
                simp only at hl
                obtain ⟨R5, s5, _⟩ := back Rc sac
                exact ⟨_, acc, us, zs, R5, w.step _ _ _ _ _ _ _ iI s5.s R5, s.trans (s5.era Dn), s5.hp Dn _ hus nD, s5.s.repA kv ra, kv, by omega, hl, eys⟩
              | true =>
                simp only [if_true]
                simp only at hl
                have fin : ∀ {δd : FS} {H4 : Hp} {v : V} {y : D} {z2 : List D}, Rel (F.and Dn) L δd σb H4 → Stp δc σb Hc δd H4 → RepH (F.and Dn) δd σb H4 v y → VOk L y → loopL gt gc ge vs (ds.drop (i + 1)) (wipeF δd vs) = .ok z2 δe → ys = acc ++ (y :: z2) →
                    ∃ acc', H4 Dn = some (.lst acc') ∧ acc'.length < sizeLine ∧ ∃ δ acc us zs, Rel (F.and Dn) L δ (wipe σ vs) (upd H4 Dn (.lst (acc' ++ [v]))) ∧ I (F.and Dn) δ (wipe σ vs) (upd H4 Dn (.lst (acc' ++ [v]))) ∧ CStp δ1 σ H1 δ (wipe σ vs) (era (upd H4 Dn (.lst (acc' ++ [v]))) Dn) ∧ upd H4 Dn (.lst (acc' ++ [v])) Dn = some (.lst us) ∧
                      RepHA (F.and Dn) δ (wipe σ vs) (upd H4 Dn (.lst (acc' ++ [v]))) us acc ∧ VOkA L acc ∧ acc.length ≤ i + 1 ∧ loopL gt gc ge vs (ds.drop (i + 1)) δ = .ok zs δe ∧ ys = acc ++ zs := by
                  intro δd H4 v y z2 R4 s4 r4 k4 hl4 ey
                  obtain ⟨R5, s5, s5'⟩ := back R4 (sac.trans s4.c)
                  have hus4 := s5.hp Dn _ hus nD
                  have ss := s.trans (s5.era Dn)
                  have ne : ∀ b, ¬ MA (F.and Dn) (wipeF δd vs) (wipe σ vs) b → b ≠ Dn := fun b h q => h (MA_and.mpr (.inr q))
                  refine ⟨us, hus4, ?_, wipeF δd vs, acc ++ [y], us ++ [v], z2, R5.updA (nCell ss) h00 hb0, w.upd_ _ _ _ _ _ _ (w.step _ _ _ _ _ _ _ iI s5.s R5), ?_, upd_same, ?_, kv.append (.cons k4 .nil), ?_, hl4, ?_⟩
                  · rw [ra.length, sizeLine_eq]; omega
                  · rw [era_upd]; exact ss
                  · exact RepAll.mono (fun b o e n => by rw [upd_ne (ne b n)]; exact e) (fun _ _ h => h) (fun _ _ n => n) ((s5.s.repA kv ra).append (.cons (s5'.s.rep k4 r4) .nil))
                  · rw [List.length_append, List.length_singleton]; omega
                  · rw [List.append_assoc]; exact ey
                refine he (F.and Dn) δc σb Hc _ Rc ?_
                cases ze : ge δc with
                | bad => rw [ze] at hl; cases hl
                | exn _ _ => rw [ze] at hl; cases hl
                | ok y2 δd =>
                  rw [ze] at hl
                  simp only at hl
                  intro v H4 R4 s4 r4 k4
                  cases z2 : loopL gt gc ge vs (ds.drop (i + 1)) (wipeF δd vs) with
                  | ok w2 δf =>
                    rw [z2] at hl
                    simp only [RL.ok.injEq] at hl
                    obtain ⟨h1, h2⟩ := hl
                    subst h2
                    exact fin R4 s4 r4 k4 z2 (by rw [eys, ← h1])
                  | bad => rw [z2] at hl; cases hl
                  | exn _ _ => rw [z2] at hl; cases hl
                | ownT _ _ _ _ => rw [ze] at hl; cases hl
                | own y2 δd =>
                  rw [ze] at hl
                  simp only at hl
                  intro pn H4 o R4 s4 hp ob k4
                  cases z2 : loopL gt gc ge vs (ds.drop (i + 1)) (wipeF δd vs) with
                  | ok w2 δf =>
                    rw [z2] at hl
                    simp only [RL.ok.injEq] at hl
                    obtain ⟨h1, h2⟩ := hl
                    subst h2
                    exact fin (R4.laid hp) (s4.laid hp) (own_rep R4 hp ob) k4 z2 (by rw [eys, ← h1])
                  | bad => rw [z2] at hl; cases hl
                  | exn _ _ => rw [z2] at hl; cases hl
        · have e : i = ds.length := by omega
          subst e
          refine .inl ⟨w.stop _ δ _ H R iI, ?_⟩
          rw [List.drop_length] at hl
          unfold loopL at hl
          simp only [RL.ok.injEq] at hl
          obtain ⟨h1, h2⟩ := hl
          subst h1 h2
          rw [List.append_nil] at eys
          subst eys
          have Re := R.erase (nCell s) h00 hv0 hb0
          obtain ⟨R6, s6⟩ := rest_ok R1 hn Re s
          rw [restS_wipe] at R6 s6
          have s7 := (s.trans s6).stp
          have z := P0 Dn (era H Dn) (.lst us) R6 (s1.trans s7) era_same ?_ (KOk.mk R6 fun _ => .lst kv)
          · rw [upd_era hus] at z
            exact z
          · refine RepAll.monoL (L := L) (fun b o e n => ?_) (fun j hj b hb => ?_) (fun b h n q => ?_) kv ra
            · rw [era_ne (show b ≠ Dn from fun q => n (MA_and.mpr (.inr q)))]; exact e
            · exact (s6.s (L := L)).ca j hj b hb
            · rcases q with q | q
              · exact n (MA_and.mpr (.inl (.inl q)))
              · exact n (MA_and.mpr (.inl (.inr (s6.mu b q))))
    · exact P0.elim
end
end DL

/-! DL, part o: functions. -/
namespace DL
open PySem PySem.Spec PyProof.Rows L2
variable [KL]

/-- what comes of a call; c: what the lent list (dict) holds then -/
inductive RF where
  | ok (d c : D) | own (d c : D) | exn (x : Xn) (c : D) | bad
  | ownT (xs ds ys : List D) (c : D)
def pars (b : Nat) (ds : List D) : FS := match ds[b]? with
  | some c => (ds.map fun d => some (SV.fz d)).set b (some (.cl .bo c))
  | none => ds.map fun d => some (SV.fz d)
def contB (b : Nat) (δ : FS) : D := match δ[b]? with
  | some (some (.cl _ c)) => c
  | _ => .non
def runF (b n : Nat) (g : GS) (ds : List D) : RF := match g (pars b ds ++ List.replicate (n - ds.length) none) with
  | .nx δ => .ok .non (contB b δ)
  | .ret d δ => .ok d (contB b δ)
  | .retO d δ => .own d (contB b δ)
  | .retT xs ds ys δ => .ownT xs ds ys (contB b δ)
  | .exn x δ => .exn x (contB b δ)
  | _ => .bad
abbrev noC : Nat → Option Addr := fun _ => none
def MB (F : Fr) (a : Addr) : Prop := F.Av a ∨ F.inB a
/-- behind a call -/
structure FEnd (F : Fr) (H' : Hp) (c : D) : Prop where
  keep : ∀ b o, ¬ F.inB b → F.H0 b = some o → H' b = some o
  bor : ∀ i a, (i, a) ∈ F.bor → ∃ o, H' a = some o ∧ ObjD H' noC (MB F) o c ∧ VOk [] c
  th : ∀ b, F.H0 b ≠ none → H' b ≠ none
def FPost (F : Fr) (Q : VK) (E : XK) : RF → Prop
  | .ok d c => ∀ v H', FEnd F H' c → Rep H' noC (MB F) v d → VOk [] d → Q v H'
  | .own d c => ∀ p o H', FEnd F H' c → H' p = none → ObjD H' noC (MB F) o d → VOk [] d → Q (.ref p) (upd H' p o)
  | .exn x c => ∀ H' cls dd, FEnd F H' c → XRep H' x cls dd → E cls dd H'
  | .bad => False
  | .ownT xs ds ys c => ∀ p q H' us vs zs, FEnd F H' c → H' p = none → H' q = none → p ≠ q → RepAll H' noC (MB F) vs xs → RepAll H' noC (MB F) us ds → RepAll H' noC (MB F) zs ys → VOkA [] xs ∧ VOkA [] ds ∧ VOkA [] ys → Q (.ref p) (upd (upd H' q (.lst us)) p (.tup (vs ++ .ref q :: zs)))
def spD (b n : Nat) (f : List D → RF) : Sp := fun vs H Q E => vs.length = n ∧ ∃ (F : Fr) (ds : List D), F.H0 = H ∧ (∀ i a, (i, a) ∈ F.bor → i = b) ∧ Rel F [] (pars b ds) (vs.map some) H ∧ FPost F Q E (f ds)
structure RoomG (k : Nat) (A : Around) : Prop where
  rm : Room k A
  gd : A.guards = some []
structure FnG (P : Program) (w : World) (K : PySem.W.Frag) (mg : Str → Option Value) (base : Heap) (k : Nat) (f : Addr) (fd : FuncData) (ps : List Str) (b : Nat) (fD : List D → RF) : Prop where
  go : ∀ (A : Around) (outer : List Env) (s : Shared) (H : Hp) (args : Args) (us : List Value) (vs : List V) (Q : VK) (E : XK), RoomG k A → Env0 P w K mg base A outer s H → BindsTo s fd args (ps.zip us) → Vals vs us → spD b ps.length fD vs H Q E →
    codeAny (model P w) A (.call (.ref f) args) (CR (L2N.CX P w) outer P w H s Q E) s
theorem RoomG.mono {j k : Nat} {A : Around} (r : RoomG k A) (h : j ≤ k) : RoomG j A := ⟨r.rm.mono h, r.gd⟩
theorem RoomG.deeper {k : Nat} {A : Around} (r : RoomG (k + 1) A) (env : Env) : RoomG k (A.deeper env) := ⟨r.rm.deeper env, r.gd⟩
theorem FnG.mono {P : Program} {w : World} {K : PySem.W.Frag} {mg : Str → Option Value} {base : Heap} {j k : Nat} {f : Addr} {fd : FuncData} {ps : List Str} {b : Nat} {fD : List D → RF} (F : FnG P w K mg base j f fd ps b fD) (h : j ≤ k) : FnG P w K mg base k f fd ps b fD :=
  ⟨fun A outer s H args us vs Q E hr => F.go A outer s H args us vs Q E (hr.mono h)⟩

/-! ### names that come in later -/
theorem pad_getF {δ : FS} {n i : Nat} {d : SV} : (δ ++ List.replicate n none)[i]? = some (some d) ↔ δ[i]? = some (some d) := by
  by_cases h : i < δ.length
  · rw [List.getElem?_append_left h]
  · rw [List.getElem?_append_right (by omega), List.getElem?_replicate]
    constructor
    · intro e; split at e <;> cases e
    · intro e; rw [List.getElem?_eq_none (by omega)] at e; cases e
theorem pad_getS {σ : St} {n i : Nat} {v : V} : (σ ++ List.replicate n none)[i]? = some (some v) ↔ σ[i]? = some (some v) := by
  by_cases h : i < σ.length
  · rw [List.getElem?_append_left h]
  · rw [List.getElem?_append_right (by omega), List.getElem?_replicate]
    constructor
    · intro e; split at e <;> cases e
    · intro e; rw [List.getElem?_eq_none (by omega)] at e; cases e
section
variable {F : Fr} {L : List Nat} {δ δ' : FS} {σ σ' : St} {H H' : Hp}
theorem Rel.pad (n : Nat) (R : Rel F L δ σ H) : Rel F L (δ ++ List.replicate n none) (σ ++ List.replicate n none) H := by
  have eC : cA (δ ++ List.replicate n none) (σ ++ List.replicate n none) = cA δ σ := by
    funext j
    have key : ∀ b, cA (δ ++ List.replicate n none) (σ ++ List.replicate n none) j = some b ↔ cA δ σ j = some b := fun b => by
      rw [cA_some, cA_some]
      exact ⟨fun ⟨⟨m, d, h⟩, h2⟩ => ⟨⟨m, d, pad_getF.mp h⟩, pad_getS.mp h2⟩, fun ⟨⟨m, d, h⟩, h2⟩ => ⟨⟨m, d, pad_getF.mpr h⟩, pad_getS.mpr h2⟩⟩
    cases h : cA δ σ j with
    | some b => exact (key b).mpr h
    | none =>
      cases h' : cA (δ ++ List.replicate n none) (σ ++ List.replicate n none) j with
      | none => rfl
      | some b => rw [(key b).mp h'] at h; cases h
  have eM : MA F (δ ++ List.replicate n none) (σ ++ List.replicate n none) = MA F δ σ := by
    funext a
    exact propext ⟨fun h => h.imp id fun ⟨i, m, d, h1, h2, h3⟩ => ⟨i, m, d, pad_getF.mp h1, h2, pad_getS.mp h3⟩, fun h => h.imp id fun ⟨i, m, d, h1, h2, h3⟩ => ⟨i, m, d, pad_getF.mpr h1, h2, pad_getS.mpr h3⟩⟩
  refine ⟨by rw [List.length_append, List.length_append, R.len, List.length_replicate, List.length_replicate], fun i d e => ?_, fun i d e => R.vok i d (pad_getF.mp e), fun i m d e => ?_, fun i m d e => R.cok i m d (pad_getF.mp e),
    fun i j m d m' d' a e1 e2 e3 e4 => R.dist i j m d m' d' a (pad_getF.mp e1) (pad_getF.mp e2) (pad_getS.mp e3) (pad_getS.mp e4), R.keep, R.avt, R.bt, fun i a hb => ?_, fun i m d a e hm ea => R.avm i m d a (pad_getF.mp e) hm (pad_getS.mp ea)⟩
  · rw [eC, eM]
    obtain ⟨v, ev, r⟩ := R.slot i d (pad_getF.mp e)
    exact ⟨v, pad_getS.mpr ev, r⟩
  · rw [eC, eM]
    obtain ⟨a, o, ea, z⟩ := R.cell i m d (pad_getF.mp e)
    exact ⟨a, o, pad_getS.mpr ea, z⟩
  · obtain ⟨d, e, ea⟩ := R.bor i a hb
    exact ⟨d, pad_getF.mpr e, pad_getS.mpr ea⟩
theorem Rel.mbm (R : Rel F L δ σ H) {a : Addr} (h : MB F a) : MA F δ σ a := h.imp id fun ⟨i, hb⟩ => by
  obtain ⟨d, e, ea⟩ := R.bor i a hb
  exact ⟨i, .bo, d, e, by decide, ea⟩
/-- the frame's end -/
theorem Rel.fend {b : Nat} (R : Rel F [] δ σ H) (hb : ∀ i a, (i, a) ∈ F.bor → i = b) : FEnd F H (contB b δ) := by
  refine ⟨R.keep, fun i a h => ?_, fun x hx => ?_⟩
  · have q := hb i a h
    subst q
    obtain ⟨d, e, ea⟩ := R.bor i a h
    obtain ⟨a', o, ea', ho, ob, _⟩ := R.cell i _ d e
    cases Option.some.inj (Option.some.inj (ea.symm.trans ea'))
    have ec : contB i δ = d := by unfold contB; rw [e]
    rw [ec]
    exact ⟨o, ho, ob.monoL (L := []) (fun _ _ h _ => h) (fun j hj => absurd hj List.not_mem_nil) (fun x _ n z => n (R.mbm z)) (R.cok i _ d e), R.cok i _ d e⟩
  · by_cases q : F.inB x
    · exact R.bt x q
    · cases e : F.H0 x with
      | none => exact absurd e hx
      | some o => rw [R.keep x o q e]; exact fun z => nomatch z
end

/-! ### a def's body -/
/-- the wish of a frame -/
abbrev wE (E : XK) : WO := some fun cls d _ H => E cls d H
theorem body_post {b n : Nat} {g : GS} {F : Fr} {ds : List D} {vs : List V} {H : Hp} {Q : VK} {E : XK} (hb : ∀ i a, (i, a) ∈ F.bor → i = b) (hl : ds.length = vs.length)
    (P : FPost F Q E (runF b n g ds)) : SPost (wE E) F [] (pars b ds ++ List.replicate (n - ds.length) none) (vs.map some ++ List.replicate (n - vs.length) none) H { nx := fun _ H' => Q .non H', rt := Q }
      (g (pars b ds ++ List.replicate (n - ds.length) none)) := by
  unfold runF at P
  cases q : g (pars b ds ++ List.replicate (n - ds.length) none) with
  | nx δ =>
    rw [q] at P
    exact fun σ' H' R s => P .non H' (R.fend hb) .non .non
  | ret d δ =>
    rw [q] at P
    exact fun v σ' H' R r k => P v H' (R.fend hb) (r.monoL (L := []) (fun _ _ h _ => h) (fun j hj => absurd hj List.not_mem_nil) (fun x _ n z => n (R.mbm z)) k) k
  | retO d δ =>
    rw [q] at P
    exact fun p o σ' H' R hp ob k => P p o H' (R.fend hb) hp (ob.monoL (L := []) (fun _ _ h _ => h) (fun j hj => absurd hj List.not_mem_nil) (fun x _ n z => n (R.mbm z)) k) k
  | exn x δ =>
    rw [q] at P
    exact fun σ' H' cls dd R s xr => P H' cls dd (R.fend hb) xr
  | retT xs ds ys δ =>
    rw [q] at P
    have mo : ∀ {vs : List V} {ds : List D} {σ' : St} {H' : Hp}, Rel F [] δ σ' H' → VOkA [] ds → RepAll H' (cA δ σ') (MA F δ σ') vs ds → RepAll H' noC (MB F) vs ds := fun R k r => r.monoL (L := []) (fun _ _ h _ => h) (fun j hj => absurd hj List.not_mem_nil) (fun x _ n z => n (R.mbm z)) k
    exact fun p q σ' H' us vs zs R hp hq hn r1 r2 r3 k => P p q H' us vs zs (R.fend hb) hp hq hn (mo R k.1 r1) (mo R k.2.1 r2) (mo R k.2.2 r3) k
  | bk δ => rw [q] at P; exact P.elim
  | ct δ => rw [q] at P; exact P.elim
  | bad => rw [q] at P; exact P.elim
theorem pars_length (b : Nat) (ds : List D) : (pars b ds).length = ds.length := by
  unfold pars
  split
  · rw [List.length_set, List.length_map]
  · rw [List.length_map]
section
variable {P : Program} {w : World} {K : PySem.W.Frag} {mg : Str → Option Value} {base : Heap} {x qual : Str} {params : Arguments} {body : List Stmt} {scope : Scope} {dvs : List V} {kws : List (Str × V)} {f : Addr} {fd : FuncData}
/-- a def, by its body's g -/
theorem fnG_of {N ps : List Str} {k b : Nat} {g : GS} (F : FunD K x qual params body scope dvs kws f fd) (S : FnScope N ps scope)
    (hg : ∀ (cd : Value) (A : Around) (outer : List Env) (s : Shared) (H : Hp) (E : XK), RoomG k (A.deeper (envOfC qual scope s.heap.objs.size f cd)) →
      ∃ t, DSs (cxOf (L2N.CX P w) P w K mg base N qual scope f cd A outer s H E) (wE E) [] body t g) : FnG P w K mg base (k + 1) f fd ps b (runF b N.length g) := by
  obtain ⟨c1, c2, c3, c4, c5, c6, c7, cd, c9, c10, rfl, look, codes, _, _⟩ := F.ex
  refine ⟨fun A outer st H args us vs Q E room en bnd rv sp => ?_⟩
  obtain ⟨vl, fr, ds, eH, eb, rel, post⟩ := sp
  have kin := en.mod.kin.keeps fun y oy ey => (en.bs y oy ey).1
  have nol := en.mod.nolimit.keeps fun y oy ey => (en.bs y oy ey).1
  have loc : ∀ y ∈ ps.zip us, scope.names.lookup y.1 = some .local ∨ (scope.names.lookup y.1 = some .cell ∧ ((cellsFrom (st.heap.objs.size + 1) scope.names []).lookup y.1).isSome = true) := by
    rintro ⟨nm, vv⟩ hmem
    have := S.par nm (List.of_mem_zip hmem).1
    exact this.imp id fun z => ⟨z, PySem.W.cellsFrom_some _ _ _ (.inl z)⟩
  refine codeAny_call_function room.rm.depth (kin _ _ look) rfl S.co S.gen rfl (PySem.W.codeRec_of kin codes) (bnd _ _ _ _ ?_)
  refine wpAny_newFunctionEnv_cells S.kind loc fun env henv st1 call => ?_
  subst henv
  refine ⟨nol.keeps call.toInCall.keep, codeAny_func ?_⟩
  obtain ⟨t, ht⟩ := hg cd A outer st H E (room.deeper _)
  have inv : Inv (cxOf (L2N.CX P w) P w K mg base N qual scope f cd A outer st H E) [] (start N vs) H st1 := inv_start S room.rm.hd en vl rv call
  have hlen : ds.length = vs.length := by
    have := rel.len
    rw [pars_length, List.length_map] at this
    exact this
  have rel2 := rel.pad (N.length - vs.length)
  have wish := ht.ev fr _ _ H { nx := fun _ H' => Q .non H', rt := Q } rel2 (by
    have z := body_post (H := H) (n := N.length) (g := g) (vs := vs) eb hlen post
    rw [hlen] at z
    exact z)
  refine wpAny_mono (ht.ps.run [] st1 (start N vs) H _ inv wish) (fun flow st2 hs => ?_) fun ex st2 hs => hs
  have done : ∀ {σ' : St} {H' : Hp} {v : V} {u : Value}, Inv (cxOf (L2N.CX P w) P w K mg base N qual scope f cd A outer st H E) [] σ' H' st2 → RelV v u → Q v H' → CE outer P w H st Q u st2 :=
    fun {σ' H' v u} J r' q => ⟨v, H', J.os, J.bare, J.base, J.hok, r', q⟩
  cases flow with
  | brk => exact hs.elim fun _ z => z.elim fun _ z => z.2.elim
  | cont => exact hs.elim fun _ z => z.elim fun _ z => z.2.elim
  | next =>
    obtain ⟨_, _, J, q⟩ := hs
    exact done (v := .non) (u := .none) J rfl q
  | ret u =>
    obtain ⟨_, _, _, J, r', q⟩ := hs
    exact done J r' q
end
end DL

/-! DL, part p: calls of own functions. -/
namespace DL
open PySem PySem.Spec PyProof.Rows L2
variable [KL]

mutual
def safe : D → Bool
  | .non => true | .bl _ => true | .int _ => true | .str _ => true
  | .tup ds => safeA ds
  | .exc _ _ => true
  | _ => false
def safeA : List D → Bool
  | [] => true
  | d :: ds => safe d && safeA ds
end
def safeI : D → Bool
  | .lst ds => safeA ds
  | .dic es => safeA (es.map (·.2))
  | .non => true
  | _ => false
/-- the cells that the arguments lend -/
def lentV (b : Nat) : Nat → List D → List Nat
  | _, [] => []
  | j, d :: ds => match d with
    | .var i => if j = b then lentV b (j + 1) ds else i :: lentV b (j + 1) ds
    | _ => lentV b (j + 1) ds
def lockV (δ : FS) : List Nat → Option FS
  | [] => some δ
  | i :: r => match δ[i]? with
    | some (some (.cl .mu c)) => lockV (δ.set i (some (.cl .ro c))) r
    | some (some (.cl .ro _)) => lockV δ r
    | _ => none
def safeF : RF → Bool
  | .ok d c => safe d && safeI c
  | .own d c => safeI d && safeI c
  | .exn x c => safeA (x.fs.map (·.2)) && safeI c
  | .bad => false
  | .ownT xs ds ys c => (safeA xs && safeA ds && safeA ys) && safeI c
/-- which cell is lent to be changed -/
def borV (b : Nat) (δ : FS) (ds : List D) : Option (Option (Nat × Md)) := match ds[b]? with
  | none => some none
  | some (.var i) => (match δ[i]? with
    | some (some (.cl m _)) => if m = .ro then none else some (some (i, m))
    | _ => none)
  | some _ => none
def backV (bm : Option (Nat × Md)) (c : D) (δ : FS) : FS := match bm with
  | none => δ
  | some (i, m) => δ.set i (some (.cl m c))
def endF (bm : Option (Nat × Md)) (δ : FS) : RF → RE
  | .ok d c => .ok d (backV bm c δ)
  | .own d c => .own d (backV bm c δ)
  | .ownT xs ds ys c => .ownT xs ds ys (backV bm c δ)
  | .exn x c => .exn x (backV bm c δ)
  | .bad => .bad
def clash (l : List Nat) : Option (Nat × Md) → Bool
  | none => false
  | some (i, _) => l.contains i
def endL (bm : Option (Nat × Md)) (l : List Nat) (δ : FS) (r : RF) : RE := if l.isEmpty || safeF r then endF bm δ r else match lockV δ l with
  | some δ2 => endF bm δ2 r
  | none => .bad
def appF (b : Nat) (fD : List D → RF) (δ : FS) (ds : List D) : RE := match borV b δ ds with
  | none => .bad
  | some bm => if clash (lentV b 0 ds) bm then .bad else endL bm (lentV b 0 ds) δ (fD (ds.map (top δ)))
section
variable {W : WO} {F : Fr} {L : List Nat} {k : Kd} {δ δ' : FS} {σ : St} {H H' : Hp}
abbrev EW (W : WO) (σ : St) : XK := match W with
  | none => fun _ _ _ => False
  | some W => fun cls d H => W cls d σ H
theorem tup_no {H : Hp} {a : Addr} {vs : List V} (h : Rd H a (.tup vs)) (q : (∃ us, H a = some (.lst us)) ∨ ∃ kv, H a = some (.dK kv)) : False := by
  rcases q with ⟨us, e⟩ | ⟨us, e⟩ <;> rcases h with h | ⟨o, h⟩ <;> rw [e] at h <;> cases h
theorem exc_no {H : Hp} {a : Addr} {φ : Heap → Prop} (h : H a = some (.ext φ)) (q : (∃ us, H a = some (.lst us)) ∨ ∃ kv, H a = some (.dK kv)) : False := by
  rcases q with ⟨us, e⟩ | ⟨us, e⟩ <;> rw [e] at h <;> cases h
theorem safe_tup {ds : List D} (s : DL.safe (.tup ds) = true) : safeA ds = true := by unfold DL.safe at s; exact s
theorem safe_cons {d : D} {ds : List D} (s : safeA (d :: ds) = true) : DL.safe d = true ∧ safeA ds = true := by
  unfold safeA at s
  rw [Bool.and_eq_true] at s
  exact s
theorem safe_lst {ds : List D} (s : DL.safe (.lst ds) = true) : False := by unfold DL.safe at s; cases s
theorem safe_dic {ds : List (Key × D)} (s : DL.safe (.dic ds) = true) : False := by unfold DL.safe at s; cases s
theorem safe_scr {i : List Int} (s : DL.safe (.scr i) = true) : False := by unfold DL.safe at s; cases s
theorem safe_var {i : Nat} (s : DL.safe (.var i) = true) : False := by unfold DL.safe at s; cases s
mutual
theorem Rep.safe {H : Hp} {C C' : Nat → Option Addr} {M M' : Addr → Prop} (hx : ∀ x, M' x → ¬ M x → (∃ us, H x = some (.lst us)) ∨ ∃ kv, H x = some (.dK kv)) : ∀ {v : V} {d : D}, DL.safe d = true → Rep H C M v d → Rep H C' M' v d
  | _, _, _, .non => .non
  | _, _, _, .bl b => .bl b
  | _, _, _, .int i => .int i
  | _, _, _, .str x => .str x
  | _, _, s, .tup h n r => .tup h (fun z => tup_no h (hx _ z n)) (RepAll.safe hx (safe_tup s) r)
  | _, _, s, .lst _ _ _ => (safe_lst s).elim
  | _, _, s, .dic _ _ _ => (safe_dic s).elim
  | _, _, s, .var _ => (safe_var s).elim
  | _, _, s, .scr _ _ => (safe_scr s).elim
  | _, _, s, .scK _ => (safe_scr s).elim
  | _, _, _, .exc q h x n => .exc q h x (fun z => exc_no h (hx _ z n))
theorem RepAll.safe {H : Hp} {C C' : Nat → Option Addr} {M M' : Addr → Prop} (hx : ∀ x, M' x → ¬ M x → (∃ us, H x = some (.lst us)) ∨ ∃ kv, H x = some (.dK kv)) : ∀ {v : List V} {d : List D}, safeA d = true → RepAll H C M v d → RepAll H C' M' v d
  | _, _, _, .nil => .nil
  | _, _, s, .cons r t => .cons (Rep.safe hx (safe_cons s).1 r) (RepAll.safe hx (safe_cons s).2 t)
end
theorem RepKV.safe {H : Hp} {C C' : Nat → Option Addr} {M M' : Addr → Prop} (hx : ∀ x, M' x → ¬ M x → (∃ us, H x = some (.lst us)) ∨ ∃ kv, H x = some (.dK kv)) : ∀ {v : List (Key × V)} {d : List (Key × D)}, safeA (d.map (·.2)) = true → RepKV H C M v d → RepKV H C' M' v d
  | _, _, _, .nil => .nil
  | _, _, s, .cons r t => by
    rw [List.map_cons] at s
    exact .cons (Rep.safe hx (safe_cons s).1 r) (RepKV.safe hx (safe_cons s).2 t)
theorem ObjD.safe {H : Hp} {C C' : Nat → Option Addr} {M M' : Addr → Prop} (hx : ∀ x, M' x → ¬ M x → (∃ us, H x = some (.lst us)) ∨ ∃ kv, H x = some (.dK kv)) {o : HO} {d : D} (s : safeI d = true) (r : ObjD H C M o d) : ObjD H C' M' o d := by
  cases o <;> cases d <;> first
    | exact RepAll.safe hx s r
    | exact RepKV.safe hx s r
    | exact r.elim
theorem lentV_mem {b : Nat} {i : Nat} : ∀ {ds : List D} {j0 j : Nat}, ds[j]? = some (.var i) → j0 + j ≠ b → i ∈ lentV b j0 ds
  | [], _, _, e, _ => by cases e
  | d :: ds, j0, 0, e, n => by
    cases e
    unfold lentV
    simp only
    rw [if_neg (by omega)]
    exact List.mem_cons_self
  | d :: ds, j0, j + 1, e, n => by
    have ih : i ∈ lentV b (j0 + 1) ds := lentV_mem (j0 := j0 + 1) (j := j) e (by omega)
    unfold lentV
    split
    · split
      · exact ih
      · exact List.mem_cons_of_mem _ ih
    · exact ih
theorem top_lock {i : Nat} {c : D} {m : Md} (e : IsC δ i .mu c) (d : D) : top (δ.set i (some (.cl m c))) d = top δ d := by
  cases d with
  | var j =>
    show (match (δ.set i _)[j]? with | some (some (.cl _ c)) => c | _ => .var j) = (match δ[j]? with | some (some (.cl _ c)) => c | _ => .var j)
    by_cases q : j = i
    · subst q
      rw [List.getElem?_set_self (List.getElem?_eq_some_iff.mp e).1, e]
    · rw [List.getElem?_set_ne (Ne.symm q)]
  | _ => rfl
theorem lockV_ok : ∀ {l : List Nat} {δ δ2 : FS}, lockV δ l = some δ2 → Rel F L δ σ H → Rel F L δ2 σ H ∧ Stp δ σ H δ2 H ∧ (∀ d, top δ2 d = top δ d) ∧ (∀ i ∈ l, ∃ c, IsC δ2 i .ro c) ∧ (∀ i c, IsC δ i .ro c → IsC δ2 i .ro c) ∧ ∀ i, i ∉ l → δ2[i]? = δ[i]?
  | [], δ, δ2, e, R => by cases e; exact ⟨R, .refl, fun _ => rfl, fun i h => absurd h List.not_mem_nil, fun _ _ h => h, fun _ _ => rfl⟩
  | i :: r, δ, δ2, e, R => by
    unfold lockV at e
    split at e
    · rename_i c ec
      obtain ⟨R1, s1⟩ := R.lock ec
      obtain ⟨R2, s2, t2, l2, k2, o2⟩ := lockV_ok e R1
      have iδ : i < δ.length := (List.getElem?_eq_some_iff.mp ec).1
      have ci : IsC (δ.set i (some (.cl .ro c))) i .ro c := List.getElem?_set_self iδ
      refine ⟨R2, s1.trans s2, fun d => (t2 d).trans (top_lock ec d), fun j hj => ?_, fun j cj h => ?_, fun j hj => ?_⟩
      · rcases List.mem_cons.mp hj with q | q
        · exact ⟨c, by rw [q]; exact k2 i c ci⟩
        · exact l2 j q
      · refine k2 j cj ?_
        have q : j ≠ i := fun q => by
          subst q
          cases Option.some.inj (Option.some.inj (ec.symm.trans h))
        show (δ.set i _)[j]? = _
        rw [List.getElem?_set_ne (Ne.symm q)]
        exact h
      · rw [o2 j fun q => hj (List.mem_cons_of_mem _ q), List.getElem?_set_ne (fun q => hj (by rw [q]; exact List.mem_cons_self))]
    · rename_i c ec
      obtain ⟨R2, s2, t2, l2, k2, o2⟩ := lockV_ok e R
      refine ⟨R2, s2, t2, fun j hj => ?_, k2, fun j hj => o2 j fun q => hj (List.mem_cons_of_mem _ q)⟩
      rcases List.mem_cons.mp hj with q | q
      · exact ⟨c, by rw [q]; exact k2 i c ec⟩
      · exact l2 j q
    · cases e
/-- more in the heap -/
theorem Rel.grow (R : Rel F L δ σ H) (h : ∀ b o, H b = some o → H' b = some o) : Rel F L δ σ H' ∧ Stp δ σ H δ H' := by
  have nn : ∀ b, H b ≠ none → H' b ≠ none := fun b hb => by
    cases e : H b with
    | none => exact absurd e hb
    | some o => rw [h b o e]; exact fun z => nomatch z
  refine ⟨⟨R.len, fun i d e => ?_, R.vok, fun i m d e => ?_, R.cok, R.dist, fun b o n e => h b o (R.keep b o n e), fun a ha => nn a (R.avt a ha), fun a ha => nn a (R.bt a ha), R.bor, R.avm⟩, rfl, fun _ => Iff.rfl, fun _ z => z, fun b o e _ => h b o e, nn⟩
  · obtain ⟨v, ev, r⟩ := R.slot i d e
    exact ⟨v, ev, r.mono (fun a o e _ => h a o e) (fun _ _ h => h) fun _ _ n => n⟩
  · obtain ⟨a, u, ea, hu, ob, z⟩ := R.cell i m d e
    exact ⟨a, u, ea, h a u hu, ob.mono (fun a o e _ => h a o e) (fun _ _ h => h) fun _ _ n => n, z⟩
end
end DL

/-! DL, part q: calls of own functions, the rule. -/
namespace DL
open PySem PySem.Spec PyProof.Rows L2
variable [KL]
section
variable {W : WO} {F : Fr} {k : Kd} {δ δ' : FS} {σ : St} {H H' : Hp} {b : Nat} {ds : List D} {vs : List V} {bm : Option (Nat × Md)}
structure CallAt (F : Fr) (δ : FS) (σ : St) (H : Hp) (b : Nat) (ds : List D) (vs : List V) (bm : Option (Nat × Md)) : Prop where
  R : Rel F [] δ σ H
  r : RepHA F δ σ H vs ds
  k : ∀ d ∈ ds, KOk [] .itm δ d
  b0 : bm = none → ds[b]? = none
  b1 : ∀ i m, bm = some (i, m) → ds[b]? = some (.var i) ∧ (∃ c, IsC δ i m c) ∧ m ≠ .ro ∧ i ∉ lentV b 0 ds
def fcBor (b : Nat) (vs : List V) (bm : Option (Nat × Md)) : List (Nat × Addr) := match bm, vs[b]? with
  | some _, some (.ref a) => [(b, a)]
  | _, _ => []
def lentA (σ : St) (b : Nat) (ds : List D) (a : Addr) : Prop := ∃ i ∈ lentV b 0 ds, At σ i (.ref a)
def fc (F : Fr) (δ : FS) (σ : St) (H : Hp) (b : Nat) (ds : List D) (vs : List V) (bm : Option (Nat × Md)) : Fr := ⟨H, fun a => MA F δ σ a ∧ ¬ lentA σ b ds a, fcBor b vs bm⟩
theorem RepAll.get' {H : Hp} {C : Nat → Option Addr} {M : Addr → Prop} : ∀ {vs : List V} {ds : List D} {j : Nat} {v : V}, RepAll H C M vs ds → vs[j]? = some v → ∃ d, ds[j]? = some d ∧ Rep H C M v d
  | _, _, 0, _, .cons a _, e => by cases e; exact ⟨_, rfl, a⟩
  | _, _, j + 1, _, .cons _ b, e => RepAll.get' (j := j) b e
theorem CallAt.bor (c : CallAt F δ σ H b ds vs bm) {i : Nat} {m : Md} (e : bm = some (i, m)) : ∃ a d o, vs[b]? = some (.ref a) ∧ IsC δ i m d ∧ At σ i (.ref a) ∧ H a = some o ∧ ObjD H (cA δ σ) (MA F δ σ) o d ∧ fcBor b vs bm = [(b, a)] := by
  obtain ⟨e1, ⟨d, e2⟩, e3, e4⟩ := c.b1 i m e
  obtain ⟨v, ev, rv⟩ := c.r.get e1
  obtain ⟨m', d', a, o, ec, rfl, ea, ho, ob⟩ := top_cell c.R rv
  cases Option.some.inj (Option.some.inj (e2.symm.trans ec))
  exact ⟨a, _, o, ev, e2, ea, ho, ob, by unfold fcBor; rw [e, ev]⟩
theorem CallAt.inB (c : CallAt F δ σ H b ds vs bm) {x : Addr} (h : (fc F δ σ H b ds vs bm).inB x) : ∃ i m d, bm = some (i, m) ∧ IsC δ i m d ∧ m ≠ .ro ∧ At σ i (.ref x) ∧ vs[b]? = some (.ref x) := by
  obtain ⟨j, hj⟩ := h
  have hj : (j, x) ∈ fcBor b vs bm := hj
  cases e : bm with
  | none => rw [e] at hj; exact absurd hj List.not_mem_nil
  | some q =>
    obtain ⟨i, m⟩ := q
    obtain ⟨a, d, o, ev, ec, ea, _, _, eb⟩ := c.bor e
    rw [eb] at hj
    cases List.mem_singleton.mp hj
    exact ⟨i, m, d, rfl, ec, (c.b1 i m e).2.2.1, ea, ev⟩
theorem CallAt.mB (c : CallAt F δ σ H b ds vs bm) {x : Addr} (h : (fc F δ σ H b ds vs bm).inB x) : MA F δ σ x := by
  obtain ⟨i, m, d, _, ec, n, ea, _⟩ := c.inB h
  exact .inr ⟨i, m, d, ec, n, ea⟩
/-- an argument, as the callee sees it -/
theorem CallAt.arg (c : CallAt F δ σ H b ds vs bm) {j : Nat} {v : V} {d : D} (ej : ds[j]? = some d) (ev : vs[j]? = some v) (hj : j ≠ b) {C' : Nat → Option Addr} {M' : Addr → Prop}
    (hM : ∀ x, M' x → (MA F δ σ x ∧ ¬ lentA σ b ds x) ∨ (fc F δ σ H b ds vs bm).inB x) : Rep H C' M' v (top δ d) ∧ VOk [] (top δ d) := by
  obtain ⟨v', ev', rv⟩ := c.r.get ej
  cases Option.some.inj (ev.symm.trans ev')
  have kd : VOk [] (top δ d) := c.k d (List.mem_of_getElem? ej)
  have mm : ∀ x, H x ≠ none → ¬ MA F δ σ x → ¬ M' x := fun x _ n z => by
    rcases hM x z with z | z
    · exact n z.1
    · exact n (c.mB z)
  refine ⟨?_, kd⟩
  by_cases hv : ∃ i, d = .var i
  · obtain ⟨i, rfl⟩ := hv
    obtain ⟨m, e, a, o, ec, rfl, ea, ho, ob⟩ := top_cell c.R rv
    rw [top_var ec] at kd ⊢
    have na : ¬ M' a := fun z => by
      rcases hM a z with z | z
      · exact z.2 ⟨i, lentV_mem (j0 := 0) ej (by omega), ea⟩
      · obtain ⟨i', m', d', e', ec', n', ea', _⟩ := c.inB z
        have := c.R.dist i i' m e m' d' a ec ec' ea ea'
        subst this
        exact (c.b1 i m' e').2.2.2 (lentV_mem (j0 := 0) ej (by omega))
    cases o with
    | lst us => cases e with
      | lst es => cases kd with
        | lst kk => exact .lst (.of ho) na (RepAll.monoL (L := []) (fun _ _ h _ => h) (fun j hj => absurd hj List.not_mem_nil) mm kk ob)
      | _ => exact ob.elim
    | dK us => cases e with
      | dic es => cases kd with
        | dic kk => exact .dic ho na (RepKV.monoL (L := []) (fun _ _ h _ => h) (fun j hj => absurd hj List.not_mem_nil) mm kk ob)
      | _ => exact ob.elim
    | _ => cases e <;> exact ob.elim
  · have et : top δ d = d := by
      cases d with
      | var i => exact absurd ⟨i, rfl⟩ hv
      | _ => rfl
    rw [et] at kd ⊢
    exact rv.monoL (L := []) (fun _ _ h _ => h) (fun j hj => absurd hj List.not_mem_nil) mm kd
theorem pars_get {i : Nat} {s : SV} {ds : List D} (h : (pars b ds)[i]? = some (some s)) : (i ≠ b ∧ ∃ d, ds[i]? = some d ∧ s = .fz d) ∨ (i = b ∧ ∃ d, ds[i]? = some d ∧ s = .cl .bo d) := by
  unfold pars at h
  split at h
  · rename_i c e
    by_cases q : i = b
    · subst q
      rw [List.getElem?_set_self (by rw [List.length_map]; exact (List.getElem?_eq_some_iff.mp e).1)] at h
      cases h
      exact .inr ⟨rfl, c, e, rfl⟩
    · rw [List.getElem?_set_ne (Ne.symm q), List.getElem?_map] at h
      cases e' : ds[i]? with
      | none => rw [e'] at h; cases h
      | some d => rw [e'] at h; cases h; exact .inl ⟨q, d, rfl, rfl⟩
  · rename_i e
    rw [List.getElem?_map] at h
    cases e' : ds[i]? with
    | none => rw [e'] at h; cases h
    | some d =>
      rw [e'] at h; cases h
      exact .inl ⟨(fun q => by rw [q, e] at e'; cases e'), d, rfl, rfl⟩
theorem vs_get {i : Nat} {v : V} (h : (vs.map some)[i]? = some (some v)) : vs[i]? = some v := by
  rw [List.getElem?_map] at h
  cases e : vs[i]? with
  | none => rw [e] at h; cases h
  | some x => rw [e] at h; cases h; rfl
theorem get_vs {i : Nat} {v : V} (h : vs[i]? = some v) : At (vs.map some) i v := by
  show (vs.map some)[i]? = _
  rw [List.getElem?_map, h]
  rfl
theorem CallAt.rel (c : CallAt F δ σ H b ds vs bm) : Rel (fc F δ σ H b ds vs bm) [] (pars b (ds.map (top δ))) (vs.map some) H := by
  have mu : ∀ x, MA (fc F δ σ H b ds vs bm) (pars b (ds.map (top δ))) (vs.map some) x → (MA F δ σ x ∧ ¬ lentA σ b ds x) ∨ (fc F δ σ H b ds vs bm).inB x := fun x h => by
    rcases h with h | ⟨i, m, d, h, n, ea⟩
    · exact .inl h
    · rcases pars_get h with ⟨_, d', _, q⟩ | ⟨q, d', e', q'⟩
      · cases q
      · subst q
        cases hbm : bm with
        | none =>
          have := c.b0 hbm
          rw [List.getElem?_map, this] at e'
          cases e'
        | some p =>
          obtain ⟨i', m'⟩ := p
          obtain ⟨a, _, _, ev, _, _, _, _, eb⟩ := c.bor hbm
          have : V.ref x = .ref a := Option.some.inj ((vs_get ea).symm.trans ev)
          cases this
          refine .inr ⟨i, ?_⟩
          show (i, x) ∈ fcBor i vs (some (i', m'))
          rw [← hbm, eb]
          exact List.mem_cons_self
  have cell : ∀ i m d, IsC (pars b (ds.map (top δ))) i m d → i = b ∧ m = .bo ∧ ∃ i' m' a o, bm = some (i', m') ∧ vs[b]? = some (.ref a) ∧ IsC δ i' m' d ∧ H a = some o ∧ ObjD H (cA δ σ) (MA F δ σ) o d ∧ fcBor b vs bm = [(b, a)] := fun i m d h => by
    rcases pars_get h with ⟨_, d', _, q⟩ | ⟨q, d', e', q'⟩
    · cases q
    · subst q
      cases q'
      cases hbm : bm with
      | none =>
        have := c.b0 hbm
        rw [List.getElem?_map, this] at e'
        cases e'
      | some p =>
        obtain ⟨i', m'⟩ := p
        obtain ⟨a, d2, o, ev, ec, ea, ho, ob, eb⟩ := c.bor hbm
        rw [List.getElem?_map, (c.b1 i' m' hbm).1] at e'
        have e2 : top δ (.var i') = d := Option.some.inj e'
        rw [top_var ec] at e2
        subst e2
        exact ⟨rfl, rfl, i', m', a, o, rfl, ev, ec, ho, ob, by rw [← hbm]; exact eb⟩
  have there : ∀ a, MA F δ σ a → H a ≠ none := fun a h => by
    rcases h with h | ⟨i, m, d, e, _, ea⟩
    · exact c.R.avt a h
    · obtain ⟨a', o, ea', ho, _⟩ := c.R.cell i m d e
      cases Option.some.inj (Option.some.inj (ea.symm.trans ea'))
      rw [ho]; exact fun z => nomatch z
  refine ⟨by rw [pars_length, List.length_map, List.length_map, ← c.r.length], fun i d h => ?_, fun i d h => ?_, fun i m d h => ?_, fun i m d h => ?_, fun i j m d m' d' a h1 h2 _ _ => ?_, fun x o _ e => e, fun a h => there a h.1, fun a h => there a (c.mB h), fun i a h => ?_, fun i m d a h hm _ => ?_⟩
  · rcases pars_get h with ⟨q, d', e', q'⟩ | ⟨q, d', e', q'⟩
    · cases q'
      rw [List.getElem?_map] at e'
      cases e2 : ds[i]? with
      | none => rw [e2] at e'; cases e'
      | some d2 =>
        rw [e2] at e'
        cases e'
        obtain ⟨v, ev, _⟩ := c.r.get e2
        exact ⟨v, get_vs ev, (c.arg e2 ev q mu).1⟩
    · cases q'
  · rcases pars_get h with ⟨q, d', e', q'⟩ | ⟨q, d', e', q'⟩
    · cases q'
      rw [List.getElem?_map] at e'
      cases e2 : ds[i]? with
      | none => rw [e2] at e'; cases e'
      | some d2 =>
        rw [e2] at e'
        cases e'
        exact c.k d2 (List.mem_of_getElem? e2)
    · cases q'
  · obtain ⟨rfl, rfl, i', m', a, o, _, ev, ec, ho, ob, eb⟩ := cell i m d h
    refine ⟨a, o, get_vs ev, ho, ob.monoL (L := []) (fun _ _ h _ => h) (fun j hj => absurd hj List.not_mem_nil) (fun x _ n z => ?_) (c.R.cok i' m' d ec), (fun z => nomatch z), fun _ => ?_⟩
    · rcases mu x z with z | z
      · exact n z.1
      · exact n (c.mB z)
    · show (i, a) ∈ fcBor i vs bm
      rw [eb]; exact List.mem_cons_self
  · obtain ⟨rfl, rfl, i', m', a, o, _, ev, ec, ho, ob, eb⟩ := cell i m d h
    exact c.R.cok i' m' d ec
  · exact (cell i m d h1).1.trans (cell j m' d' h2).1.symm
  · have h : (i, a) ∈ fcBor b vs bm := h
    cases hbm : bm with
    | none => rw [hbm] at h; exact absurd h List.not_mem_nil
    | some p =>
      obtain ⟨i', m'⟩ := p
      obtain ⟨a', d2, o, ev, ec, ea, ho, ob, eb⟩ := c.bor hbm
      rw [eb] at h
      cases List.mem_singleton.mp h
      refine ⟨d2, ?_, get_vs ev⟩
      have e3 : (ds.map (top δ))[b]? = some d2 := by rw [List.getElem?_map, (c.b1 i' m' hbm).1]; exact congrArg some (top_var ec)
      show (pars b (ds.map (top δ)))[b]? = _
      unfold pars
      split
      · rename_i c' e4
        cases Option.some.inj (e4.symm.trans e3)
        exact List.getElem?_set_self (by rw [List.length_map]; exact (List.getElem?_eq_some_iff.mp e4).1)
      · rename_i e4
        rw [e3] at e4; cases e4
  · exact absurd (cell i m d h).2.1 hm
theorem lentV_in {b i : Nat} : ∀ {ds : List D} {j0 : Nat}, i ∈ lentV b j0 ds → ∃ j, ds[j]? = some (.var i) ∧ j0 + j ≠ b
  | [], _, h => absurd h List.not_mem_nil
  | d :: ds, j0, h => by
    have up : (∃ j, ds[j]? = some (.var i) ∧ j0 + 1 + j ≠ b) → ∃ j, (d :: ds)[j]? = some (.var i) ∧ j0 + j ≠ b := fun ⟨j, e, n⟩ => ⟨j + 1, e, by omega⟩
    unfold lentV at h
    split at h
    · split at h
      · exact up (lentV_in h)
      · rcases List.mem_cons.mp h with rfl | h
        · exact ⟨0, rfl, by omega⟩
        · exact up (lentV_in h)
    · exact up (lentV_in h)
theorem CallAt.leak (c : CallAt F δ σ H b ds vs bm) {x : Addr} (h : MA F δ σ x) (n : ¬ MB (fc F δ σ H b ds vs bm) x) : ∃ i ∈ lentV b 0 ds, ∃ m d o, IsC δ i m d ∧ At σ i (.ref x) ∧ H x = some o ∧ ObjD H (cA δ σ) (MA F δ σ) o d := by
  have hv : lentA σ b ds x := by
    by_cases q : lentA σ b ds x
    · exact q
    · exact absurd (.inl ⟨h, q⟩) n
  obtain ⟨i, hi, ea⟩ := hv
  obtain ⟨j, ej, _⟩ := lentV_in hi
  obtain ⟨v, ev, rv⟩ := c.r.get ej
  obtain ⟨m, e, a, o, ec, q, ea', ho, ob⟩ := top_cell c.R rv
  cases Option.some.inj (Option.some.inj (ea.symm.trans ea'))
  exact ⟨i, hi, m, e, o, ec, ea, ho, ob⟩
abbrev Lkd (δ : FS) (b : Nat) (ds : List D) : Prop := ∀ i ∈ lentV b 0 ds, ∃ e, IsC δ i .ro e
theorem CallAt.kept (c : CallAt F δ σ H b ds vs bm) (l : Lkd δ b ds) {x : Addr} (h : MA F δ σ x) : MB (fc F δ σ H b ds vs bm) x := by
  by_cases n : MB (fc F δ σ H b ds vs bm) x
  · exact n
  · obtain ⟨i, hi, m, d, o, ec, ea, _⟩ := c.leak h n
    obtain ⟨e, ei⟩ := l i hi
    cases Option.some.inj (Option.some.inj (ei.symm.trans ec))
    rcases h with h | ⟨i2, m2, d2, h2, n2, ea2⟩
    · exact absurd h (c.R.avm i _ _ x ec (by decide) ea)
    · have := c.R.dist i i2 _ _ _ _ x ec h2 ea ea2
      subst this
      cases Option.some.inj (Option.some.inj (ec.symm.trans h2))
      exact absurd rfl n2
theorem CallAt.lists (c : CallAt F δ σ H b ds vs bm) (hk : ∀ y o, ¬ (fc F δ σ H b ds vs bm).inB y → H y = some o → H' y = some o) {x : Addr} (h : MA F δ σ x) (n : ¬ MB (fc F δ σ H b ds vs bm) x) : (∃ us, H' x = some (.lst us)) ∨ ∃ kv, H' x = some (.dK kv) := by
  obtain ⟨i, _, m, d, o, _, _, ho, ob⟩ := c.leak h n
  have ho := hk x o (fun z => n (.inr z)) ho
  cases o with
  | lst us => exact .inl ⟨us, ho⟩
  | dK us => exact .inr ⟨us, ho⟩
  | _ => cases d <;> exact ob.elim
theorem CallAt.conv (c : CallAt F δ σ H b ds vs bm) (hk : ∀ y o, ¬ (fc F δ σ H b ds vs bm).inB y → H y = some o → H' y = some o) {C' : Nat → Option Addr} {M' : Addr → Prop} (hM : ∀ x, M' x → MA F δ σ x) {v : V} {d : D} (hs : safe d = true ∨ Lkd δ b ds) (kd : VOk [] d)
    (r : Rep H' noC (MB (fc F δ σ H b ds vs bm)) v d) : Rep H' C' M' v d := by
  rcases hs with hs | hs
  · exact r.safe (fun x h n => c.lists hk (hM x h) n) hs
  · exact r.monoL (L := []) (fun _ _ h _ => h) (fun j hj => absurd hj List.not_mem_nil) (fun x _ n z => n (c.kept hs (hM x z))) kd
theorem CallAt.convO (c : CallAt F δ σ H b ds vs bm) (hk : ∀ y o, ¬ (fc F δ σ H b ds vs bm).inB y → H y = some o → H' y = some o) {C' : Nat → Option Addr} {M' : Addr → Prop} (hM : ∀ x, M' x → MA F δ σ x) {v : HO} {d : D} (hs : safeI d = true ∨ Lkd δ b ds) (kd : VOk [] d)
    (r : ObjD H' noC (MB (fc F δ σ H b ds vs bm)) v d) : ObjD H' C' M' v d := by
  rcases hs with hs | hs
  · exact r.safe (fun x h n => c.lists hk (hM x h) n) hs
  · exact r.monoL (L := []) (fun _ _ h _ => h) (fun j hj => absurd hj List.not_mem_nil) (fun x _ n z => n (c.kept hs (hM x z))) kd
theorem CallAt.convA (c : CallAt F δ σ H b ds vs bm) (hk : ∀ y o, ¬ (fc F δ σ H b ds vs bm).inB y → H y = some o → H' y = some o) {C' : Nat → Option Addr} {M' : Addr → Prop} (hM : ∀ x, M' x → MA F δ σ x) {v : List V} {d : List D} (hs : safeA d = true ∨ Lkd δ b ds) (kd : VOkA [] d)
    (r : RepAll H' noC (MB (fc F δ σ H b ds vs bm)) v d) : RepAll H' C' M' v d := by
  rcases hs with hs | hs
  · exact r.safe (fun x h n => c.lists hk (hM x h) n) hs
  · exact r.monoL (L := []) (fun _ _ h _ => h) (fun j hj => absurd hj List.not_mem_nil) (fun x _ n z => n (c.kept hs (hM x z))) kd
/-- the caller's state behind the call -/
theorem CallAt.back (c : CallAt F δ σ H b ds vs bm) {d' : D} (hs : safeI d' = true ∨ Lkd δ b ds) (fe : FEnd (fc F δ σ H b ds vs bm) H' d') : Rel F [] (backV bm d' δ) σ H' ∧ Stp δ σ H (backV bm d' δ) H' := by
  cases hbm : bm with
  | none =>
    subst hbm
    exact c.R.grow fun x o e => fe.keep x o (fun ⟨j, hj⟩ => absurd (show (j, x) ∈ fcBor b vs none from hj) List.not_mem_nil) e
  | some p =>
    obtain ⟨i, m⟩ := p
    obtain ⟨a, d, o, ev, ec, ea, ho, ob, eb⟩ := c.bor hbm
    obtain ⟨o', ho', ob', k'⟩ := fe.bor b a (by show (b, a) ∈ fcBor b vs bm; rw [eb]; exact List.mem_cons_self)
    have inB : ∀ x, (fc F δ σ H b ds vs bm).inB x ↔ x = a := fun x => by
      constructor
      · rintro ⟨j, hj⟩
        have hj : (j, x) ∈ fcBor b vs bm := hj
        rw [eb] at hj
        cases List.mem_singleton.mp hj
        rfl
      · rintro rfl
        exact ⟨b, by show (b, x) ∈ fcBor b vs bm; rw [eb]; exact List.mem_cons_self⟩
    have mA : MA F δ σ a := .inr ⟨i, m, d, ec, (c.b1 i m hbm).2.2.1, ea⟩
    have g : ∀ x u, H x = some u → (fun x => if x = a then H a else H' x) x = some u := fun x u e => by
      show (if x = a then H a else H' x) = some u
      split
      · rename_i q; rw [← q]; exact e
      · rename_i q; exact fe.keep x u (fun z => q ((inB x).mp z)) e
    obtain ⟨R1, s1⟩ := c.R.grow (H' := fun x => if x = a then H a else H' x) g
    have ob2 : ObjD (fun x => if x = a then H a else H' x) (cA δ σ) (MA F δ σ) o' d' := by
      have z : ObjD H' (cA δ σ) (MA F δ σ) o' d' := c.convO fe.keep (fun _ h => h) hs k' ob'
      refine z.mono (fun x u e n => ?_) (fun _ _ h => h) fun _ _ n => n
      show (if x = a then H a else H' x) = some u
      rw [if_neg fun q => n (by rw [q]; exact mA)]
      exact e
    obtain ⟨R2, s2⟩ := R1.put ec (c.b1 i m hbm).2.2.1 ea ob2 k'
    have eH : upd (fun x => if x = a then H a else H' x) a o' = H' := by
      funext x
      by_cases q : x = a
      · rw [q, upd_same, ho']
      · rw [upd_ne q]
        exact if_neg q
    rw [eH] at R2 s2
    exact ⟨R2, s1.trans s2⟩
theorem CallAt.post (c : CallAt F δ σ H b ds vs bm) {r : RF} {Q : VK} (hs : safeF r = true ∨ Lkd δ b ds) (P : EPost W F [] k δ σ H Q (endF bm δ r)) : FPost (fc F δ σ H b ds vs bm) Q (EW W σ) r := by
  cases r with
  | bad => exact P.elim
  | ok d e =>
    have h1 : safe d = true ∨ Lkd δ b ds := hs.imp (fun z => (Bool.and_eq_true _ _ ▸ z).1) id
    have h2 : safeI e = true ∨ Lkd δ b ds := hs.imp (fun z => (Bool.and_eq_true _ _ ▸ z).2) id
    intro v H' fe rv kv
    obtain ⟨R', s'⟩ := c.back h2 fe
    exact P v H' R' s' (c.conv fe.keep (fun x z => s'.MA z) h1 kv rv) (KOk.mk R' fun _ => kv)
  | own d e =>
    have h1 : safeI d = true ∨ Lkd δ b ds := hs.imp (fun z => (Bool.and_eq_true _ _ ▸ z).1) id
    have h2 : safeI e = true ∨ Lkd δ b ds := hs.imp (fun z => (Bool.and_eq_true _ _ ▸ z).2) id
    intro p o H' fe hp rv kv
    obtain ⟨R', s'⟩ := c.back h2 fe
    exact P p H' o R' s' hp (c.convO fe.keep (fun x z => s'.MA z) h1 kv rv) (KOk.mk R' fun _ => kv)
  | ownT xs es ys e =>
    have hs' : ((safeA xs = true ∧ safeA es = true) ∧ safeA ys = true) ∧ safeI e = true ∨ Lkd δ b ds := hs.imp (fun z => by
      have z : ((safeA xs && safeA es && safeA ys) && safeI e) = true := z
      simpa only [Bool.and_eq_true] using z) id
    intro p q H' us vs2 zs fe hp hq hn r1 r2 r3 k
    obtain ⟨R', s'⟩ := c.back (hs'.imp (fun z => z.2) id) fe
    exact P p q H' us vs2 zs R' s' hp hq hn (c.convA fe.keep (fun x z => s'.MA z) (hs'.imp (fun z => z.1.1.1) id) k.1 r1) (c.convA fe.keep (fun x z => s'.MA z) (hs'.imp (fun z => z.1.1.2) id) k.2.1 r2) (c.convA fe.keep (fun x z => s'.MA z) (hs'.imp (fun z => z.1.2) id) k.2.2 r3) (fun _ => k)
  | exn x e =>
    have h2 : safeI e = true ∨ Lkd δ b ds := hs.imp (fun z => (Bool.and_eq_true _ _ ▸ z).2) id
    intro H' cls dd fe xr
    obtain ⟨R', s'⟩ := c.back h2 fe
    cases W with
    | none => exact P.elim
    | some W => exact P H' cls dd R' s' xr
theorem appF_ok {n : Nat} {fD : List D → RF} {Q : VK} (R : Rel F [] δ σ H) (r : RepHA F δ σ H vs ds) (kd : ∀ d ∈ ds, KOk [] .itm δ d) (hn : vs.length = n) (P : EPost W F [] k δ σ H Q (appF b fD δ ds)) : spD b n fD vs H Q (EW W σ) := by
  unfold appF at P
  split at P
  · exact P.elim
  · rename_i bm hbm
    split at P
    · exact P.elim
    · rename_i hl
      have c : CallAt F δ σ H b ds vs bm := by
        refine ⟨R, r, kd, fun e => ?_, fun i m e => ?_⟩
        · subst e
          unfold borV at hbm
          split at hbm
          · assumption
          · split at hbm
            · split at hbm <;> cases hbm
            · cases hbm
          · cases hbm
        · subst e
          unfold borV at hbm
          split at hbm
          · cases hbm
          · rename_i j ej
            split at hbm
            · rename_i m' c' ec
              split at hbm
              · cases hbm
              · rename_i hm
                cases hbm
                exact ⟨ej, ⟨_, ec⟩, hm, fun z => hl (by unfold clash; simpa using z)⟩
            · cases hbm
          · cases hbm
      have bor_ok : ∀ {δ : FS} {bm : Option (Nat × Md)} (j : Nat) (a : Addr), (j, a) ∈ (fc F δ σ H b ds vs bm).bor → j = b := fun {δ bm} j a h => by
        have h : (j, a) ∈ fcBor b vs bm := h
        unfold fcBor at h
        split at h
        · cases List.mem_singleton.mp h
          rfl
        · exact absurd h List.not_mem_nil
      unfold endL at P
      split at P
      · rename_i hs
        rw [Bool.or_eq_true] at hs
        refine ⟨hn, fc F δ σ H b ds vs bm, ds.map (top δ), rfl, bor_ok, c.rel, c.post (hs.symm.imp id fun z i hi => ?_) P⟩
        rw [List.isEmpty_iff.mp z] at hi
        exact absurd hi List.not_mem_nil
      · split at P
        · rename_i δ2 e2
          obtain ⟨R2, s2, t2, l2, _, o2⟩ := lockV_ok e2 R
          have te : ds.map (top δ2) = ds.map (top δ) := List.map_congr_left fun d _ => t2 d
          have c2 : CallAt F δ2 σ H b ds vs bm := by
            refine ⟨R2, s2.repAll r, fun d hd => (kd d hd).shift s2 R2, c.b0, fun i m e => ?_⟩
            obtain ⟨z1, ⟨z2, z3⟩, z4, z5⟩ := c.b1 i m e
            refine ⟨z1, ⟨z2, ?_⟩, z4, z5⟩
            show δ2[i]? = _
            rw [o2 i z5]
            exact z3
          rw [← te] at P
          exact ⟨hn, fc F δ2 σ H b ds vs bm, ds.map (top δ2), rfl, bor_ok, c2.rel, c2.post (.inr l2) (P.shift s2)⟩
        · exact P.elim
end
end DL

/-! DL, part r: calls as rules; comprehensions as rules; isinstance; list(range(..)). -/
namespace DL
open PySem PySem.Spec PyProof.Rows L2
variable [KL]

/-! ### calls -/
/-- exceptions of a part are taken -/
def Tk (X : Cx) : WO → Prop
  | none => True
  | some W => L2N.Takes X W
theorem Tk.at {X : Cx} {W : WO} (tk : Tk X W) (σ : St) : PassesAt (L2N.CX X.prog X.w) X σ (EW W σ) := by
  cases W with
  | none =>
    intro _ _ _ _ _ _ c
    obtain ⟨_, _, _, _, _, _, _, _, _, _, _, _, z⟩ := c
    exact z.elim
  | some W => exact L2N.passAt tk σ
/-- a def behind the top -/
structure Def (P : Program) (w : World) (K : PySem.W.Frag) (mg : Str → Option Value) (base : Heap) (k : Nat) (x : Str) (ps : List Str) (b : Nat) (fD : List D → RF) (f : Addr) (fd : FuncData) : Prop where
  here : mg x = some (.ref f)
  kp : PySem.W.keepIn K (.ref f) = true
  bd : ∀ (s : Shared) (us : List Value), us.length = ps.length → BindsTo s fd ⟨us, []⟩ (ps.zip us)
  ok : FnG P w K mg base k f fd ps b fD
def permL {α : Type} (pm : List Nat) (xs : List α) : List α := pm.filterMap (xs[·]?)
/-- it is called by keywords ks, the parameters take the values in the order pm -/
def BKw (fd : FuncData) (ps ks : List Str) (pm : List Nat) : Prop := ∀ (s : Shared) (ws : List Value), ws.length = ks.length → BindsTo s fd ⟨[], ks.zip ws⟩ (ps.zip (permL pm ws))
theorem permL_vals {vs : List V} {us : List Value} (r : Vals vs us) : ∀ pm : List Nat, Vals (permL pm vs) (permL pm us)
  | [] => .nil
  | j :: pm => by
    unfold permL
    rw [List.filterMap_cons, List.filterMap_cons]
    cases e : vs[j]? with
    | none =>
      have : us[j]? = none := List.getElem?_eq_none (by rw [← r.length]; exact List.getElem?_eq_none_iff.mp e)
      rw [this]
      exact permL_vals r pm
    | some v =>
      obtain ⟨u, hu, ru⟩ := r.get e
      rw [hu]
      exact .cons ru (permL_vals r pm)
theorem permL_rep {H : Hp} {C : Nat → Option Addr} {M : Addr → Prop} {vs : List V} {ds : List D} (r : RepAll H C M vs ds) : ∀ pm : List Nat, RepAll H C M (permL pm vs) (permL pm ds)
  | [] => .nil
  | j :: pm => by
    unfold permL
    rw [List.filterMap_cons, List.filterMap_cons]
    cases e : ds[j]? with
    | none =>
      have : vs[j]? = none := List.getElem?_eq_none (by rw [r.length]; exact List.getElem?_eq_none_iff.mp e)
      rw [this]
      exact permL_rep r pm
    | some d =>
      obtain ⟨v, hv, rv⟩ := r.get e
      rw [hv]
      exact .cons rv (permL_rep r pm)
theorem permL_mem {α : Type} {pm : List Nat} {xs : List α} {x : α} (h : x ∈ permL pm xs) : x ∈ xs := by
  obtain ⟨j, _, e⟩ := List.mem_filterMap.mp h
  exact List.mem_of_getElem? e
def tCallG (W : WO) (b n : Nat) (fD : List D → RF) (t : TA) : TE := fun σ H Q => t σ H fun vs H1 => spD b n fD vs H1 Q (EW W σ)
def tCallGK (W : WO) (b n m : Nat) (pm : List Nat) (fD : List D → RF) (t : TA) : TE := fun σ H Q => t σ H fun vs H1 => vs.length = m ∧ spD b n fD (permL pm vs) H1 Q (EW W σ)
def gFn (b n : Nat) (fD : List D → RF) (ga : GA) : GE := fun δ => (ga δ).bind fun ds δ1 => if ds.length = n then appF b fD δ1 ds else .bad
def gFnK (b n m : Nat) (pm : List Nat) (fD : List D → RF) (ga : GA) : GE := fun δ => (ga δ).bind fun ds δ1 => if ds.length = m ∧ (permL pm ds).length = n then appF b fD δ1 (permL pm ds) else .bad
section
variable {X : Cx} {W : WO} {k j : Kd} {lv b : Nat} {f : Addr} {fd : FuncData} {ps ks : List Str} {fD : List D → RF} {x : Str} {p pos : Pos} {e : Expr} {es : List Expr} {kws : List Keyword} {t tk : TA} {ga : GA} {pm : List Nat}
theorem run_fnG {pins : List (Addr × Obj)} {σ : St} {H : Hp} {s : Shared} {Q : VK} {us : List Value} {kw : List (Str × Value)} {vs : List V} {bs : List Value} {E : XK} (F : FnG X.prog X.w X.K X.mg X.base lv f fd ps b fD) (hr : RoomG lv X.A) (hb : BindsTo s fd ⟨us, kw⟩ (ps.zip bs)) (hx : PassesAt (L2N.CX X.prog X.w) X σ E)
    (I : Inv X pins σ H s) (r : Vals vs bs) (h : spD b ps.length fD vs H Q E) : wpAny (model X.prog X.w) X.A (call (.ref f) us kw) (EP X pins σ Q) X.xe s := by
  refine wpAny_call (codeAny_mono (F.go X.A X.stack s H ⟨us, kw⟩ bs vs Q E hr I.env0 hb r h) fun res st2 done => ?_)
  cases res with
  | error ex => exact hx pins H s ex st2 I done
  | ok flow =>
    cases flow with
    | next => exact done.elim
    | brk => exact done.elim
    | cont => exact done.elim
    | ret u => exact I.after done
theorem pe_callG (F : Def X.prog X.w X.K X.mg X.base lv x ps b fD f fd) (hr : RoomG lv X.A) (hg : Gl X x) (tk : Tk X W) (ha : PA X (e :: es) t) (hdb : (x == ("__debug__" : Str)) = false := by decide)
    (he : starEach (e :: es) X.env = (false, eval e X.env) :: starEach es X.env := by rfl) (hpl : (backTo pos (starEach es X.env)).any (·.1) = false := by rfl) : PE X (.Call (.Name x p) (e :: es) [] pos) (tCallG W b ps.length fD t) := by
  refine ⟨fun pins s σ H Q I wish => ?_⟩
  refine wpAny_Call_Name_kw (ld_glob I hg F.here ?_ hdb)
  refine PySem.W.callWith_K (h₀ := X.base) I.ok.mod.kin F.kp (thn (ha.run pos pins s σ H _ I wish) fun vals st ⟨vs, H1, J, rv, sp⟩ => ⟨J.kIn, ?_⟩) he hpl
  exact run_fnG F.ok hr (F.bd st vals (by rw [← rv.length]; exact sp.1)) (tk.at σ) J rv sp
theorem pe_callG0 (F : Def X.prog X.w X.K X.mg X.base lv x ps b fD f fd) (hr : RoomG lv X.A) (hg : Gl X x) (tk : Tk X W) (hdb : (x == ("__debug__" : Str)) = false := by decide) : PE X (.Call (.Name x p) [] [] pos) (tCallG W b ps.length fD tNil) := by
  refine ⟨fun pins s σ H Q I wish => ?_⟩
  refine wpAny_Call_Name_kw (ld_glob I hg F.here ?_ hdb)
  exact PySem.W.callWith_K0 I.kIn F.kp (run_fnG (us := []) (bs := []) F.ok hr (F.bd s [] wish.1) (tk.at σ) I .nil wish)
theorem pe_callGK (F : Def X.prog X.w X.K X.mg X.base lv x ps b fD f fd) (hB : BKw fd ps ks pm) (hr : RoomG lv X.A) (hg : Gl X x) (tk : Tk X W) (hkw : PK X kws t) (hall : (backToKw pos (keywordEach kws X.env)).all (·.1.isSome) = true := by rfl)
    (hks : (backToKw pos (keywordEach kws X.env)).filterMap (·.1) = ks := by rfl) (hdb : (x == ("__debug__" : Str)) = false := by decide)
    (hpl : ((backTo pos (starEach [] X.env)).any (·.1) || (backToKw pos (keywordEach kws X.env)).any (·.1.isNone)) = false := by rfl) : PE X (.Call (.Name x p) [] kws pos) (tCallGK W b ps.length ks.length pm fD t) := by
  refine ⟨fun pins s σ H Q I wish => ?_⟩
  refine wpAny_Call_Name_kw (ld_glob I hg F.here ?_ hdb)
  refine PySem.W.callWith_KW0 (h₀ := X.base) I.ok.mod.kin F.kp hall (thn (hkw.run pos pins s σ H _ I wish) fun vals st ⟨vs, H1, J, rv, hl, sp⟩ => ⟨J.kIn, ?_⟩) hpl
  rw [hks]
  exact run_fnG (us := []) F.ok hr (hB st vals (by rw [← rv.length]; exact hl)) (tk.at σ) J (permL_vals rv pm) sp
theorem ev_callG {n : Nat} (ha : EvA W [] .itm t ga) : Ev W [] k (tCallG W b n fD t) (gFn b n fD ga) := fun F δ σ H Q R P =>
  ha F δ σ H _ R (APost.bind P fun ds δ1 vs H1 G P1 => by
    split at P1
    · rename_i hn
      exact appF_ok (G.R) G.r G.k (by rw [G.r.length]; exact hn) P1
    · exact P1.elim)
theorem ev_callGK {n m : Nat} (ha : EvA W [] .itm t ga) : Ev W [] k (tCallGK W b n m pm fD t) (gFnK b n m pm fD ga) := fun F δ σ H Q R P =>
  ha F δ σ H _ R (APost.bind P fun ds δ1 vs H1 G P1 => by
    split at P1
    · rename_i hn
      have r2 := permL_rep G.r pm
      exact ⟨by rw [G.r.length]; exact hn.1, appF_ok (G.R) r2 (fun d hd => G.k d (permL_mem hd)) (by rw [r2.length]; exact hn.2) P1⟩
    · exact P1.elim)
theorem de_call {n : Nat} (F : Def X.prog X.w X.K X.mg X.base lv x ps b fD f fd) (hr : RoomG lv X.A) (hg : Gl X x) (tk : Tk X W) (ha : DA X W [] .itm (e :: es) t ga) (hn : ps.length = n := by rfl) (hdb : (x == ("__debug__" : Str)) = false := by decide)
    (he : starEach (e :: es) X.env = (false, eval e X.env) :: starEach es X.env := by rfl) (hpl : (backTo pos (starEach es X.env)).any (·.1) = false := by rfl) : DE X W [] k (.Call (.Name x p) (e :: es) [] pos) (tCallG W b n fD t) (gFn b n fD ga) := by
  subst hn
  exact ⟨pe_callG F hr hg tk ha.pa hdb he hpl, ev_callG ha.ev⟩
theorem de_call0 {n : Nat} (F : Def X.prog X.w X.K X.mg X.base lv x ps b fD f fd) (hr : RoomG lv X.A) (hg : Gl X x) (tk : Tk X W) (hn : ps.length = n := by rfl) (hdb : (x == ("__debug__" : Str)) = false := by decide) : DE X W [] k (.Call (.Name x p) [] [] pos) (tCallG W b n fD tNil) (gFn b n fD gNil) := by
  subst hn
  exact ⟨pe_callG0 F hr hg tk hdb, ev_callG (da_nil (X := X) (L := []) (k := .itm)).ev⟩
/-- keywords' values -/
structure DK (X : Cx) (W : WO) (kws : List Keyword) (t : TA) (g : GA) : Prop where
  pk : PK X kws t
  ev : EvA W [] .itm t g
theorem dk_nil : DK X W [] tNil gNil := ⟨pk_nil, (da_nil (X := X) (L := []) (k := .itm)).ev⟩
theorem evA_cons {te : TE} {g : GE} (ha : Ev W [] .itm te g) (hr : EvA W [] .itm t ga) : EvA W [] .itm (tCons te t) (gCons g ga) := fun F δ σ H Q R P =>
  ha F δ σ H _ R (EPost.bindL P fun d δ1 v H1 G1 P1 => hr F δ1 σ H1 _ G1.R (APost.bindL P1 fun ds δ2 vs H2 G2 P2 => by
    have G := G1.shift G2.s G2.R
    exact APost.give P2 G2.R (.cons G.r G2.r) fun x hx => by
      rcases List.mem_cons.mp hx with rfl | hx
      · exact G.k
      · exact G2.k x hx))
theorem dk_cons {te : TE} {g : GE} {nm : Option Str} {kpos : Pos} (ha : DE X W [] .itm e te g) (hr : DK X W kws t ga) : DK X W (⟨nm, e, kpos⟩ :: kws) (tCons te t) (gCons g ga) := ⟨pk_cons ha.pe hr.pk, evA_cons ha.ev hr.ev⟩
theorem de_callK {n m : Nat} (F : Def X.prog X.w X.K X.mg X.base lv x ps b fD f fd) (hB : BKw fd ps ks pm) (hr : RoomG lv X.A) (hg : Gl X x) (tk : Tk X W) (hkw : DK X W kws t ga) (hn : ps.length = n := by rfl) (hm : ks.length = m := by rfl) (hall : (backToKw pos (keywordEach kws X.env)).all (·.1.isSome) = true := by rfl)
    (hks : (backToKw pos (keywordEach kws X.env)).filterMap (·.1) = ks := by rfl) (hdb : (x == ("__debug__" : Str)) = false := by decide)
    (hpl : ((backTo pos (starEach [] X.env)).any (·.1) || (backToKw pos (keywordEach kws X.env)).any (·.1.isNone)) = false := by rfl) : DE X W [] k (.Call (.Name x p) [] kws pos) (tCallGK W b n m pm fD t) (gFnK b n m pm fD ga) := by
  subst hn hm
  exact ⟨pe_callGK F hB hr hg tk hkw.pk hall hks hdb hpl, ev_callGK hkw.ev⟩
end

/-! ### list comprehensions -/
section
variable {X : Cx} {W : WO} {L : List Nat} {k : Kd} {pos spos py : Pos} {elt tg iter : Expr} {ifs : List Expr} {scope : Scope} {own : List (Str × Nat)} {wi : TI} {gi : GA} {g : TG} {gt : GT} {tt : TT} {gc : GB} {te : TE} {ge : GE}
/-- what stands within a comprehension -/
structure DBk (X : Cx) (L : List Nat) (scope : Scope) (tg : Expr) (ifs : List Expr) (elt : Expr) (vs : List Nat) (g : TG) (gt : GT) (tt : TT) (gc : GB) (te : TE) (ge : GE) : Prop where
  tg : ∀ (s : Shared) (H : Hp) (C : Addr) (cl : List (Str × Addr)) (fp : List Addr), DG (X.blk s H scope (compEnvC scope cl C X.env) fp) L tg g gt
  gw : GW vs g
  ts : ∀ (s : Shared) (H : Hp) (C : Addr) (cl : List (Str × Addr)) (fp : List Addr), PTs (X.blk s H scope (compEnvC scope cl C X.env) fp) ifs tt ∧ EvB none L tt gc
  el : ∀ (s : Shared) (H : Hp) (C : Addr) (cl : List (Str × Addr)) (fp : List Addr), DE (X.blk s H scope (compEnvC scope cl C X.env) fp) none L .val elt te ge
theorem de_lc (hc : X.calm = true) (hN : X.N.Nodup) (hi : DI X W L tg iter wi gi) (ok : blkC X.N X.env.scope scope own = true) (B : DBk X L scope tg ifs elt (own.map (·.2)) g gt tt gc te ge) (hs : ∀ x, foldedSetIterable iter X.env x = pure x := by intro _; rfl) :
    DE X W L k (.ListComp elt [⟨tg, iter, ifs, 0⟩] scope pos) (tLc wi g tt te (own.map (·.2))) (gLc gi gt gc ge (own.map (·.2))) :=
  have s0 : Shared := X.s_0
  ⟨pe_lc hc hN hi.pi (blkOk_by ok) (fun s H C cl fp => (B.tg s H C cl fp).pg) (fun s H C cl fp => (B.ts s H C cl fp).1) (fun s H C cl fp => (B.el s H C cl fp).pe) hs,
    ev_lc hi.ev (B.tg X.s_0 X.H_0 0 [] []).ev B.gw (B.ts X.s_0 X.H_0 0 [] []).2 (B.el X.s_0 X.H_0 0 [] []).ev⟩
theorem ds_setLc {i : Nat} {y : Str} (hc : X.calm = true) (hN : X.N.Nodup) (hy : X.N[i]? = some y) (hyl : X.env.scope.names.lookup y = some .local) (hsw : swapsWith (.ListComp elt [⟨tg, iter, ifs, 0⟩] scope pos) (some (.Name y py)) spos.line X.env = pure true)
    (hi : DI X W L tg iter wi gi) (ok : blkC X.N X.env.scope scope own = true) (B : DBk X L scope tg ifs elt (own.map (·.2)) g gt tt gc te ge) (hs : ∀ x, foldedSetIterable iter X.env x = pure x := by intro _; rfl) :
    DS X W L (.Assign [.Name y py] (.ListComp elt [⟨tg, iter, ifs, 0⟩] scope pos) spos) (tAsg (tLc wi g tt te (own.map (·.2))) (gName i)) (gSet i (gLc gi gt gc ge (own.map (·.2)))) :=
  ⟨ps_setLc hc hN hy hyl hsw hi.pi (blkOk_by ok) (fun s H C cl fp => (B.tg s H C cl fp).pg) (fun s H C cl fp => (B.ts s H C cl fp).1) (fun s H C cl fp => (B.el s H C cl fp).pe) hs,
    evs_set (ev_lc hi.ev (B.tg X.s_0 X.H_0 0 [] []).ev B.gw (B.ts X.s_0 X.H_0 0 [] []).2 (B.el X.s_0 X.H_0 0 [] []).ev)⟩
theorem ds_setCLc {i : Nat} {y : Str} (hL : L = []) (hc : X.calm = true) (hN : X.N.Nodup) (hy : X.N[i]? = some y) (hyl : X.env.scope.names.lookup y = some .local) (hsw : swapsWith (.ListComp elt [⟨tg, iter, ifs, 0⟩] scope pos) (some (.Name y py)) spos.line X.env = pure true)
    (hi : DI X W L tg iter wi gi) (ok : blkC X.N X.env.scope scope own = true) (B : DBk X L scope tg ifs elt (own.map (·.2)) g gt tt gc te ge) (hs : ∀ x, foldedSetIterable iter X.env x = pure x := by intro _; rfl) :
    DS X W L (.Assign [.Name y py] (.ListComp elt [⟨tg, iter, ifs, 0⟩] scope pos) spos) (tAsg (tLc wi g tt te (own.map (·.2))) (gName i)) (gSetC i (gLc gi gt gc ge (own.map (·.2)))) :=
  ⟨ps_setLc hc hN hy hyl hsw hi.pi (blkOk_by ok) (fun s H C cl fp => (B.tg s H C cl fp).pg) (fun s H C cl fp => (B.ts s H C cl fp).1) (fun s H C cl fp => (B.el s H C cl fp).pe) hs,
    evs_setC hL (ev_lc hi.ev (B.tg X.s_0 X.H_0 0 [] []).ev B.gw (B.ts X.s_0 X.H_0 0 [] []).2 (B.el X.s_0 X.H_0 0 [] []).ev)⟩
end
end DL

/-! DL, part s: list(range(..)), isinstance, two values at once. -/
namespace DL
open PySem PySem.Spec PyProof.Rows L2
variable [KL]
section
variable {X : Cx} {W : WO} {F : Fr} {L : List Nat} {k : Kd} {δ δ' : FS} {σ : St} {H H' : Hp} {p p2 pos pos' : Pos} {a b c e : Expr} {es : List Expr} {ta : TA} {ga : GA}
/-! ### list(range(..)) -/
def rgVC (i c : Int) (n : Nat) : List V := (List.range n).map fun j => V.int (i + (j : Nat) * c)
def RArg (vs : List V) (i j c : Int) : Prop := (vs = [.int j] ∧ i = 0 ∧ c = 1) ∨ (vs = [.int i, .int j] ∧ c = 1) ∨ vs = [.int i, .int j, .int c]
def tLstR (ta : TA) : TE := fun σ H Q => ta σ H fun vs H1 => ∃ (i j c : Int) (n : Nat), RArg vs i j c ∧ RgC i j c n ∧ n ≤ 16777216 ∧ ∀ q, H1 q = none → Q (.ref q) (upd H1 q (.lst (rgVC i c n)))
theorem vals_rgC {i c : Int} {n : Nat} {acc : Array Value} (h : ItemsOf (fun j v => ∃ t, v = .int (i + j * c) t) acc n) : Vals (rgVC i c n) acc.toList := by
  have e : acc.toList.length = n := by rw [Array.length_toList]; exact h.1
  unfold rgVC
  rw [← e]
  refine vals_of_get acc.toList _ fun j u hj => ?_
  obtain ⟨t, rfl⟩ := h.2 j u (by rw [← hj, Array.getElem?_toList])
  exact ⟨t, rfl⟩
theorem pe_lstR (hc : X.calm = true) (hg : Gl X "list") (hm : X.mg "list" = none) (hg2 : Gl X "range") (hm2 : X.mg "range" = none) (ha : PA X (e :: es) ta)
    (na : starEach [.Call (.Name "range" p) (e :: es) [] pos'] X.env = (false, eval (.Call (.Name "range" p) (e :: es) [] pos') X.env) :: starEach [] X.env := by rfl)
    (hs : starEach (e :: es) X.env = (false, eval e X.env) :: starEach es X.env := by rfl) (hpl : (backTo pos' (starEach es X.env)).any (·.1) = false := by rfl) :
    PE X (.Call (.Name "list" p2) [.Call (.Name "range" p) (e :: es) [] pos'] [] pos) (tLstR ta) := by
  refine ⟨fun pins s σ H Q I wish => ?_⟩
  refine Call_ (ld_blt I hg hm boot_list (PyProof.Rows.callWith_type1 (args_cons ?_ na) na))
  refine Call_ (ld_blt I hg2 hm2 boot_range (PyProof.Rows.callWith_type1 (thn (ha.run pos' pins s σ H _ I wish) fun us s1 ⟨vs, H1, I1, r1, got⟩ => ?_) hs hpl))
  obtain ⟨i, j, c, n, arg, ⟨c0, c1, c2, c3⟩, small, q⟩ := got
  have tail : ∀ (o : Obj) (t1 t2 t3 tk : Tok), IsRange (s1.heap.push o) s1.heap.objs.size i j c t1 t2 t3 → wpAny (model X.prog X.w) X.A (spliced (backTo pos (starEach [] X.env))) (fun vs s₂ => wpAny (model X.prog X.w) X.A (call (Value.type "list") (Value.ref s1.heap.objs.size :: vs)) (EP X pins σ Q) X.xe s₂) X.xe { s1 with heap := s1.heap.push o, toks := tk } := fun o t1 t2 t3 tk hr => by
    have I2 : Inv X pins σ H1 { s1 with heap := s1.heap.push o, toks := tk } := I1.kept (t' := tk) fun b u eb => Heap.get?_push_of_some _ eb
    refine args_nil (call_list_range (n := n) (I2.ok.hd hc) hr c2 c3 (by omega) fun h' tk acc c' hk e' hi => ?_)
    refine ⟨.ref _, upd H1 _ (.lst (rgVC i c n)), I2.laid hk (Nat.le_refl _) (show ObjOk X.prog X.w _ _ _ (.lst (rgVC i c n)) from ⟨?_, acc.toList, c', vals_rgC hi, ?_⟩), rfl, q _ (I2.hok.fresh (Nat.le_refl _))⟩
    · unfold rgVC
      rw [List.length_map, List.length_range, sizeLine_eq]; omega
    · rw [Array.toArray_toList]; exact e'
  rcases arg with ⟨rfl, rfl, rfl⟩ | ⟨rfl, rfl⟩ | rfl
  · cases r1 with
    | cons r rr =>
      cases rr
      obtain ⟨t, rfl⟩ := r
      exact call_range_1 (tail _ _ _ _ _ (IsRange.new _ _ _ _ _ _ _))
  · cases r1 with
    | cons r rr =>
      cases rr with
      | cons r' rr =>
        cases rr
        obtain ⟨t, rfl⟩ := r
        obtain ⟨t', rfl⟩ := r'
        exact call_range_2 (tail _ _ _ _ _ (IsRange.new _ _ _ _ _ _ _))
  · cases r1 with
    | cons r rr =>
      cases rr with
      | cons r' rr =>
        cases rr with
        | cons r'' rr =>
          cases rr
          obtain ⟨t, rfl⟩ := r
          obtain ⟨t', rfl⟩ := r'
          obtain ⟨t'', rfl⟩ := r''
          exact call_range_3 c0 (tail _ _ _ _ _ (IsRange.new _ _ _ _ _ _ _)) (.inl (PyProof.noPylong_small c1))
/-- what range gives: first, width, how many -/
def rgOf (δ : FS) : List D → Option (Int × Int × Nat)
  | [a] => match top δ a with
    | .int j => if rngOk j then some (0, 1, j.toNat) else none
    | _ => none
  | [a, b] => match top δ a, top δ b with
    | .int i, .int j => if rngOk i && rngOk j then some (i, 1, (j - i).toNat) else none
    | _, _ => none
  | [a, b, c] => match top δ a, top δ b, top δ c with
    | .int i, .int j, .int c => if rngOk i && rngOk j && rngOk c && decide (0 < c) then some (i, c, (if i < j then (j - i - 1) / c + 1 else 0).toNat) else none
    | _, _, _ => none
  | _ => none
theorem small_one' {i j : Int} (hi : -16777216 ≤ i ∧ i ≤ 16777216) (hj : -16777216 ≤ j ∧ j ≤ 16777216) : RgC i j 1 (j - i).toNat :=
  ⟨by decide, by decide, small_one (by omega) (by omega) (by omega) (by omega), rangeSize_nat i j⟩
theorem rgOf_ok {vs : List V} {ds : List D} {i c : Int} {n : Nat} (R : Rel F L δ σ H) (r : RepHA F δ σ H vs ds) (e : rgOf δ ds = some (i, c, n)) : ∃ j, RArg vs i j c ∧ RgC i j c n := by
  match vs, ds, r with
  | [v], [d], .cons r .nil =>
    simp only [rgOf] at e
    split at e
    · rename_i j ej
      split at e
      · rename_i z
        cases e
        have := small_one' (i := 0) (j := j) (by omega) (rngOk_ok z)
        rw [Int.sub_zero] at this
        exact ⟨j, .inl ⟨by rw [R.int r ej], rfl, rfl⟩, this⟩
      · cases e
    · cases e
  | [v, w], [d, d2], .cons r (.cons r2 .nil) =>
    simp only [rgOf] at e
    split at e
    · rename_i i' j ei ej
      split at e
      · rename_i z
        rw [Bool.and_eq_true] at z
        cases e
        exact ⟨j, .inr (.inl ⟨by rw [R.int r ei, R.int r2 ej], rfl⟩), small_one' (rngOk_ok z.1) (rngOk_ok z.2)⟩
      · cases e
    · cases e
  | [v, w, u], [d, d2, d3], .cons r (.cons r2 (.cons r3 .nil)) =>
    simp only [rgOf] at e
    split at e
    · rename_i i' j c' ei ej ec
      split at e
      · rename_i z
        simp only [Bool.and_eq_true, decide_eq_true_eq] at z
        cases e
        exact ⟨j, .inr (.inr (by rw [R.int r ei, R.int r2 ej, R.int r3 ec])), small_pos (rngOk_ok z.1.1.1) (rngOk_ok z.1.1.2) ⟨z.2, (rngOk_ok z.1.2).2⟩⟩
      · cases e
    · cases e
  | [], [], .nil => cases e
  | _ :: _ :: _ :: _ :: _, _ :: _ :: _ :: _ :: _, _ => cases e
theorem rep_rng {C : Nat → Option Addr} {M : Addr → Prop} (i c : Int) (n : Nat) : RepAll H C M (rgVC i c n) (rngL i c n) := by
  have key : ∀ (n : Nat) (i : Int) (f : Nat → V), (∀ j, f j = V.int (i + (j : Nat) * c)) → RepAll H C M ((List.range n).map f) (rngL i c n) := by
    intro n
    induction n with
    | zero => intro i f _; exact .nil
    | succ n ih =>
      intro i f hf
      rw [List.range_succ_eq_map, List.map_cons, List.map_map]
      have e0 : f 0 = V.int i := by rw [hf 0]; congr 1; simp
      rw [e0]
      refine .cons (.int i) (ih (i + c) _ fun j => ?_)
      show f (j + 1) = _
      rw [hf (j + 1)]
      congr 1
      rw [Int.natCast_succ, Int.add_mul]
      omega
  exact key n i _ fun _ => rfl
def gLstR (ga : GA) : GE := fun δ => (ga δ).bind fun ds δ1 => match rgOf δ1 ds with
  | some (i, c, n) => if n ≤ 16777216 then .own (.lst (rngL i c n)) δ1 else .bad
  | none => .bad
theorem de_lstR (hc : X.calm = true) (hg : Gl X "list") (hm : X.mg "list" = none) (hg2 : Gl X "range") (hm2 : X.mg "range" = none) (ha : DA X W L .any (e :: es) ta ga)
    (na : starEach [.Call (.Name "range" p) (e :: es) [] pos'] X.env = (false, eval (.Call (.Name "range" p) (e :: es) [] pos') X.env) :: starEach [] X.env := by rfl)
    (hs : starEach (e :: es) X.env = (false, eval e X.env) :: starEach es X.env := by rfl) (hpl : (backTo pos' (starEach es X.env)).any (·.1) = false := by rfl) :
    DE X W L k (.Call (.Name "list" p2) [.Call (.Name "range" p) (e :: es) [] pos'] [] pos) (tLstR ta) (gLstR ga) :=
  ⟨pe_lstR hc hg hm hg2 hm2 ha.pa na hs hpl, fun F δ σ H Q R P => ha.ev F δ σ H _ R (APost.bind P fun ds δ1 vs H1 G P1 => by
    split at P1
    · rename_i i c n en
      split at P1
      · rename_i hn
        obtain ⟨j, h1, h2⟩ := rgOf_ok G.R G.r en
        exact ⟨i, j, c, n, h1, h2, hn, fun q hq => EPost.new P1 G.R hq (o := .lst (rgVC i c n)) (rep_rng i c n) (KOk.mk G.R fun _ => .lst (rngL_vok c n i))⟩
      · exact P1.elim
    · exact P1.elim)⟩
/-! ### isinstance -/
inductive Ty where
  | int | bool | str | list | tuple | dict
def Ty.name : Ty → String
  | .int => "int" | .bool => "bool" | .str => "str" | .list => "list" | .tuple => "tuple" | .dict => "dict"
def tyOf : D → Option String
  | .non => some "NoneType" | .bl _ => some "bool" | .int _ => some "int" | .str _ => some "str"
  | .lst _ => some "list" | .scr _ => some "list" | .tup _ => some "tuple" | .dic _ => some "dict"
  | _ => none
def isa : Ty → D → Option Bool
  | _, .var _ => none | _, .obj _ _ => none
  | .int, .int _ => some true | .int, .bl _ => some true
  | .bool, .bl _ => some true
  | .str, .str _ => some true
  | .list, .lst _ => some true | .list, .scr _ => some true
  | .tuple, .tup _ => some true
  | .dict, .dic _ => some true
  | _, _ => some false
theorem isa_ok {T : Ty} {d : D} {r : Bool} (hx : ∀ n fs, d ≠ .exc n fs) (e : isa T d = some r) : ∃ t, tyOf d = some t ∧ kitB t T.name = some r := by
  cases d <;> cases T <;> first
    | (exact absurd rfl (hx _ _))
    | (cases e; refine ⟨_, rfl, ?_⟩; decide +kernel)
    | cases e
theorem isa_exc {T : Ty} {n : Str} {fs : List (Str × D)} {r : Bool} (e : isa T (.exc n fs) = some r) : r = false := by
  cases T <;> (cases e; rfl)
theorem ExF.kit {K : PySem.W.Frag} {C : Addr} (h : ExF K C) (T : Ty) : PySem.W.kitOne K (.ref C) (.type T.name) = some false := by
  cases T <;> first | exact h.ki | exact h.kb | exact h.ks | exact h.kl | exact h.kt | exact h.kd
/-- isinstance, of an exception too -/
def rIsX (K : PySem.W.Frag) : List V → Hp → VK → Prop := fun xs H Q => rIsi K xs H Q ∨ ∃ (a C : Addr) (φ : Heap → Prop) (c : V) (cv : Value) (b : Bool), xs = [.ref a, c] ∧ ClsV c cv ∧ H a = some (.ext φ) ∧ ExA C a φ ∧ ExcC K C ∧ PySem.W.kitOne K (.ref C) cv = some b ∧ Q (.bl b) H
theorem call_isX : CallR X (.builtin "isinstance") (rIsX X.K) := by
  intro pins s σ H xs us Q I r h
  rcases h with h | ⟨a, C, φ, c, cv, b, rfl, hcv, ha, hx, hc, e, q⟩
  · exact call_isi pins s σ H xs us Q I r h
  · cases r with
    | cons rx rr =>
      cases rr with
      | cons rt rr =>
        cases rr
        cases rx
        have ec := hcv.eq rt
        subst ec
        obtain ⟨hp, _, _⟩ := I.hok a _ ha
        obtain ⟨oe, vs, hget, hz, hv⟩ := hx _ hp
        have J : PySem.W.InstAt s.heap a oe C none := by
          obtain ⟨oc, od, oda, osl⟩ := oe
          obtain ⟨h1, h2⟩ := hz
          dsimp only at h1 h2 hv
          subst h1 h2 hv
          exact ⟨hget, rfl, rfl, trivial⟩
        exact PySem.W.kia_one (PySem.W.handS_kitx_exc hc.hg hc.hk hc.hs hc.hd hc.ha hc.hn hc.ht hc.hm) I.kIn J e (fun z => nomatch z) fun tk => ⟨.bl b, H, I.kept (t' := tk) fun _ _ z => z, rfl, q⟩
theorem tyx_of {K : PySem.W.Frag} [KLOk K] {v : V} {d : D} {t : String} (R : Rel F L δ σ H) (r : RepH F δ σ H v d) (e : tyOf (top δ d) = some t) : TyX K H v (.type t) := by
  cases q : top δ d with
  | non => rw [q] at e; cases e; rw [R.non r q]; exact .base .non
  | bl b => rw [q] at e; cases e; rw [R.bl r q]; exact .base (.bl b)
  | int i => rw [q] at e; cases e; rw [R.int r q]; exact .base (.int i)
  | str x => rw [q] at e; cases e; rw [R.str r q]; exact .base (.str x)
  | lst ds =>
    rw [q] at e; cases e
    obtain ⟨a, us, rfl, h, _⟩ := R.lst r (k := .any) trivial q
    rcases h with h | ⟨o, h⟩
    · exact .base (.lst h)
    · exact .base (.frz h)
  | tup ds =>
    rw [q] at e; cases e
    obtain ⟨a, us, rfl, h, _⟩ := R.tup r (k := .any) trivial q
    rcases h with h | ⟨o, h⟩
    · exact .base (.tup h)
    · exact .fTuple h
  | scr ns =>
    rw [q] at e; cases e
    obtain ⟨a, rfl, h⟩ := R.scr (K := K) r q
    rcases h with h | ⟨o, its, n, h1, h2, _⟩
    · rcases h with h | ⟨o, h⟩
      · exact .base (.lst h)
      · exact .base (.frz h)
    · exact .kList h1 h2
  | dic es =>
    rw [q] at e; cases e
    cases r with
    | dic h n r => exact .base (.dK h)
    | var h =>
      obtain ⟨m, c, a, o, ec, q1, _, ho, ob⟩ := top_cell R (.var h)
      cases q1
      rw [top_var ec] at q
      subst q
      cases o with
      | dK kv => exact .base (.dK ho)
      | _ => exact ob.elim
    | _ => cases q
  | var i => rw [q] at e; cases e
  | exc _ _ => rw [q] at e; cases e
  | obj _ _ => rw [q] at e; cases e
def gIsi (T : Ty) (g : GE) : GE := fun δ => (g δ).bind fun d δ1 => match isa T (top δ1 d) with
  | some b => .ok (.bl b) δ1
  | none => .bad
theorem de_isi (kl : KLOk X.K) {x : Str} {T : Ty} {te : TE} {ge : GE} (hg : Gl X "isinstance") (hm : X.mg "isinstance" = none) (hgT : Gl X x) (hmT : X.mg x = none) (hv : bootBuiltins x = some (.type T.name)) (he : DE X W L .any e te ge) (hnT : x ≠ "__name__" := by decide) (hdT : (x == ("__debug__" : Str)) = false := by decide)
    (hs : starEach [e, .Name x p] X.env = (false, eval e X.env) :: starEach [.Name x p] X.env := by rfl) (hs2 : starEach [.Name x p] X.env = (false, eval (.Name x p) X.env) :: starEach [] X.env := by rfl) (hpl : (backTo pos (starEach [.Name x p] X.env)).any (·.1) = false := by rfl) :
    DE X W L k (.Call (.Name "isinstance" p2) [e, .Name x p] [] pos) (tCB (rIsX X.K) (tCons te (tCons (tC (.ty T.name)) tNil))) (gIsi T ge) := by
  haveI := kl
  exact
  ⟨pe_callB call_isX hg hm (by decide +kernel) (pa_cons he.pe (pa_cons (pe_bltn hgT hmT hv rfl hnT hdT) pa_nil hs2) hs) (by decide) (by decide) hs hpl, fun F δ σ H Q R P => he.ev.seq R P fun d δ1 v H1 G P1 => by
    split at P1
    · rename_i b eb
      by_cases hx : ∃ n fs, top δ1 d = .exc n fs
      · obtain ⟨n, fs, hx⟩ := hx
        rw [hx] at eb
        have := isa_exc eb
        subst this
        obtain ⟨a, C, φ, rfl, hC, ha, hxa, _⟩ := G.R.exc G.r hx
        have hE := KLOk.ex (K := X.K) n C hC
        exact .inr ⟨a, C, φ, _, _, false, rfl, .ty _, ha, hxa, hE.c, hE.kit T, EPost.give P1 G.R (.bl false) (KOk.mk G.R fun _ => .bl false)⟩
      · obtain ⟨t, et, ek⟩ := isa_ok (fun n fs q => hx ⟨n, fs, q⟩) eb
        exact .inl ⟨v, _, _, _, b, rfl, .ty _, tyx_of G.R G.r et, kit_ty ek, EPost.give P1 G.R (.bl b) (KOk.mk G.R fun _ => .bl b)⟩
    · exact P1.elim⟩
/-! ### a, b = x, y: no cells -/
variable {hN : X.N.Nodup}
def gPar2F (i j : Nat) (ga : GA) : GS := fun δ => match ga δ with
  | .ok [d, e] δ1 => if notCell δ1 i && notCell δ1 j then .nx ((δ1.set i (some (.fz d))).set j (some (.fz e))) else .bad
  | .exn x δ1 => .exn x δ1
  | _ => .bad
theorem evs_par2F {i j : Nat} (ha : EvA W L .val ta ga) : EvS W L (tPar i j ta) (gPar2F i j ga) := fun F δ σ H D R P => by
  refine ha F δ σ H _ R ?_
  unfold gPar2F at P
  split at P
  · rename_i d e δ1 q
    rw [q]
    intro vs H1 R1 s1 r1 k1
    split at P
    · rename_i hn
      rw [Bool.and_eq_true] at hn
      match vs, r1 with
      | [v, w], .cons r (.cons r2 .nil) =>
        refine ⟨v, w, rfl, ?_⟩
        have k0 : VOk L d := k1 d List.mem_cons_self
        have k2 : VOk L e := k1 e (List.mem_cons_of_mem _ List.mem_cons_self)
        have R2 := R1.setF (s := some (.fz d)) (v := some v) hn.1 (fun _ _ q => nomatch q) fun d' q => by cases q; exact ⟨v, rfl, r, k0⟩
        have s2 : SStp L δ1 σ H1 (δ1.set i (some (.fz d))) (σ.set i (some v)) H1 := SStp.setF hn.1 fun _ _ q => nomatch q
        have hn2 : notCell (δ1.set i (some (.fz d))) j = true := notCell_set hn.2 fun _ _ q => nomatch q
        have R3 := R2.setF (s := some (.fz e)) (v := some w) hn2 (fun _ _ q => nomatch q) fun d' q => by cases q; exact ⟨w, rfl, s2.rep k2 r2, k2⟩
        exact P _ _ R3 ((s1.s.trans s2).trans (SStp.setF hn2 fun _ _ q => nomatch q))
    · exact P.elim
  · rename_i x δ1 q
    rw [q]
    cases W with
    | none => exact P
    | some W => exact fun H1 cls dd R1 s1 xr => P σ H1 cls dd R1 s1.s xr
  · exact P.elim
theorem ds_par2F {i j : Nat} {x y : Str} {px py pt : Pos} {kt k2 pt2} (hc : X.calm = true) (hN : X.N.Nodup) (hi : X.N[i]? = some x) (hj : X.N[j]? = some y) (hij : i ≠ j)
    (hx : X.env.scope.names.lookup x = some .local) (hy : X.env.scope.names.lookup y = some .local) (ha : DA X W L .val [a, b] ta ga)
    (hw : swappedStores [.Tuple [.Name x px, .Name y py] kt pt] (.Tuple [a, b] k2 pt2) X.env = pure (some [x, y]) := by rfl)
    (hs : swapsWithSole [.Tuple [.Name x px, .Name y py] kt pt] (.Tuple [a, b] k2 pt2) pos.line X.env = pure false := by rfl) :
    DS X W L (.Assign [.Tuple [.Name x px, .Name y py] kt pt] (.Tuple [a, b] k2 pt2) pos) (tPar i j ta) (gPar2F i j ga) := ⟨ps_par hc hN hi hj hij hx hy ha.pa hw hs, evs_par2F ha.ev⟩
end
end DL

/-! DL, part t: a law's end. -/
namespace DL
open PySem PySem.Spec PyProof.Rows L2

theorem spD_law [KL] {a : Addr} {ns : List Int} {H : Hp} {Q : VK} {E : XK} {fD : List D → RF} {c : D} (hr : (∃ o, H a = some (.frz o (.lst (ns.map V.int)))) ∨ KL.is a ns) (he : fD [.scr ns] = .ok (.bl true) c) (hQ : ∀ H', Q (.bl true) H') : spD 99 1 fD [.ref a] H Q E := by
  refine ⟨rfl, ⟨H, fun _ => False, []⟩, [.scr ns], rfl, (fun i b h => absurd h List.not_mem_nil), ?_, ?_⟩
  · have one : ∀ i d, (pars 99 [D.scr ns])[i]? = some (some d) → i = 0 ∧ d = .fz (.scr ns) := fun i d h => by
      match i, h with
      | 0, h => cases h; exact ⟨rfl, rfl⟩
      | n + 1, h => cases h
    have nm : ∀ x, ¬ MA ⟨H, fun _ => False, []⟩ (pars 99 [D.scr ns]) ([V.ref a].map some) x := fun x h => by
      rcases h with h | ⟨i, m, d, e, _⟩
      · exact h
      · have := (one i _ e).2
        cases this
    refine ⟨rfl, fun i d h => ?_, fun i d h => ?_, fun i m d h => ?_, fun i m d h => ?_, fun i j m d m' d' b h1 _ _ _ => ?_, fun b o _ e => e, fun b h => h.elim, fun b ⟨i, h⟩ => absurd h List.not_mem_nil, fun i b h => absurd h List.not_mem_nil, fun i m d b h _ _ q => q.elim⟩
    · obtain ⟨rfl, q⟩ := one i _ h
      cases q
      refine ⟨.ref a, rfl, ?_⟩
      rcases hr with ⟨o, h⟩ | h
      · exact .scr (.inr ⟨o, h⟩) (nm a)
      · exact .scK h
    · obtain ⟨rfl, q⟩ := one i _ h
      cases q
      exact .scr ns
    · have := (one i _ h).2; cases this
    · have := (one i _ h).2; cases this
    · have := (one i _ h1).2; cases this
  · rw [he]
    intro v H' _ rv _
    cases rv
    exact hQ H'

theorem law_callG {P : Program} {w : World} {K : PySem.W.Frag} {mg mb : Str → Option Value} {k : Nat} {fa a : Addr} {fd : FuncData} {x : Str} {fD : List D → RF} {c : D} {s₁ : Shared} {vs : List Value} {ns : List Int}
    (inK : K.In s₁.heap) (mainNs : s₁.heap.Ns mainGlobals mg) (bltNs : s₁.heap.Ns builtinsNs mb) (boot : ∀ x : Str, x ≠ "__name__" → mb x = bootBuiltins x) (nolim : s₁.heap.NoLimit) (nogens : s₁.gens = #[])
    (lst : s₁.heap.get? a = some { cls := .type "list", data := .seq vs.toArray }) (intsA : IntsAre vs ns) (short : ns.length ≤ sizeLine) (room : Room k callerA)
    (cls : Str → Option Addr) (hcls : ∀ n C, cls n = some C → ExF K C)
    (F : ∀ (kl : KL) (_ : @KLOk kl K), @KL.cls kl = cls → ∀ (base : Heap), K.In base → base.Ns mainGlobals mg → @FnG kl P w K mg base k fa fd [x] 99 fD) (bnd : ∀ (s : Shared) (u : Value), BindsTo s fd ⟨[u], []⟩ [(x, u)])
    (he : fD [.scr ns] = .ok (.bl true) c) :
    codeAny (model P w) callerA (.call (.ref fa) ⟨[.ref a], []⟩) (fun r s' => r = .ok (.ret (.bool true)) ∧ OldK s₁.heap s'.heap ∧ s'.os = s₁.os ∧ AllBare s'.gens) s₁ := by
  have rel := vals_ints intsA
  have same := intsA.length
  suffices go : ∀ (kl : KL) (_ : @KLOk kl K) (_ : @KL.cls kl = cls) (H : Hp), Only H → ((∃ o, H a = some (.frz o (.lst (ns.map V.int)))) ∨ @KL.is kl a ns) → HOk P w H s₁.heap → (∀ b, H b ≠ none → b = a) → (H a ≠ none → K.lookup a = none) →
      codeAny (model P w) callerA (.call (.ref fa) ⟨[.ref a], []⟩) (fun r s' => r = .ok (.ret (.bool true)) ∧ OldK s₁.heap s'.heap ∧ s'.os = s₁.os ∧ AllBare s'.gens) s₁ by
    cases known : K.lookup a with
    | some ob =>
      have ea := inK a ob known
      rw [lst] at ea
      cases ea
      let kl : KL := ⟨fun a' ns' => a' = a ∧ ns' = ns, cls⟩
      refine go kl (@KLOk.mk kl K (fun a' ns' q H => ?_) hcls) rfl (fun _ => none) (fun _ => .inl rfl) (.inr ⟨rfl, rfl⟩) (fun b u z => nomatch z) (fun b z => absurd rfl z) fun z => absurd rfl z
      obtain ⟨rfl, rfl⟩ := q
      exact .inr ⟨_, vs.toArray, _, known, rfl, rfl, rfl, by rw [List.size_toArray, same]; exact short, by simpa using rel⟩
    | none =>
      let ob : Obj := { cls := .type "list", data := .seq vs.toArray }
      let H0 : Hp := fun b => if b = a then some (.frz ob (.lst (ns.map V.int))) else none
      have at_a : H0 a = some (.frz ob (.lst (ns.map V.int))) := if_pos rfl
      have only_a : ∀ b, H0 b ≠ none → b = a := fun b z => by
        by_cases q : b = a
        · exact q
        · exact absurd (if_neg q) z
      let kl : KL := ⟨fun _ _ => False, cls⟩
      refine go kl (@KLOk.mk kl K (fun _ _ q => False.elim q) hcls) rfl H0 (fun b => ?_) (.inl ⟨ob, at_a⟩) (fun b u z => ?_) only_a fun _ => known
      · by_cases q : b = a
        · rw [q]; exact .inr ⟨ob, _, at_a⟩
        · exact .inl (if_neg q)
      · have q := only_a b (by rw [z]; exact fun h => nomatch h)
        subst q
        cases at_a.symm.trans z
        exact ⟨lst, by rw [List.length_map]; exact short, vs, _, rel, lst⟩
  intro kl klo hkc H only hr hok alone apart
  have free : ∀ {b : Addr} {o : Obj}, s₁.heap.get? b = some o → H b = none → (hidT s₁.heap H).get? b = some o := fun e n => hidT_get e n
  have nodict : ∀ {b : Addr} {o : Obj} {es : Array DictEntry} {ep : Nat}, s₁.heap.get? b = some o → o.data = .dict es ep → H b = none := fun {b o es ep} e d => by
    cases q : H b with
    | none => rfl
    | some u =>
      have e' := alone b (by rw [q]; simp)
      subst e'
      rw [lst] at e
      cases e
      cases (show Data.seq vs.toArray _ = Data.dict es ep from d)
  have ns_ : ∀ {b : Addr} {m : Str → Option Value}, s₁.heap.Ns b m → (hidT s₁.heap H).Ns b m := fun {b m} h => by
    obtain ⟨o, es, ep, e, d, r⟩ := h
    exact ⟨o, es, ep, free e (nodict e d), d, r⟩
  have inK2 : K.In (hidT s₁.heap H) := fun b o e => free (inK b o e) (by
    cases q : H b with
    | none => rfl
    | some u =>
      have e' := alone b (by rw [q]; simp)
      subst e'
      rw [apart (by rw [q]; simp)] at e
      cases e)
  have md : Mod K mg (hidT s₁.heap H) := by
    obtain ⟨mc, l1, l2⟩ := nolim
    exact ⟨inK2, ns_ mainNs, ⟨mb, ns_ bltNs, boot⟩, ⟨mc, ns_ l1, l2⟩⟩
  have env : Env0 P w K mg (hidT s₁.heap H) callerA [] s₁ H := ⟨rfl, md, fun b o e => of_hidT e, Nat.le_of_eq (hidT_size _ _), trivial, (fun b hb => absurd (show b ∈ ([] : List Addr) from hb) List.not_mem_nil), hok, .of_eq nogens⟩
  refine codeAny_mono ((F kl klo hkc _ inK2 (ns_ mainNs)).go callerA [] s₁ H ⟨[.ref a], []⟩ [.ref a] [.ref a] (fun v _ => v = .bl true) (fun _ _ _ => False) ⟨room, rfl⟩ env (bnd s₁ (.ref a)) (.cons rfl .nil) (@spD_law kl _ _ _ _ _ _ _ hr he fun _ => rfl)) fun res s' h => ?_
  cases res with
  | error e =>
    obtain ⟨_, _, _, _, _, _, _, _, _, _, _, _, z⟩ := h
    exact z.elim
  | ok flow =>
    cases flow with
    | next => exact h.elim
    | brk => exact h.elim
    | cont => exact h.elim
    | ret u =>
      obtain ⟨v, H', os, bare, un, hok', rv, q⟩ := h
      have q : v = .bl true := q
      subst q
      cases (show u = Value.bool true from rv)
      refine ⟨rfl, OldK.of_keep fun b o e => ?_, os, bare⟩
      cases q : H b with
      | none => exact un.keep b o e q (fun z => absurd (show b ∈ ([] : List Addr) from z) List.not_mem_nil) (by simp)
      | some u =>
        rcases only b with z | ⟨ob, xs, z⟩
        · rw [q] at z; cases z
        · obtain ⟨e1, _⟩ := hok b _ z
          obtain ⟨e2, _⟩ := hok' b _ (un.frzs b ob _ z)
          rw [e] at e1
          cases e1
          exact e2
/-- a law over the head by facts -/
theorem walk_ofG {l : PySem.W.OpenLaw} {n k : Nat} {q : Program} {loose : List Str} {XP : (Str → Option Value) → Heap → Prop} {YP : World → Heap → Prop} {d : DefRec} {x : Str} {fD : List D → RF}
    (most : l.most = some n) (small : n ≤ sizeLine) (nodef : d.params.defaults = []) (room : Room k callerA)
    (F : ∀ (w : World) (mg : Str → Option Value) (fa : Addr) (h : Heap), YP w h → h.Ns mainGlobals mg → mg d.name = some (.ref fa) →
      ∃ (K : PySem.W.Frag) (fd : FuncData) (cls : Str → Option Addr), K.In h ∧ (∀ (s : Shared) (u : Value), BindsTo s fd ⟨[u], []⟩ [(x, u)]) ∧ (∀ n C, cls n = some C → ExF K C) ∧ ∀ (kl : KL) (_ : @KLOk kl K), @KL.cls kl = cls → ∀ (base : Heap), K.In base → base.Ns mainGlobals mg → @FnG kl l.prog w K mg base k fa fd [x] 99 fD)
    (plain : ∀ ns : List Int, ns.length ≤ n → ∃ c, fD [.scr ns] = .ok (.bl true) c) : PySem.W.WalkO q loose XP YP l.row.toRowW d [] (fun f vs => PySem.call f vs) := by
  refine Att.attach_call most nodef fun w s₀ s₁ mg mb fa o pm cd doc a vs ns G Y ho hd hcd hmg hobj hints hlen hg => ?_
  obtain ⟨K, fd, cls, inK, bnd, hcls, fn⟩ := F w mg fa _ Y G.T.g hmg
  obtain ⟨c, hc⟩ := plain ns hlen
  exact law_callG inK G.T.g G.T.b G.T.builtins G.T.nolimit hg hobj hints (Nat.le_trans hlen small) room cls hcls fn bnd hc
end DL

/-! DL, part u: rules by name. -/
namespace DL
open PySem PySem.Spec PyProof.Rows L2
variable [KL]
section
variable {X : Cx} {W : WO} {L : List Nat} {k : Kd} {p pos apos : Pos} {e o a b : Expr} {es : List Expr} {t : TA} {ga : GA} {te : TE} {ge : GE}
theorem room_eq {lv : Nat} (hr : RoomG lv X.A) : X.A.units + 64 < cLine := hr.rm.units
theorem room_repr {lv : Nat} (hr : RoomG lv X.A) : X.A.units + 128 < cLine := by have := hr.rm.un; omega
theorem lenD_okk {K : PySem.W.Frag} (kl : KLOk K) : CallD L .any k (rLenD K) lenD := lenD_ok
/-! statements -/
theorem ds_setC {i : Nat} {x : Str} {pos' : Pos} (hL : L = []) (hN : X.N.Nodup) (hi : X.N[i]? = some x) (hx : Loc X.env.scope x) (he : DE X W L .val e te ge) (hs : swapsWith e (some (.Name x pos')) pos.line X.env = pure false := by rfl) (hf : X.fn x = true ∨ X.env.scope.names.lookup x = some .local := by first | exact .inl rfl | exact .inr rfl | assumption) :
    DS X W L (.Assign [.Name x pos'] e pos) (tAsg te (gName i)) (gSetC i ge) := ⟨ps_set hN hi hx he.pe hs hf, evs_setC hL he.ev⟩
theorem c_append {i : Nat} (hL : L = []) (ho : PE X o (tVar i)) (he : DE X W L .val e te ge) (hbase : attributeBase o "append" X.env (eval o X.env) = eval o X.env := by rfl)
    (hfew : ((backTo pos (starEach [e] X.env)).all (fun x => !x.1) && (backToKw pos (keywordEach [] X.env)).all (fun x => x.1.isSome) && decide ([e].length + ([] : List Keyword).length + (if ([] : List Keyword).isEmpty then 0 else 1) < 30)) = true := by rfl)
    (hline : (apos.endLine == pos.line) = true := by rfl) (hs : starEach [e] X.env = (false, eval e X.env) :: starEach [] X.env := by rfl) :
    DE X W L k (.Call (.Attribute o "append" apos) [e] [] pos) (tBM X.K "list" rAppend (tVar i) (tCons te tNil)) (gApp i ge) := ⟨pe_bm PySem.F.plainAttrs_list PySem.F.slot_list_append PySem.F.type_list_append mt_append ho (pa_cons he.pe pa_nil hs) hbase hfew hline hs, ev_app hL he.ev⟩
theorem c_pop {i : Nat} (ho : PE X o (tVar i)) (hbase : attributeBase o "pop" X.env (eval o X.env) = eval o X.env := by rfl) (hline : (apos.endLine == pos.line) = true := by rfl) :
    DE X W L k (.Call (.Attribute o "pop" apos) [] [] pos) (tBM0 X.K "list" rPop (tVar i)) (gPop i) := ⟨pe_bm0 PySem.F.plainAttrs_list PySem.F.slot_list_pop PySem.F.type_list_pop mt_pop ho hbase hline, ev_pop⟩
theorem c_popAt {i : Nat} (ho : PE X o (tVar i)) (he : DE X W L .any e te ge) (hbase : attributeBase o "pop" X.env (eval o X.env) = eval o X.env := by rfl)
    (hfew : ((backTo pos (starEach [e] X.env)).all (fun x => !x.1) && (backToKw pos (keywordEach [] X.env)).all (fun x => x.1.isSome) && decide ([e].length + ([] : List Keyword).length + (if ([] : List Keyword).isEmpty then 0 else 1) < 30)) = true := by rfl)
    (hline : (apos.endLine == pos.line) = true := by rfl) (hs : starEach [e] X.env = (false, eval e X.env) :: starEach [] X.env := by rfl) :
    DE X W L k (.Call (.Attribute o "pop" apos) [e] [] pos) (tBM X.K "list" rPopAt (tVar i) (tCons te tNil)) (gPopAt i ge) := ⟨pe_bm PySem.F.plainAttrs_list PySem.F.slot_list_pop PySem.F.type_list_pop mt_popAt ho (pa_cons he.pe pa_nil hs) hbase hfew hline hs, ev_popAt he.ev⟩
/-- a name's own reading -/
theorem p_var {i : Nat} {x : Str} (hN : X.N[i]? = some x := by rfl) (hv : Vis X.env.scope x := by first | exact Or.inl rfl | exact Or.inr (Or.inl rfl) | exact Or.inr (Or.inr rfl)) (hd : (x == ("__debug__" : Str)) = false := by decide) (hcd : (x == ("__classdict__" : Str)) = false := by decide) : PE X (.Name x pos) (tVar i) := pe_var hN hv hd hcd
theorem pts_by {c : Expr} {t : TT} {g : GB} (h : DT X none L c t g) : PTs X [c] t ∧ EvB none L t g := ⟨pts_one h.pt, h.ev⟩
/-- exceptions of a def's body -/
theorem tk_of {P : Program} {w : World} {K : PySem.W.Frag} {mg : Str → Option Value} {base : Heap} {N : List Str} {qual : Str} {scope : Scope} {f : Addr} {cd : Value} {A : Around} {outer : List Env} {s : Shared} {H : Hp} {E : XK} : Tk (cxOf (L2N.CX P w) P w K mg base N qual scope f cd A outer s H E) (wE E) :=
  L2N.takes_of (E := E) rfl rfl rfl rfl
theorem po_of {P : Program} {w : World} {K : PySem.W.Frag} {mg : Str → Option Value} {base : Heap} {N : List Str} {qual : Str} {scope : Scope} {f : Addr} {cd : Value} {A : Around} {outer : List Env} {s : Shared} {H : Hp} {E : XK} : PassesOwn (model (cxOf (L2N.CX P w) P w K mg base N qual scope f cd A outer s H E).prog (cxOf (L2N.CX P w) P w K mg base N qual scope f cd A outer s H E).w) (cxOf (L2N.CX P w) P w K mg base N qual scope f cd A outer s H E).A (cxOf (L2N.CX P w) P w K mg base N qual scope f cd A outer s H E).env (cxOf (L2N.CX P w) P w K mg base N qual scope f cd A outer s H E).xe :=
  passes_of rfl
end
instance {P : Program} {w : World} {K : PySem.W.Frag} [h : KLOk K] {mg : Str → Option Value} {base : Heap} {N : List Str} {qual : Str} {scope : Scope} {f : Addr} {cd : Value} {A : Around} {outer : List Env} {s : Shared} {H : Hp} {E : XK} {CX : CXT} : KLOk (cxOf CX P w K mg base N qual scope f cd A outer s H E).K := h
end DL

/-! DL, part v: rules with the written part named. -/
namespace DL
open PySem PySem.Spec PyProof.Rows L2
variable [KL]
section
variable {X : Cx} {W : WO} {L : List Nat} {k : Kd} {p pos apos : Pos} {e o a b tg : Expr} {es : List Expr} {t : TA} {ga : GA} {te : TE} {ge : GE} {K : PySem.W.Frag}
theorem e_ix (kl : KLOk K) {ta tb : TE} {ga gb : GE} (ha : DE X W L k.o a ta ga) (hb : DE X W L .any b tb gb) (hs : PlainIx b := by intro _ _; rfl) (hK : X.K = K := by rfl) : DE X W L k (.Subscript a b pos) (tOp (rIx K) ta tb) (gBin ixD ga gb) := by
  subst hK
  exact de_ix kl ha hb hs
theorem e_sl (kl : KLOk K) {lo hi : Option Expr} {ta : TE} {tl tu : TO} {gx : GE} {gl gu : FS → RL} {p2 : Pos} (ha : DE X W L k.o a ta gx) (hl : DO X W L lo tl gl) (hu : DO X W L hi tu gu) (hK : X.K = K := by rfl) :
    DE X W L k (.Subscript a (.Slice lo hi none p2) pos) (tSl (rSlD K) ta tl tu) (gSl gx gl gu) := by
  subst hK
  exact de_sl kl ha hl hu
theorem e_isi (kl : KLOk K) {p2 : Pos} {x : Str} {T : Ty} {te : TE} {ge : GE} (hg : Gl X "isinstance") (hm : X.mg "isinstance" = none) (hgT : Gl X x) (hmT : X.mg x = none) (hv : bootBuiltins x = some (.type T.name)) (he : DE X W L .any e te ge) (hnT : x ≠ "__name__" := by decide) (hdT : (x == ("__debug__" : Str)) = false := by decide)
    (hs : starEach [e, .Name x p] X.env = (false, eval e X.env) :: starEach [.Name x p] X.env := by rfl) (hs2 : starEach [.Name x p] X.env = (false, eval (.Name x p) X.env) :: starEach [] X.env := by rfl) (hpl : (backTo pos (starEach [.Name x p] X.env)).any (·.1) = false := by rfl) (hK : X.K = K := by rfl) :
    DE X W L k (.Call (.Name "isinstance" p2) [e, .Name x p] [] pos) (tCB (rIsX K) (tCons te (tCons (tC (.ty T.name)) tNil))) (gIsi T ge) := by
  subst hK
  exact de_isi kl hg hm hgT hmT hv he hnT hdT hs hs2 hpl
def rListD (K : PySem.W.Frag) : List V → Hp → VK → Prop := fun xs H Q => ∃ p ys, xs = [.ref p] ∧ (SqL K H p ys ∨ SqT K H p ys) ∧ ∀ l, H l = none → Q (.ref l) (upd H l (.lst ys))
def rTupleD (K : PySem.W.Frag) : List V → Hp → VK → Prop := fun xs H Q => ∃ p ys, xs = [.ref p] ∧ ((SqL K H p ys ∧ ∀ l, H l = none → Q (.ref l) (upd H l (.tup ys))) ∨ (SqT K H p ys ∧ Q (.ref p) H))
theorem call_listD' : CallR X (.type "list") (rListD X.K) := call_list_of
theorem call_tupleD' : CallR X (.type "tuple") (rTupleD X.K) := call_tuple_of
theorem listD_ok' : CallD L k.o k (rListD K) listD := listD_ok
theorem tupleD_ok' : CallD L k.o k (rTupleD K) tupleD := tupleD_ok
theorem k_append {i : Nat} (hL : L = []) (ho : PE X o (tVar i)) (he : DE X W L .val e te ge) (hbase : attributeBase o "append" X.env (eval o X.env) = eval o X.env := by rfl)
    (hfew : ((backTo pos (starEach [e] X.env)).all (fun x => !x.1) && (backToKw pos (keywordEach [] X.env)).all (fun x => x.1.isSome) && decide ([e].length + ([] : List Keyword).length + (if ([] : List Keyword).isEmpty then 0 else 1) < 30)) = true := by rfl)
    (hline : (apos.endLine == pos.line) = true := by rfl) (hs : starEach [e] X.env = (false, eval e X.env) :: starEach [] X.env := by rfl) (hK : X.K = K := by rfl) :
    DE X W L k (.Call (.Attribute o "append" apos) [e] [] pos) (tBM K "list" rAppend (tVar i) (tCons te tNil)) (gApp i ge) := by
  subst hK
  exact c_append hL ho he hbase hfew hline hs
theorem k_pop {i : Nat} (ho : PE X o (tVar i)) (hbase : attributeBase o "pop" X.env (eval o X.env) = eval o X.env := by rfl) (hline : (apos.endLine == pos.line) = true := by rfl) (hK : X.K = K := by rfl) :
    DE X W L k (.Call (.Attribute o "pop" apos) [] [] pos) (tBM0 K "list" rPop (tVar i)) (gPop i) := by
  subst hK
  exact c_pop ho hbase hline
theorem k_popAt {i : Nat} (ho : PE X o (tVar i)) (he : DE X W L .any e te ge) (hbase : attributeBase o "pop" X.env (eval o X.env) = eval o X.env := by rfl)
    (hfew : ((backTo pos (starEach [e] X.env)).all (fun x => !x.1) && (backToKw pos (keywordEach [] X.env)).all (fun x => x.1.isSome) && decide ([e].length + ([] : List Keyword).length + (if ([] : List Keyword).isEmpty then 0 else 1) < 30)) = true := by rfl)
    (hline : (apos.endLine == pos.line) = true := by rfl) (hs : starEach [e] X.env = (false, eval e X.env) :: starEach [] X.env := by rfl) (hK : X.K = K := by rfl) :
    DE X W L k (.Call (.Attribute o "pop" apos) [e] [] pos) (tBM K "list" rPopAt (tVar i) (tCons te tNil)) (gPopAt i ge) := by
  subst hK
  exact c_popAt ho he hbase hfew hline hs
theorem i_seq (h : DE X W L .itm e te ge) (hK : X.K = K := by rfl) : DI X W L tg e (iSeq K te) (gSeqI ge) := by
  subst hK
  exact di_seq h
theorem i_enum {tpos : Pos} {elts : List Expr} {kk : Nat} (hg : Gl X "enumerate") (hm : X.mg "enumerate" = none) (ha : DA X W L .itm [e] t ga) (hs : starEach [e] X.env = [(false, eval e X.env)] := by rfl) (hK : X.K = K := by rfl) : DI X W L (.Tuple elts kk tpos) (.Call (.Name "enumerate" p) [e] [] pos) (iEnum K t) (gEnum ga) := by
  subst hK
  exact di_enum hg hm ha hs
theorem i_zip {tpos : Pos} {elts : List Expr} {kk : Nat} {e2 : Expr} (hg : Gl X "zip") (hm : X.mg "zip" = none) (ha : DA X W L .itm [e, e2] t ga) (hs : starEach [e, e2] X.env = (false, eval e X.env) :: starEach [e2] X.env := by rfl) (hpl : (backTo pos (starEach [e2] X.env)).any (·.1) = false := by rfl) (hK : X.K = K := by rfl) :
    DI X W L (.Tuple elts kk tpos) (.Call (.Name "zip" p) [e, e2] [] pos) (iZip K t) (gZip ga) := by
  subst hK
  exact di_zip hg hm ha hs hpl
theorem g_tup {es : List Expr} {kk : Nat} {t : TGs} {g : GTs} {n : Nat} (hc : X.calm = true) (h : DGs X L es t g) (hn : (assignEach es X.env).length = n := by rfl) (hst : (assignEach es X.env).findIdx? (·.1) = none := by rfl) (hK : X.K = K := by rfl) : DG X L (.Tuple es kk pos) (L2.gTup K n t) (gtTup n g) := by
  subst hK
  exact dg_tup hc h hn hst
end
end DL

/-! DL, part w: lists turned about. -/
namespace DL
open PySem PySem.Spec PyProof.Rows L2
variable [KL]
section
variable {X : Cx} {W : WO} {L : List Nat} {k : Kd} {a : Expr} {ta : TE} {gx : GE} {K : PySem.W.Frag} {kk : Nat} {p1 p2 p3 pos : Pos}
def gRev (g : GE) : GE := fun δ => (g δ).bind fun d δ1 => match top δ1 d with
  | .lst ds => .own (.lst ds.reverse) δ1
  | _ => .bad
theorem e_rev (ha : DE X W L k.o a ta gx) (hK : X.K = K := by rfl) : DE X W L k (.Subscript a (.Slice none none (some (.UnaryOp .USub (.Constant (.int 1) kk p1) p2)) p3) pos) (tRevL K ta) (gRev gx) := by
  subst hK
  exact ⟨pe_revL ha.pe, fun F δ σ H Q R P => ha.ev.seq R P fun d δ1 v H1 G P1 => by
    split at P1
    · rename_i ds e
      obtain ⟨l, us, rfl, h1, r1, k1⟩ := G.R.lst G.r G.k e
      exact ⟨l, us, rfl, .inl h1, fun p hp => EPost.new P1 G.R hp (o := .lst us.reverse) r1.reverse (KOk.mk G.R fun q => .lst (k1 q).reverse)⟩
    · exact P1.elim⟩
/-! ### a[lo:hi:step] -/
def sliceIx (n : Nat) (lo hi st : Option Int) : List Nat := sliceRange (sliceBounds lo hi st n).1 (sliceBounds lo hi st n).2.1 (sliceBounds lo hi st n).2.2
def tSl3 (K : PySem.W.Frag) (te : TE) (tl tu ts : TO) : TE := fun σ H Q => te σ H fun x H1 => tl σ H1 fun l H2 => tu σ H2 fun u H3 => ts σ H3 fun st H4 => ∃ a xs, x = .ref a ∧ SqL K H4 a xs ∧ st ≠ some 0 ∧ ∀ p, H4 p = none → Q (.ref p) (upd H4 p (.lst (permL (sliceIx xs.length l u st) xs)))
variable {lo hi st : Option Expr} {tl tu ts : TO} {gl gu gs : FS → RL}
theorem pe_sl3 (he : PE X a ta) (hl : PO X lo tl) (hu : PO X hi tu) (hst : PO X st ts) (hsub : ∀ (b s : Value), subscripted (.Slice lo hi st p3) false b s = operate [b, s] (getItem b s) := by intro _ _; rfl) : PE X (.Subscript a (.Slice lo hi st p3) pos) (tSl3 X.K ta tl tu ts) := by
  refine ⟨fun pins s σ H Q I wish => ?_⟩
  refine Subscript_ (thn (he.run pins s σ H _ I wish) fun v s1 ⟨x, H1, I1, r1, q1⟩ => ?_)
  refine wpAny_Slice (thn (hl.run pins s1 σ H1 _ I1 q1) fun vl s2 ⟨l, H2, I2, pl, q2⟩ => thn (hu.run pins s2 σ H2 _ I2 q2) fun vu s3 ⟨u, H3, I3, pu, q3⟩ => thn (hst.run pins s3 σ H3 _ I3 q3) fun vs s4 ⟨w, H4, I4, pw, q4⟩ => ?_)
  obtain ⟨b, xs, ex, hx, h0, q⟩ := q4
  subst ex
  cases r1
  have I5 : Inv X pins σ H4 { s4 with heap := s4.heap.push { cls := .type "slice", data := .fields #[vl, vu, vs] } } := I4.kept (t' := s4.toks) fun b ob q => Heap.get?_push_of_some _ q
  obtain ⟨its, r, ht, hz⟩ := I5.list hx
  have hlen := r.length
  show wpAny (model X.prog X.w) X.A (subscriptTail a (.Slice lo hi st p3) (.ref b) (.ref s4.heap.objs.size)) (EP X pins σ Q) X.xe { s4 with heap := s4.heap.push { cls := .type "slice", data := .fields #[vl, vu, vs] } }
  refine tail_any (ops := [.ref b, .ref s4.heap.objs.size]) ht.isList.typeIs (PySem.slot_list_getitem.lookup) ?_ (hsub _ _)
  refine wpAny_getItem_list_slice ht.isList (Heap.IsSliceOf.new _ vl vu vs) pl pu pw h0 ?_ (by rw [List.size_toArray]; omega)
  have ep : slicePick its.toArray l u w = (permL (sliceIx xs.length l u w) its).toArray := by
    unfold slicePick sliceIx permL
    rw [List.size_toArray, hlen]
    simp only [List.getElem?_toArray]
  rw [ep]
  refine ⟨.ref _, _, I5.laid (t' := s4.toks) (o := .lst (permL (sliceIx xs.length l u w) xs)) (fun b ob q => Heap.get?_push_of_some _ q) (Nat.le_refl _) ?_, rfl, q _ (I5.hok.fresh (Nat.le_refl _))⟩
  have rp := permL_vals r (sliceIx xs.length l u w)
  have sz : (permL (sliceIx xs.length l u w) its).length ≤ its.length := by
    have := slicePick_size_le its.toArray l u w
    rw [ep, List.size_toArray, List.size_toArray] at this
    exact this
  exact ⟨by rw [rp.length]; omega, _, 0, rp, Heap.get?_push_size _ rfl⟩
def gSl3 (a : GE) (lo hi st : FS → RL) : GE := fun δ => (a δ).bind fun d δ1 => gO lo δ1 fun l δ2 => gO hi δ2 fun u δ3 => gO st δ3 fun s δ4 => match top δ4 d with
  | .lst ds => if s = some 0 then .bad else .own (.lst (permL (sliceIx ds.length l u s) ds)) δ4
  | _ => .bad
theorem permL_vok {L : List Nat} {ds : List D} (h : VOkA L ds) (pm : List Nat) : VOkA L (permL pm ds) := .of fun d hd => h.mem d (permL_mem hd)
theorem e_sl3 (ha : DE X W L k.o a ta gx) (hl : DO X W L lo tl gl) (hu : DO X W L hi tu gu) (hst : DO X W L st ts gs) (hsub : ∀ (b s : Value), subscripted (.Slice lo hi st p3) false b s = operate [b, s] (getItem b s) := by intro _ _; rfl) (hK : X.K = K := by rfl) :
    DE X W L k (.Subscript a (.Slice lo hi st p3) pos) (tSl3 K ta tl tu ts) (gSl3 gx gl gu gs) := by
  subst hK
  exact ⟨pe_sl3 ha.pe hl.po hu.po hst.po hsub, fun F δ σ H Q R P => ha.ev.seq R P fun d δ1 v H1 G1 P1 => hl.use G1.R P1 fun l δ2 H2 R2 s2 P2 => hu.use R2 P2 fun u δ3 H3 R3 s3 P3 => hst.use R3 P3 fun w δ4 H4 R4 s4 P4 => by
    have G := ((G1.shift s2 R2).shift s3 R3).shift s4 R4
    split at P4
    · rename_i ds e
      split at P4
      · exact P4.elim
      · rename_i h0
        obtain ⟨m, us, rfl, h1, r1, k1⟩ := R4.lst G.r G.k e
        refine ⟨m, us, rfl, .inl h1, h0, fun p hp => ?_⟩
        rw [r1.length]
        exact EPost.new P4 R4 hp (o := .lst (permL _ us)) (permL_rep r1 _) (KOk.mk R4 fun q => .lst (permL_vok (k1 q) _))
    · exact P4.elim⟩
end
end DL

/-! DL, part y: in, not in. -/
namespace DL
open PySem PySem.Spec PyProof.Rows L2
variable [KL]
section
variable {L : List Nat} {k : Kd} {K : PySem.W.Frag}
/-- a in b, b a list -/
def inV (δ : FS) (a b : D) : Option Bool := match toPy (res δ a), toPy (res δ b) with
  | some p, some (.list qs) => if SeqAt.shaped p && SeqAt.shaped (.list qs) then some (qs.any fun q => PyData.eqv q p) else none
  | _, _ => none
def inD (δ : FS) (a b : D) : RE := match inV δ a b with | some c => .ok (.bl c) δ | none => .bad
def ninD (δ : FS) (a b : D) : RE := match inV δ a b with | some c => .ok (.bl (!c)) δ | none => .bad
theorem inV_some {F : Fr} {δ : FS} {σ : St} {H : Hp} {a b : D} {c : Bool} (R : Rel F L δ σ H) {x y : V} (ra : RepH F δ σ H x a) (rb : RepH F δ σ H y b) (e : inV δ a b = some c) :
    ∃ d ds, Dp K H x d ∧ Dp K H y (.list ds) ∧ SeqAt.shaped d = true ∧ SeqAt.shaped (.list ds) = true ∧ (ds.any fun z => PyData.eqv z d) = c := by
  unfold inV at e
  split at e
  · rename_i p qs e1 e2
    split at e
    · rename_i z
      obtain ⟨z1, z2⟩ := Bool.and_eq_true_iff.mp z
      cases e
      exact ⟨p, qs, Rep.dp R ra e1, Rep.dp R rb e2, z1, z2, rfl⟩
    · cases e
  · cases e
theorem inD_ok : OpD L .any .any k (rInD K) inD := by
  intro W F δ σ H Q x y a b R ra ka rb kb P
  unfold inD at P
  split at P
  · rename_i c e
    obtain ⟨p, q, h1, h2, h3, h4, rfl⟩ := inV_some (K := K) R ra rb e
    exact ⟨p, q, h1, h2, h3, h4, EPost.give P R (.bl _) (KOk.mk R fun _ => .bl _)⟩
  · exact P.elim
theorem ninD_ok : OpD L .any .any k (rNotInD K) ninD := by
  intro W F δ σ H Q x y a b R ra ka rb kb P
  unfold ninD at P
  split at P
  · rename_i c e
    obtain ⟨p, q, h1, h2, h3, h4, rfl⟩ := inV_some (K := K) R ra rb e
    exact ⟨p, q, h1, h2, h3, h4, EPost.give P R (.bl _) (KOk.mk R fun _ => .bl _)⟩
  · exact P.elim
theorem room_in {X : Cx} {lv : Nat} (hr : RoomG lv X.A) : X.A.units + 65 < cLine := by have := hr.rm.un; omega
end
end DL

/-! DL, part z: list.index. -/
namespace DL
open PySem PySem.Spec PyProof.Rows L2
variable [KL]
section
variable {X : Cx} {W : WO} {L : List Nat} {k : Kd} {K : PySem.W.Frag} {o e : Expr} {to te : TE} {go ge : GE} {pos apos : Pos} {lv : Nat}
def idxV (δ : FS) (a b : D) : Option Nat := match toPy (res δ a), toPy (res δ b) with
  | some (.list ds), some p => if SeqAt.shaped (.list ds) && SeqAt.shaped p then ds.findIdx? fun q => PyData.eqv q p else none
  | _, _ => none
def gIdx (go ge : GE) : GE := fun δ => (go δ).bind fun a δ1 => match top δ1 a with
  | .lst _ => (ge δ1).bind fun b δ2 => (match idxV δ2 a b with | some j => .ok (.int (j : Nat)) δ2 | none => .bad)
  | _ => .bad
theorem k_index (hr : RoomG lv X.A) (ho : DE X W L .any o to go) (he : DE X W L .any e te ge) (hbase : attributeBase o "index" X.env (eval o X.env) = eval o X.env := by rfl)
    (hfew : ((backTo pos (starEach [e] X.env)).all (fun x => !x.1) && (backToKw pos (keywordEach [] X.env)).all (fun x => x.1.isSome) && decide ([e].length + ([] : List Keyword).length + (if ([] : List Keyword).isEmpty then 0 else 1) < 30)) = true := by rfl)
    (hline : (apos.endLine == pos.line) = true := by rfl) (hs : starEach [e] X.env = (false, eval e X.env) :: starEach [] X.env := by rfl) (hK : X.K = K := by rfl) :
    DE X W L k (.Call (.Attribute o "index" apos) [e] [] pos) (tBM K "list" (rIndexD K) to (tCons te tNil)) (gIdx go ge) := by
  subst hK
  refine ⟨pe_bm PySem.F.plainAttrs_list PySem.F.slot_list_index PySem.F.type_list_index (mt_indexD (by have := hr.rm.un; omega)) ho.pe (pa_cons he.pe pa_nil hs) hbase hfew hline hs, fun F δ σ H Q R P => ho.ev.seq R P fun a δ1 v H1 G1 P1 => ?_⟩
  split at P1
  · rename_i xs ex
    obtain ⟨l, us, rfl, h1, _⟩ := G1.R.lst G1.r (k := .any) trivial ex
    refine ⟨.inl ⟨rfl, us, .inl h1⟩, he.ev.seq G1.R P1 fun b δ2 u H2 G2 P2 => ?_⟩
    have G := G1.shift G2.s G2.R
    split at P2
    · rename_i j ej
      unfold idxV at ej
      split at ej
      · rename_i ds p e1 e2
        split at ej
        · rename_i z
          obtain ⟨z1, z2⟩ := Bool.and_eq_true_iff.mp z
          obtain ⟨hj, hp, hno⟩ := List.findIdx?_eq_some_iff_getElem.mp ej
          refine ⟨l, u, p, ds, j, ds[j], rfl, rfl, Rep.dp G2.R G.r e1, Rep.dp G2.R G2.r e2, z1, z2, List.getElem?_eq_getElem hj, hp, fun m z' hm hz => ?_, EPost.give P2 G2.R (.int _) (KOk.mk G2.R fun _ => .int _)⟩
          have hm2 : m < ds.length := by omega
          rw [List.getElem?_eq_getElem hm2] at hz
          cases hz
          have := hno m hm
          simpa using this
        · cases ej
      · cases ej
    · exact P2.elim
  · exact P1.elim
end
end DL

/-! DL, part aa: three values at once, no cells. -/
namespace DL
open PySem PySem.Spec PyProof.Rows L2
variable [KL]
section
variable {X : Cx} {W : WO} {L : List Nat} {ta : TA} {ga : GA} {a b c : Expr} {pos : Pos}
def gPar3F (i j l : Nat) (ga : GA) : GS := fun δ => match ga δ with
  | .ok [d, e, f] δ1 => if notCell δ1 i && notCell δ1 j && notCell δ1 l then .nx (((δ1.set i (some (.fz d))).set j (some (.fz e))).set l (some (.fz f))) else .bad
  | .exn x δ1 => .exn x δ1
  | _ => .bad
theorem evs_par3F {i j l : Nat} (ha : EvA W L .val ta ga) : EvS W L (tPar3 i j l ta) (gPar3F i j l ga) := fun F δ σ H D R P => by
  refine ha F δ σ H _ R ?_
  unfold gPar3F at P
  split at P
  · rename_i d e f δ1 q
    rw [q]
    intro vs H1 R1 s1 r1 k1
    split at P
    · rename_i hn
      rw [Bool.and_eq_true, Bool.and_eq_true] at hn
      obtain ⟨⟨n1, n2⟩, n3⟩ := hn
      match vs, r1 with
      | [v, w, u], .cons r (.cons r2 (.cons r3 .nil)) =>
        refine ⟨v, w, u, rfl, ?_⟩
        have k0 : VOk L d := k1 d List.mem_cons_self
        have k2 : VOk L e := k1 e (List.mem_cons_of_mem _ List.mem_cons_self)
        have k3 : VOk L f := k1 f (List.mem_cons_of_mem _ (List.mem_cons_of_mem _ List.mem_cons_self))
        have R2 := R1.setF (s := some (.fz d)) (v := some v) n1 (fun _ _ q => nomatch q) fun d' q => by cases q; exact ⟨v, rfl, r, k0⟩
        have s2 : SStp L δ1 σ H1 (δ1.set i (some (.fz d))) (σ.set i (some v)) H1 := SStp.setF n1 fun _ _ q => nomatch q
        have m2 : notCell (δ1.set i (some (.fz d))) j = true := notCell_set n2 fun _ _ q => nomatch q
        have R3 := R2.setF (s := some (.fz e)) (v := some w) m2 (fun _ _ q => nomatch q) fun d' q => by cases q; exact ⟨w, rfl, s2.rep k2 r2, k2⟩
        have s3 := s2.trans (SStp.setF (L := L) (H := H1) (s := some (.fz e)) (v := some w) (σ := σ.set i (some v)) m2 fun _ _ q => nomatch q)
        have m3 : notCell ((δ1.set i (some (.fz d))).set j (some (.fz e))) l = true := notCell_set (notCell_set n3 fun _ _ q => nomatch q) fun _ _ q => nomatch q
        have R4 := R3.setF (s := some (.fz f)) (v := some u) m3 (fun _ _ q => nomatch q) fun d' q => by cases q; exact ⟨u, rfl, s3.rep k3 r3, k3⟩
        exact P _ _ R4 ((s1.s.trans s3).trans (SStp.setF m3 fun _ _ q => nomatch q))
    · exact P.elim
  · rename_i x δ1 q
    rw [q]
    cases W with
    | none => exact P
    | some W => exact fun H1 cls dd R1 s1 xr => P σ H1 cls dd R1 s1.s xr
  · exact P.elim
theorem ds_par3F {i j l : Nat} {x y z : Str} {px py pz pt : Pos} {kt k2 pt2} (hc : X.calm = true) (hN : X.N.Nodup) (hi : X.N[i]? = some x) (hj : X.N[j]? = some y) (hl : X.N[l]? = some z) (hij : i ≠ j) (hil : i ≠ l) (hjl : j ≠ l)
    (hx : X.env.scope.names.lookup x = some .local) (hy : X.env.scope.names.lookup y = some .local) (hz : X.env.scope.names.lookup z = some .local) (ha : DA X W L .val [a, b, c] ta ga)
    (hw : swappedStores [.Tuple [.Name x px, .Name y py, .Name z pz] kt pt] (.Tuple [a, b, c] k2 pt2) X.env = pure (some [x, y, z]) := by rfl)
    (hs : swapsWithSole [.Tuple [.Name x px, .Name y py, .Name z pz] kt pt] (.Tuple [a, b, c] k2 pt2) pos.line X.env = pure false := by rfl) :
    DS X W L (.Assign [.Tuple [.Name x px, .Name y py, .Name z pz] kt pt] (.Tuple [a, b, c] k2 pt2) pos) (tPar3 i j l ta) (gPar3F i j l ga) := ⟨ps_par3 hc hN hi hj hl hij hil hjl hx hy hz ha.pa hw hs, evs_par3F ha.ev⟩
end
end DL

/-! DL, part n: several names at once; comprehensions as rules; isinstance; list(range(..)). -/
namespace DL
open PySem PySem.Spec PyProof.Rows L2
variable [KL]

section
variable {W : WO} {F : Fr} {L : List Nat} {k ka kb : Kd} {δ δ' : FS} {σ σ' : St} {H H' : Hp} {X : Cx} {pos p : Pos} {e tg : Expr} {te ti : TE} {ge : GE} {t : TA} {ga : GA}
/-! ### values that wait -/
def Fr.ands (F : Fr) (ps : List Addr) : Fr := { F with Av := fun a => F.Av a ∨ a ∈ ps }
theorem ands_nil : F.ands [] = F := by
  cases F with
  | mk a b c =>
    unfold Fr.ands
    congr 1
    funext x
    exact propext ⟨fun h => h.elim id fun h => absurd h List.not_mem_nil, .inl⟩
theorem ands_cons {ps : List Addr} {q : Addr} : (F.ands ps).and q = F.ands (q :: ps) := by
  unfold Fr.ands Fr.and
  congr 1
  funext x
  refine propext ⟨fun h => ?_, fun h => ?_⟩
  · rcases h with (h | h) | h
    · exact .inl h
    · exact .inr (List.mem_cons_of_mem _ h)
    · exact .inr (by rw [h]; exact List.mem_cons_self)
  · rcases h with h | h
    · exact .inl (.inl h)
    · rcases List.mem_cons.mp h with h | h
      · exact .inr h
      · exact .inl (.inr h)
theorem ands_out {ps : List Addr} {q : Addr} (hq : q ∈ ps) : F.ands ps = (F.ands (ps.filter (· ≠ q))).and q := by
  unfold Fr.ands Fr.and
  congr 1
  funext x
  refine propext ⟨fun h => ?_, fun h => ?_⟩
  · rcases h with h | h
    · exact .inl (.inl h)
    · by_cases z : x = q
      · exact .inr z
      · exact .inl (.inr (List.mem_filter.mpr ⟨h, by simpa using z⟩))
  · rcases h with (h | h) | h
    · exact .inl h
    · exact .inr (List.mem_filter.mp h).1
    · exact .inr (by rw [h]; exact hq)
theorem MA_ands {ps : List Addr} {a : Addr} : MA (F.ands ps) δ σ a ↔ MA F δ σ a ∨ a ∈ ps := by
  unfold MA Fr.ands
  constructor
  · rintro ((h | h) | h)
    · exact .inl (.inl h)
    · exact .inr h
    · exact .inl (.inr h)
  · rintro ((h | h) | h)
    · exact .inl (.inl h)
    · exact .inr h
    · exact .inl (.inr h)
/-- a value that waits: a new object of its own (c), or any value -/
def PV (F : Fr) (ps : List Addr) (δ : FS) (σ : St) (H : Hp) (c : Bool) (v : V) (d : D) : Prop :=
  VOk [] d ∧ (c = true → ∃ q o, v = .ref q ∧ q ∈ ps ∧ H q = some o ∧ ObjD H (cA δ σ) (MA (F.ands ps) δ σ) o d ∧ F.H0 q = none ∧ ¬ F.Av q ∧ ∀ j m c, IsC δ j m c → ¬ At σ j (.ref q)) ∧ (c = false → RepH (F.ands ps) δ σ H v d)
theorem PV.mono {ps ps' : List Addr} {c : Bool} {v : V} {d : D} (h : PV F ps δ σ H c v d) (hH : ∀ a o, H a = some o → ¬ MuA δ σ a → H' a = some o) (hM : ∀ a, H a ≠ none → ¬ MA (F.ands ps) δ σ a → ¬ MA (F.ands ps') δ' σ' a)
    (hp : ∀ q, (∃ o, H q = some o ∧ v = .ref q ∧ c = true) → q ∈ ps → q ∈ ps') (hc : ∀ q o, H q = some o → (∀ j m c, IsC δ j m c → ¬ At σ j (.ref q)) → v = .ref q → c = true → ∀ j m c, IsC δ' j m c → ¬ At σ' j (.ref q)) : PV F ps' δ' σ' H' c v d := by
  obtain ⟨k, h1, h2⟩ := h
  refine ⟨k, fun hc' => ?_, fun hc' => ?_⟩
  · obtain ⟨q, o, e, hq, ho, ob, a, b, n⟩ := h1 hc'
    have nm : ¬ MuA δ σ q := fun ⟨j, m, c, h, _, ea⟩ => n j m c h ea
    exact ⟨q, o, e, hp q ⟨o, ho, e, hc'⟩ hq, hH q o ho nm, ob.monoL (L := []) (fun x u e n => hH x u e fun z => n (.inr z)) (fun j hj => absurd hj List.not_mem_nil) hM k, a, b, hc q o ho n e hc'⟩
  · exact (h2 hc').monoL (L := []) (fun x u e n => hH x u e fun z => n (.inr z)) (fun j hj => absurd hj List.not_mem_nil) hM k
theorem PV.stp {ps : List Addr} {c : Bool} {v : V} {d : D} (h : PV F ps δ σ H c v d) (s : Stp δ σ H δ' H') : PV F ps δ' σ H' c v d :=
  h.mono s.hp (fun a _ n q => n (s.MA q)) (fun q _ h => h) fun q o _ n _ _ j m c h => by
    obtain ⟨m', c', h'⟩ := (s.cc j).mpr ⟨m, c, h⟩
    exact n j m' c' h'
theorem PV.more {ps : List Addr} {c : Bool} {v : V} {d : D} (h : PV F ps δ σ H c v d) {q : Addr} {o : HO} (hq : H q = none) : PV F (q :: ps) δ σ (upd H q o) c v d :=
  h.mono (fun a u e _ => by rw [upd_ne (ne_of_none e hq)]; exact e) (fun a ha n z => by
    rcases MA_ands.mp z with z | z
    · exact n (MA_ands.mpr (.inl z))
    · rcases List.mem_cons.mp z with z | z
      · exact ha (by rw [z]; exact hq)
      · exact n (MA_ands.mpr (.inr z))) (fun x _ h => List.mem_cons_of_mem _ h) fun x o _ n _ _ => n
/-- what an expression has come to, with the wish that it be a new object (c) -/
def RE.pick (c : Bool) : RE → Option (D × FS)
  | .ok d δ => if c = true then none else some (d, δ)
  | .own d δ => some (d, δ)
  | _ => none
theorem EPost.pend {ps : List Addr} {c : Bool} {r : RE} {Q1 : VK} (hr : ∃ d δ', r.pick c = some (d, δ'))
    (K : ∀ d δ' v H' ps', r.pick c = some (d, δ') → Rel (F.ands ps') [] δ' σ H' → PV F ps' δ' σ H' c v d → (∀ c' v' d', PV F ps δ σ H c' v' d' → PV F ps' δ' σ H' c' v' d') → SStp [] δ σ H δ' σ H' → Q1 v H') : EPost none (F.ands ps) [] .val δ σ H Q1 r := by
  obtain ⟨d, δ', e⟩ := hr
  cases r with
  | ok d1 δ1 =>
    unfold RE.pick at e
    cases c with
    | true => cases e
    | false =>
      cases e
      exact fun v H1 R1 s1 r1 k1 => K d δ' v H1 ps rfl R1 ⟨k1, (fun z => nomatch z), fun _ => r1⟩ (fun c' v' d' h => h.stp s1) s1.s
  | ownT _ _ _ _ => cases e
  | own d1 δ1 =>
    cases e
    intro q H1 o R1 s1 hq ob k1
    cases c with
    | false => exact K d δ' (.ref q) (upd H1 q o) ps rfl (R1.laid hq) ⟨k1, (fun z => nomatch z), fun _ => own_rep R1 hq ob⟩ (fun c' v' d' h => h.stp (s1.laid hq)) (s1.laid hq).s
    | true =>
      have R2 := R1.and (o := o) hq
      rw [ands_cons] at R2
      refine K d δ' (.ref q) (upd H1 q o) (q :: ps) rfl R2 ⟨k1, fun _ => ⟨q, o, rfl, List.mem_cons_self, upd_same, ?_, ?_, ?_, ?_⟩, (fun z => nomatch z)⟩ (fun c' v' d' h => (h.stp s1).more hq) (s1.laid hq).s
      · refine ob.mono (fun a u e _ => by rw [upd_ne (ne_of_none e hq)]; exact e) (fun _ _ h => h) fun a ha n z => ?_
        rcases MA_ands.mp z with z | z
        · exact n (MA_ands.mpr (.inl z))
        · rcases List.mem_cons.mp z with z | z
          · exact ha (by rw [z]; exact hq)
          · exact n (MA_ands.mpr (.inr z))
      · exact (R1.h0 hq).1
      · exact fun z => R1.avt q (.inl z) hq
      · intro j m c h ea
        obtain ⟨a, u, ea', hu, _⟩ := R1.cell j m c h
        cases Option.some.inj (Option.some.inj (ea.symm.trans ea'))
        rw [hq] at hu
        cases hu
  | exn x δ1 => cases e
  | bad => cases e
/-- a waiting value goes to its slot -/
def putS (c : Bool) (i : Nat) (d : D) (δ : FS) : Option FS := if c = true then (if freeSlot δ i then some (δ.set i (some (.cl .mu d))) else none) else if notCell δ i then some (δ.set i (some (.fz d))) else none
theorem PV.put {ps : List Addr} {c : Bool} {v : V} {d : D} {i : Nat} (h : PV F ps δ σ H c v d) (R : Rel (F.ands ps) [] δ σ H) (e : putS c i d δ = some δ') :
    ∃ ps', Rel (F.ands ps') [] δ' (σ.set i (some v)) H ∧ (∀ c' v' d', v' ≠ v ∨ c' = false → PV F ps δ σ H c' v' d' → PV F ps' δ' (σ.set i (some v)) H c' v' d') ∧ (∀ a, MuA δ' (σ.set i (some v)) a → MuA δ σ a ∨ a ∈ ps) ∧ ∀ q ∈ ps', q ∈ ps := by
  obtain ⟨kd, h1, h2⟩ := h
  unfold putS at e
  cases c with
  | false =>
    simp only [Bool.false_eq_true, if_false] at e
    split at e
    · rename_i hn
      cases e
      refine ⟨ps, R.setF hn (fun _ _ q => by cases q) (fun d' q => by cases q; exact ⟨v, rfl, h2 rfl, kd⟩), fun c' v' d' _ h' => ?_, fun a z => .inl ((MuA_setF hn fun _ _ q => by cases q).mp z), fun _ h => h⟩
      have eM : MA (F.ands ps) (δ.set i (some (.fz d))) (σ.set i (some v)) = MA (F.ands ps) δ σ := MA_setF hn fun _ _ q => by cases q
      exact h'.mono (fun _ _ h _ => h) (fun a _ n q => n (by rw [eM] at q; exact q)) (fun _ _ h => h) fun q o _ n _ _ j m c hc ea => by
        have hc' := (cell_setF hn fun _ _ q => by cases q).mp hc
        exact n j m c hc' ((cell_at hn hc').mp ea)
    · cases e
  | true =>
    simp only [if_true] at e
    split at e
    · rename_i hf
      cases e
      obtain ⟨q, o, rfl, hq, ho, ob, h0, hv, hc⟩ := h1 rfl
      have iδ := freeSlot_lt hf
      have iσ : i < σ.length := by rw [← R.len]; exact iδ
      rw [ands_out hq] at R ob
      have nm : ¬ MuA δ σ q := fun ⟨j, m, c, h, _, ea⟩ => hc j m c h ea
      have nf : ¬ (F.ands (ps.filter (· ≠ q))).Av q := fun z => z.elim hv fun z => by simpa using (List.mem_filter.mp z).2
      have R2 := R.setC hf List.not_mem_nil h0 nf ho nm hc ob kd
      have cs : ∀ {j m c}, IsC (δ.set i (some (.cl .mu d))) j m c → j ≠ i → IsC δ j m c := fun {j m c} h z => by
        have h : (δ.set i _)[j]? = _ := h
        rw [List.getElem?_set_ne (Ne.symm z)] at h
        exact h
      have as : ∀ {j x}, At (σ.set i (some (.ref q))) j x → j ≠ i → At σ j x := fun {j x} h z => by
        have h : (σ.set i _)[j]? = _ := h
        rw [List.getElem?_set_ne (Ne.symm z)] at h
        exact h
      have ai : ∀ {x}, At (σ.set i (some (.ref q))) i x → x = .ref q := fun {x} h => by
        have h : (σ.set i _)[i]? = _ := h
        rw [List.getElem?_set_self iσ] at h
        exact (Option.some.inj (Option.some.inj h)).symm
      have mu : ∀ a, MuA (δ.set i (some (.cl .mu d))) (σ.set i (some (.ref q))) a → MuA δ σ a ∨ a = q := fun a ⟨j, m, c, h, n, ea⟩ => by
        by_cases z : j = i
        · subst z
          exact .inr (V.ref.inj (ai ea))
        · exact .inl ⟨j, m, c, cs h z, n, as ea z⟩
      refine ⟨ps.filter (· ≠ q), R2, fun c' v' d' hne h' => ?_, fun a z => (mu a z).imp id (fun z => by rw [z]; exact hq), fun q h => (List.mem_filter.mp h).1⟩
      refine h'.mono (fun _ _ h _ => h) (fun a _ n z => ?_) (fun x hx hm => ?_) fun x o' _ n ev hc' j m c h ea => ?_
      · rcases MA_ands.mp z with z | z
        · rcases z with z | z
          · exact n (MA_ands.mpr (.inl (.inl z)))
          · rcases mu a z with z | z
            · exact n (MA_ands.mpr (.inl (.inr z)))
            · exact n (MA_ands.mpr (.inr (by rw [z]; exact hq)))
        · exact n (MA_ands.mpr (.inr (List.mem_filter.mp z).1))
      · obtain ⟨_, _, ev, hc'⟩ := hx
        refine List.mem_filter.mpr ⟨hm, ?_⟩
        have : x ≠ q := fun z => by
          rcases hne with hne | hne
          · exact hne (by rw [ev, z])
          · rw [hne] at hc'; cases hc'
        simpa using this
      · by_cases z : j = i
        · subst z
          have e := V.ref.inj (ai ea)
          rcases hne with hne | hne
          · exact hne (by rw [ev, e])
          · rw [hne] at hc'; cases hc'
        · exact n j m c (cs h z) (as ea z)
    · cases e
end
end DL

/-! DL, part bb: several values at once, cells among them. -/
namespace DL
open PySem PySem.Spec PyProof.Rows L2
variable [KL]
section
variable {W : WO} {F : Fr} {L : List Nat} {δ δ' : FS} {σ σ' : St} {H H' : Hp} {ps : List Addr}
theorem Rel.weakAv (R : Rel (F.ands ps) L δ σ H) : Rel F L δ σ H := by
  have mm : ∀ a, MA F δ σ a → MA (F.ands ps) δ σ a := fun a h => MA_ands.mpr (.inl h)
  refine ⟨R.len, fun i d e => ?_, R.vok, fun i m d e => ?_, R.cok, R.dist, R.keep, fun a h => R.avt a (.inl h), R.bt, R.bor, fun i m d a e hm ea z => R.avm i m d a e hm ea (.inl z)⟩
  · obtain ⟨v, ev, r⟩ := R.slot i d e
    exact ⟨v, ev, r.mono (fun _ _ h _ => h) (fun _ _ h => h) fun a _ n q => n (mm a q)⟩
  · obtain ⟨a, o, ea, ho, ob, z⟩ := R.cell i m d e
    exact ⟨a, o, ea, ho, ob.mono (fun _ _ h _ => h) (fun _ _ h => h) (fun a _ n q => n (mm a q)), z⟩
theorem EPost.pend2 {c : Bool} {r : RE} {Q1 : VK} (hr : ∃ d δ', r.pick c = some (d, δ'))
    (K : ∀ d δ' v H' ps', r.pick c = some (d, δ') → Rel (F.ands ps') [] δ' σ H' → PV F ps' δ' σ H' c v d → (∀ c' v' d', PV F ps δ σ H c' v' d' → PV F ps' δ' σ H' c' v' d') → SStp [] δ σ H δ' σ H' → (∀ q ∈ ps', q ∈ ps ∨ H q = none) → (c = true → ∀ q, v = .ref q → H q = none) → Q1 v H') : EPost W (F.ands ps) [] .val δ σ H Q1 r := by
  obtain ⟨d, δ', e⟩ := hr
  cases r with
  | ok d1 δ1 =>
    unfold RE.pick at e
    cases c with
    | true => cases e
    | false =>
      cases e
      exact fun v H1 R1 s1 r1 k1 => K d δ' v H1 ps rfl R1 ⟨k1, (fun z => nomatch z), fun _ => r1⟩ (fun c' v' d' h => h.stp s1) s1.s (fun q h => .inl h) (fun z => nomatch z)
  | ownT _ _ _ _ => cases e
  | own d1 δ1 =>
    cases e
    intro q H1 o R1 s1 hq ob k1
    have hq0 : H q = none := by
      cases z : H q with
      | none => rfl
      | some u => exact absurd hq (s1.th q (by rw [z]; exact fun z => nomatch z))
    cases c with
    | false => exact K d δ' (.ref q) (upd H1 q o) ps rfl (R1.laid hq) ⟨k1, (fun z => nomatch z), fun _ => own_rep R1 hq ob⟩ (fun c' v' d' h => h.stp (s1.laid hq)) (s1.laid hq).s (fun q h => .inl h) (fun z => nomatch z)
    | true =>
      have R2 := R1.and (o := o) hq
      rw [ands_cons] at R2
      refine K d δ' (.ref q) (upd H1 q o) (q :: ps) rfl R2 ⟨k1, fun _ => ⟨q, o, rfl, List.mem_cons_self, upd_same, ?_, ?_, ?_, ?_⟩, (fun z => nomatch z)⟩ (fun c' v' d' h => (h.stp s1).more hq) (s1.laid hq).s (fun x hx => ?_) (fun _ x hx => by cases hx; exact hq0)
      · refine ob.mono (fun a u e _ => by rw [upd_ne (ne_of_none e hq)]; exact e) (fun _ _ h => h) fun a ha n z => ?_
        rcases MA_ands.mp z with z | z
        · exact n (MA_ands.mpr (.inl z))
        · rcases List.mem_cons.mp z with z | z
          · exact ha (by rw [z]; exact hq)
          · exact n (MA_ands.mpr (.inr z))
      · exact (R1.h0 hq).1
      · exact fun z => R1.avt q (.inl z) hq
      · intro j m c h ea
        obtain ⟨a, u, ea', hu, _⟩ := R1.cell j m c h
        cases Option.some.inj (Option.some.inj (ea.symm.trans ea'))
        rw [hq] at hu
        cases hu
      · rcases List.mem_cons.mp hx with rfl | hx
        · exact .inr hq0
        · exact .inl hx
  | exn x δ1 => cases e
  | bad => cases e
theorem PV.put2 {c : Bool} {v : V} {d : D} {i : Nat} (h : PV F ps δ σ H c v d) (R : Rel (F.ands ps) [] δ σ H) (e : putS c i d δ = some δ') :
    ∃ ps', Rel (F.ands ps') [] δ' (σ.set i (some v)) H ∧ (∀ c' v' d', (c = true → c' = true → v' ≠ v) → PV F ps δ σ H c' v' d' → PV F ps' δ' (σ.set i (some v)) H c' v' d') ∧ (∀ a, MuA δ' (σ.set i (some v)) a → MuA δ σ a ∨ a ∈ ps) ∧ ∀ q ∈ ps', q ∈ ps := by
  cases c with
  | true =>
    obtain ⟨ps', h1, h2, h3, h4⟩ := h.put R e
    refine ⟨ps', h1, fun c' v' d' hne h' => h2 c' v' d' ?_ h', h3, h4⟩
    cases c' with
    | true => exact .inl (hne rfl rfl)
    | false => exact .inr rfl
  | false =>
    obtain ⟨kd, h1, h2⟩ := h
    unfold putS at e
    simp only [Bool.false_eq_true, if_false] at e
    split at e
    · rename_i hn
      cases e
      refine ⟨ps, R.setF hn (fun _ _ q => by cases q) (fun d' q => by cases q; exact ⟨v, rfl, h2 rfl, kd⟩), fun c' v' d' _ h' => ?_, fun a z => .inl ((MuA_setF hn fun _ _ q => by cases q).mp z), fun _ h => h⟩
      have eM : MA (F.ands ps) (δ.set i (some (.fz d))) (σ.set i (some v)) = MA (F.ands ps) δ σ := MA_setF hn fun _ _ q => by cases q
      exact h'.mono (fun _ _ h _ => h) (fun a _ n q => n (by rw [eM] at q; exact q)) (fun _ _ h => h) fun q o _ n _ _ j m c hc ea => by
        have hc' := (cell_setF hn fun _ _ q => by cases q).mp hc
        exact n j m c hc' ((cell_at hn hc').mp ea)
    · cases e
/-- a, b = x, y; c1, c2: is the target a cell -/
def gPar2 (c1 : Bool) (i : Nat) (c2 : Bool) (j : Nat) (a b : GE) : GS := fun δ => match (a δ).pick c1 with
  | some (d, δ1) => (match (b δ1).pick c2 with
    | some (e, δ2) => (match putS c1 i d δ2 with
      | some δ3 => (match putS c2 j e δ3 with
        | some δ4 => .nx δ4
        | none => .bad)
      | none => .bad)
    | none => .bad)
  | none => .bad
theorem evs_par2 {c1 c2 : Bool} {i j : Nat} {ta tb : TE} {a b : GE} (ha : Ev W [] .val ta a) (hb : Ev W [] .val tb b) : EvS W [] (tPar i j (tCons ta (tCons tb tNil))) (gPar2 c1 i c2 j a b) := fun F δ σ H D R P => by
  unfold gPar2 at P
  split at P
  · rename_i d δ1 e1
    split at P
    · rename_i e δ2 e2
      split at P
      · rename_i δ3 e3
        split at P
        · rename_i δ4 e4
          have R0 : Rel (F.ands []) [] δ σ H := by rw [ands_nil]; exact R
          refine ha (F.ands []) δ σ H _ R0 (EPost.pend2 ⟨d, δ1, e1⟩ fun d' δ1' x H1 ps1 q1 R1 v1 _ s1 f1 n1 => ?_)
          rw [e1] at q1
          cases q1
          refine hb (F.ands ps1) δ1 σ H1 _ R1 (EPost.pend2 ⟨e, δ2, e2⟩ fun e' δ2' y H2 ps2 q2 R2 v2 up2 s2 f2 n2 => ?_)
          rw [e2] at q2
          cases q2
          obtain ⟨ps3, R3, up3, m3, w3⟩ := (up2 c1 x d v1).put2 R2 e3
          have ne : c1 = true → c2 = true → y ≠ x := fun z1 z2 q => by
            obtain ⟨a1, o1, ex, _, ho, _⟩ := v1.2.1 z1
            have := n2 z2 a1 (by rw [q, ex])
            rw [this] at ho
            cases ho
          obtain ⟨ps4, R4, _, m4, _⟩ := (up3 c2 y e ne v2).put2 R3 e4
          refine ⟨x, y, rfl, P _ _ R4.weakAv ?_⟩
          have fr : ∀ a, a ∈ ps2 → H a = none := fun a ha => by
            rcases f2 a ha with z | z
            · rcases f1 a z with z | z
              · exact absurd z List.not_mem_nil
              · exact z
            · cases q : H a with
              | none => rfl
              | some u => exact absurd z (s1.th a (by rw [q]; exact fun z => nomatch z))
          have s12 := s1.trans s2
          refine ⟨fun a h => ?_, s12.hp, fun j hj => absurd hj List.not_mem_nil, s12.th⟩
          rcases m4 a h with h | h
          · rcases m3 a h with h | h
            · exact s12.mu a h
            · exact .inr (fr a h)
          · exact .inr (fr a (w3 a h))
        · exact P.elim
      · exact P.elim
    · exact P.elim
  · exact P.elim
theorem ds_par2 {X : Cx} {c1 c2 : Bool} {i j : Nat} {x y : Str} {ea eb : Expr} {ta tb : TE} {a b : GE} {pos px py pt : Pos} {kt k2 pt2} (hc : X.calm = true) (hN : X.N.Nodup) (hi : X.N[i]? = some x) (hj : X.N[j]? = some y) (hij : i ≠ j)
    (hx : X.env.scope.names.lookup x = some .local) (hy : X.env.scope.names.lookup y = some .local) (ha : DE X W [] .val ea ta a) (hb : DE X W [] .val eb tb b)
    (hw : swappedStores [.Tuple [.Name x px, .Name y py] kt pt] (.Tuple [ea, eb] k2 pt2) X.env = pure (some [x, y]) := by rfl)
    (hs : swapsWithSole [.Tuple [.Name x px, .Name y py] kt pt] (.Tuple [ea, eb] k2 pt2) pos.line X.env = pure false := by rfl)
    (h1 : starEach [ea, eb] X.env = (false, eval ea X.env) :: starEach [eb] X.env := by rfl) (h2 : starEach [eb] X.env = (false, eval eb X.env) :: starEach [] X.env := by rfl) :
    DS X W [] (.Assign [.Tuple [.Name x px, .Name y py] kt pt] (.Tuple [ea, eb] k2 pt2) pos) (tPar i j (tCons ta (tCons tb tNil))) (gPar2 c1 i c2 j a b) := ⟨ps_par hc hN hi hj hij hx hy (pa_cons ha.pe (pa_cons hb.pe pa_nil h2) h1) hw hs, evs_par2 ha.ev hb.ev⟩
end
end DL

/-! DL, part cc: len(set(..)). -/
namespace DL
open PySem PySem.Spec PyProof.Rows L2
variable [KL]
section
variable {X : Cx} {W : WO} {L : List Nat} {k : Kd} {a : Expr} {ta : TE} {ga : GE} {K : PySem.W.Frag} {p p2 q pos : Pos}
/-- whole numbers, all different -/
def gLenSet (g : GE) : GE := fun δ => (g δ).bind fun d δ1 => match top δ1 d with
  | .lst xs => (match intsOf xs with
    | some ns => if ns.Nodup ∧ ns.length ≤ 4000 then .ok (.int (ns.length : Nat)) δ1 else .bad
    | none => .bad)
  | _ => .bad
theorem e_lenSet (hc : X.calm = true) (hg : Gl X "len") (hm : X.mg "len" = none) (hg2 : Gl X "set") (hm2 : X.mg "set" = none) (ha : DE X W L .any a ta ga)
    (na : starEach [a] X.env = (false, eval a X.env) :: starEach [] X.env := by rfl) (hK : X.K = K := by rfl) : DE X W L k (.Call (.Name "len" p) [.Call (.Name "set" p2) [a] [] q] [] pos) (RZ.tLenSetI K ta) (gLenSet ga) := by
  subst hK
  exact ⟨RZ.pe_lenSetI hg hm hg2 hm2 ha.pe hc na, fun F δ σ H Q R P => ha.ev.seq R P fun d δ1 v H1 G P1 => by
    split at P1
    · rename_i xs e
      split at P1
      · rename_i ns en
        split at P1
        · rename_i hn
          obtain ⟨l, us, rfl, h1, r1, _⟩ := G.R.lst G.r (k := .any) trivial e
          rw [intsOf_rep r1 en] at h1
          exact ⟨l, ns, rfl, .inl h1, hn.1, hn.2, EPost.give P1 G.R (.int _) (KOk.mk G.R fun _ => .int _)⟩
        · exact P1.elim
      · exact P1.elim
    · exact P1.elim⟩
end
end DL

/-! DL, part dd: a cell's list handed to another name. -/
namespace DL
open PySem PySem.Spec PyProof.Rows L2
variable [KL]
section
variable {X : Cx} {W : WO} {L : List Nat} {i j : Nat} {pos p pos' : Pos} {x y : Str}
/-- y = x, x a cell: its list is locked, y holds it -/
def gMov (j i : Nat) : GS := fun δ => match frz δ (.var i) with
  | some (ds, δ1) => if notCell δ1 j then .nx (δ1.set j (some (.fz (.lst ds)))) else .bad
  | none => .bad
theorem evs_mov : EvS W L (tAsg (tVar i) (gName j)) (gMov j i) := fun F δ σ H D R P => by
  unfold gMov at P
  split at P
  · rename_i ds δ1 e
    split at P
    · rename_i hn
      have hc : ∃ m c, IsC δ i m c := by
        unfold frz at e
        simp only at e
        split at e
        · rename_i xs e1; exact ⟨_, _, e1⟩
        · rename_i xs e1; exact ⟨_, _, e1⟩
        · cases e
      obtain ⟨m, c, ec⟩ := hc
      obtain ⟨a, o, ea, ho, _⟩ := R.cell i m c ec
      have rv : RepH F δ σ H (.ref a) (.var i) := .var (cA_some.mpr ⟨⟨m, c, ec⟩, ea⟩)
      have kv : KOk L .itm δ (.var i) := by
        show VOk L (top δ (.var i))
        rw [top_var ec]
        exact (R.cok _ _ _ ec).mono fun _ h => absurd h List.not_mem_nil
      obtain ⟨a', us, ea', R1, s1, z⟩ := frz_ok R rv kv e
      cases ea'
      refine ⟨.ref a, ea, P _ _ (R1.setF hn (fun _ _ q => by cases q) fun d' q => by cases q; exact ⟨_, rfl, .lst z.rd z.nm z.rp, .lst z.kv⟩) (s1.s.trans (SStp.setF hn fun _ _ q => by cases q))⟩
    · exact P.elim
  · exact P.elim
theorem ds_mov (hN : X.N.Nodup) (hj : X.N[j]? = some y) (hx : Loc X.env.scope y) (he : PE X (.Name x p) (tVar i)) (hs : swapsWith (.Name x p) (some (.Name y pos')) pos.line X.env = pure false := by rfl) (hf : X.fn y = true ∨ X.env.scope.names.lookup y = some .local := by first | exact .inl rfl | exact .inr rfl | assumption) :
    DS X W L (.Assign [.Name y pos'] (.Name x p) pos) (tAsg (tVar i) (gName j)) (gMov j i) := ⟨ps_set hN hj hx he hs hf, evs_mov⟩
end
end DL

/-! DL, part ee: any number of values at once, cells among them, names that are caught too. -/
namespace DL
open PySem PySem.Spec PyProof.Rows L2
variable [KL]
section
variable {W : WO} {F : Fr} {δ δ' : FS} {σ σ' : St} {H H' : Hp} {ps : List Addr} {K : PySem.W.Frag}
inductive PVs (F : Fr) (ps : List Addr) (δ : FS) (σ : St) (H : Hp) : List Bool → List V → List D → Prop
  | nil : PVs F ps δ σ H [] [] []
  | cons {c : Bool} {v : V} {d : D} {cs : List Bool} {vs : List V} {ds : List D} : PV F ps δ σ H c v d → (c = true → ∀ (k : Nat) v', cs[k]? = some true → vs[k]? = some v' → v' ≠ v) → PVs F ps δ σ H cs vs ds → PVs F ps δ σ H (c :: cs) (v :: vs) (d :: ds)
theorem PVs.map {F' : Fr} {ps' : List Addr} : ∀ {cs : List Bool} {vs : List V} {ds : List D}, PVs F ps δ σ H cs vs ds → (∀ (k : Nat) c v d, cs[k]? = some c → vs[k]? = some v → PV F ps δ σ H c v d → PV F' ps' δ' σ' H' c v d) → PVs F' ps' δ' σ' H' cs vs ds
  | _, _, _, .nil, _ => .nil
  | _, _, _, .cons h n r, f => .cons (f 0 _ _ _ rfl rfl h) n (PVs.map r fun k c v d e1 e2 => f (k + 1) c v d e1 e2)
theorem PVs.len : ∀ {cs : List Bool} {vs : List V} {ds : List D}, PVs F ps δ σ H cs vs ds → vs.length = cs.length
  | _, _, _, .nil => rfl
  | _, _, _, .cons _ _ r => congrArg (· + 1) (PVs.len r)
def pickN : List Bool → List GE → FS → Option (List D × FS)
  | [], [], δ => some ([], δ)
  | c :: cs, g :: gs, δ => match (g δ).pick c with
    | some (d, δ1) => (match pickN cs gs δ1 with
      | some (ds, δ2) => some (d :: ds, δ2)
      | none => none)
    | none => none
  | _, _, _ => none
def putN : List Bool → List Nat → List D → FS → Option FS
  | [], [], [], δ => some δ
  | c :: cs, i :: is, d :: ds, δ => match putS c i d δ with
    | some δ1 => putN cs is ds δ1
    | none => none
  | _, _, _, _ => none
def setN : St → List Nat → List V → St
  | σ, i :: is, v :: vs => setN (σ.set i (some v)) is vs
  | σ, _, _ => σ
/-- a, b, .. = x, y, ..; cs: is the target a cell -/
def gParN (cs : List Bool) (is : List Nat) (gs : List GE) : GS := fun δ => match pickN cs gs δ with
  | some (ds, δ1) => (match putN cs is ds δ1 with
    | some δ2 => .nx δ2
    | none => .bad)
  | none => .bad
inductive EvL (W : WO) : TA → List GE → Prop
  | nil : EvL W tNil []
  | cons {t : TE} {g : GE} {ta : TA} {gs : List GE} : Ev W [] .val t g → EvL W ta gs → EvL W (tCons t ta) (g :: gs)
theorem pick_all : ∀ {ta : TA} {gs : List GE}, EvL W ta gs → ∀ {cs : List Bool} {ps : List Addr} {δ : FS} {H : Hp} {Q : List V → Hp → Prop} {ds : List D} {δ' : FS}, Rel (F.ands ps) [] δ σ H → pickN cs gs δ = some (ds, δ') →
    (∀ vs H' ps', Rel (F.ands ps') [] δ' σ H' → PVs F ps' δ' σ H' cs vs ds → (∀ c v d, PV F ps δ σ H c v d → PV F ps' δ' σ H' c v d) → SStp [] δ σ H δ' σ H' → (∀ q ∈ ps', q ∈ ps ∨ H q = none) → (∀ (k : Nat) v, cs[k]? = some true → vs[k]? = some v → ∀ q, v = .ref q → H q = none) → Q vs H') → ta σ H Q := by
  intro ta gs h
  induction h with
  | nil =>
    intro cs ps δ H Q ds δ' R e K
    cases cs with
    | nil => cases e; exact K [] H ps R .nil (fun _ _ _ h => h) .refl (fun _ h => .inl h) fun k v e => by simp at e
    | cons c cs => cases e
  | @cons t g ta gs hg _ ih =>
    intro cs ps δ H Q ds δ' R e K
    cases cs with
    | nil => cases e
    | cons c cs =>
      unfold pickN at e
      split at e
      · rename_i d δ1 e1
        split at e
        · rename_i ds2 δ2 e2
          cases e
          refine hg (F.ands ps) δ σ H _ R (EPost.pend2 ⟨d, δ1, e1⟩ fun d' δ1' x H1 ps1 q1 R1 v1 up1 s1 f1 n1 => ?_)
          rw [e1] at q1
          cases q1
          refine ih R1 e2 fun vs H2 ps2 R2 P2 up2 s2 f2 n2 => ?_
          have old : ∀ q, H1 q = none → H q = none := fun q z => by
            cases z2 : H q with
            | none => rfl
            | some u => exact absurd z (s1.th q (by rw [z2]; exact fun z => nomatch z))
          refine K (x :: vs) H2 ps2 R2 (.cons (up2 _ _ _ v1) (fun hc k v' hk hv q => ?_) P2) (fun c v d h => up2 _ _ _ (up1 _ _ _ h)) (s1.trans s2) (fun q hq => ?_) fun k v hk hv q eq => ?_
          · obtain ⟨a1, o1, ex, _, ho, _⟩ := v1.2.1 hc
            have := n2 k v' hk hv a1 (by rw [q, ex])
            rw [this] at ho
            cases ho
          · rcases f2 q hq with z | z
            · exact f1 q z
            · exact .inr (old q z)
          · cases k with
            | zero => cases hk; cases hv; exact n1 rfl q eq
            | succ k => exact old q (n2 k v hk hv q eq)
        · cases e
      · cases e
theorem put_all : ∀ {cs : List Bool} {vs : List V} {ds : List D} {ps : List Addr} {δ δ' : FS} {σ : St} {is : List Nat}, PVs F ps δ σ H cs vs ds → Rel (F.ands ps) [] δ σ H → putN cs is ds δ = some δ' →
    ∃ ps', Rel (F.ands ps') [] δ' (setN σ is vs) H ∧ ∀ a, MuA δ' (setN σ is vs) a → MuA δ σ a ∨ a ∈ ps
  | _, _, _, ps, δ, δ', σ, is, .nil, R, e => by
    cases is with
    | nil => cases e; exact ⟨ps, R, fun a h => .inl h⟩
    | cons i is => cases e
  | _, _, _, ps, δ, δ', σ, is, .cons (c := c) (v := v) (d := d) (cs := cs) (vs := vs) (ds := ds) h n r, R, e => by
    cases is with
    | nil => cases e
    | cons i is =>
      unfold putN at e
      split at e
      · rename_i δ1 e1
        obtain ⟨ps1, R1, up1, m1, w1⟩ := h.put2 R e1
        obtain ⟨ps2, R2, m2⟩ := put_all (PVs.map (F' := F) (ps' := ps1) (δ' := δ1) (σ' := σ.set i (some v)) (H' := H) r fun k c' v' d' e1 e2 hp => up1 c' v' d' (fun z1 z2 => n z1 k v' (by rw [e1, z2]) e2) hp) R1 e
        refine ⟨ps2, R2, fun a h => ?_⟩
        rcases m2 a h with z | z
        · exact m1 a z
        · exact .inr (w1 a z)
      · cases e
theorem par_core {ta : TA} {gs : List GE} {cs : List Bool} {is : List Nat} {D : Ends} {Q : List V → Hp → Prop} (h : EvL W ta gs) (R : Rel F [] δ σ H) (P : SPost W F [] δ σ H D (gParN cs is gs δ))
    (K : ∀ vs H1, vs.length = cs.length → D.nx (setN σ is vs) H1 → (∀ p o, H1 p = none → D.nx (setN σ is vs) (upd H1 p o)) → Q vs H1) : ta σ H Q := by
  unfold gParN at P
  split at P
  · rename_i ds δ1 e1
    split at P
    · rename_i δ2 e2
      have R0 : Rel (F.ands []) [] δ σ H := by rw [ands_nil]; exact R
      refine pick_all h R0 e1 fun vs H1 ps1 R1 P1 _ s1 f1 _ => ?_
      obtain ⟨ps2, R2, m2⟩ := put_all (is := is) P1 R1 e2
      have fr : ∀ a, a ∈ ps1 → H a = none := fun a ha => by
        rcases f1 a ha with z | z
        · exact absurd z List.not_mem_nil
        · exact z
      have s2 : SStp [] δ σ H δ2 (setN σ is vs) H1 := ⟨fun a h => by
        rcases m2 a h with h | h
        · exact s1.mu a h
        · exact .inr (fr a h), s1.hp, fun j hj => absurd hj List.not_mem_nil, s1.th⟩
      refine K vs H1 P1.len (P _ _ R2.weakAv s2) fun p o hp => P _ _ (R2.weakAv.laid hp) ⟨s2.mu, fun b u e n => ?_, fun j hj => absurd hj List.not_mem_nil, fun b hb => ?_⟩
      · rw [upd_ne (ne_of_none (s2.hp b u e n) hp)]
        exact s2.hp b u e n
      · by_cases q : b = p
        · rw [q, upd_same]; exact fun z => nomatch z
        · rw [upd_ne q]; exact s2.th b hb
    · exact P.elim
  · exact P.elim
/-- the targets, by their places -/
def tgN : List Nat → TGs
  | [] => L2.gNil
  | i :: is => L2.gCons (L2.gName i) (tgN is)
theorem tgN_run : ∀ {is : List Nat} {vs : List V} {σ : St} {H : Hp} {Q : St → Hp → Prop}, vs.length = is.length → Q (setN σ is vs) H → tgN is vs σ H Q
  | [], [], _, _, _, _, q => ⟨rfl, q⟩
  | i :: is, v :: vs, σ, H, Q, hl, q => ⟨v, vs, rfl, tgN_run (is := is) (by simpa using hl) q⟩
theorem evs_parG {ta : TA} {gs : List GE} {cs : List Bool} {is : List Nat} (h : EvL W ta gs) (hl : cs.length = is.length) (hz : cs.length ≤ 100) : EvS W [] (tAsg (tTup ta) (L2.gTup K is.length (tgN is))) (gParN cs is gs) := fun F δ σ H D R P => by
  refine par_core h R P fun vs H1 hv k1 k2 => ⟨by rw [sizeLine_eq]; omega, fun p hp => ?_⟩
  exact ⟨p, vs, rfl, .inl (.inl upd_same), by omega, tgN_run (by omega) (k2 p _ hp)⟩
theorem evs_parL2 {ta : TA} {gs : List GE} {c1 c2 : Bool} {i j : Nat} (h : EvL W ta gs) : EvS W [] (tPar i j ta) (gParN [c1, c2] [i, j] gs) := fun F δ σ H D R P => by
  refine par_core h R P fun vs H1 hv k1 _ => ?_
  match vs, hv with
  | [v, w], _ => exact ⟨v, w, rfl, k1⟩
theorem evs_parL3 {ta : TA} {gs : List GE} {c1 c2 c3 : Bool} {i j l : Nat} (h : EvL W ta gs) : EvS W [] (tPar3 i j l ta) (gParN [c1, c2, c3] [i, j, l] gs) := fun F δ σ H D R P => by
  refine par_core h R P fun vs H1 hv k1 _ => ?_
  match vs, hv with
  | [u, v, w], _ => exact ⟨u, v, w, rfl, k1⟩
/-- expressions that are told one by one -/
structure DEs (X : Cx) (W : WO) (es : List Expr) (t : TA) (gs : List GE) : Prop where
  pa : PA X es t
  ev : EvL W t gs
theorem des_nil {X : Cx} : DEs X W [] tNil [] := ⟨pa_nil, .nil⟩
theorem des_cons {X : Cx} {e : Expr} {es : List Expr} {te : TE} {g : GE} {t : TA} {gs : List GE} (a : DE X W [] .val e te g) (r : DEs X W es t gs) (hs : starEach (e :: es) X.env = (false, eval e X.env) :: starEach es X.env := by rfl) : DEs X W (e :: es) (tCons te t) (g :: gs) := ⟨pa_cons a.pe r.pa hs, .cons a.ev r.ev⟩
structure DTs (X : Cx) (es : List Expr) (is : List Nat) : Prop where
  pg : PGs X es (tgN is)
theorem dts_nil {X : Cx} : DTs X [] [] := ⟨pgs_nil⟩
theorem dts_cons {X : Cx} {i : Nat} {x : Str} {p : Pos} {es : List Expr} {is : List Nat} (hN : X.N.Nodup) (hi : X.N[i]? = some x) (hx : Loc X.env.scope x) (r : DTs X es is) (hf : X.fn x = true ∨ X.env.scope.names.lookup x = some .local := by first | exact .inl rfl | exact .inr rfl | assumption)
    (hs : (assignEach (.Name x p :: es) X.env).map (·.2) = assign (.Name x p) X.env :: (assignEach es X.env).map (·.2) := by rfl) : DTs X (.Name x p :: es) (i :: is) := ⟨pgs_cons (pg_name hN hi hx hf) r.pg hs⟩
theorem ds_parG {X : Cx} {es tg : List Expr} {cs : List Bool} {is : List Nat} {gs : List GE} {ta : TA} {pos pt p2 : Pos} {kt k2} (hc : X.calm = true) (h : DEs X W es ta gs) (g : DTs X tg is) (hl : cs.length = is.length) (hz : cs.length ≤ 100)
    (hn : (assignEach tg X.env).length = is.length := by rfl) (hst : (assignEach tg X.env).findIdx? (·.1) = none := by rfl)
    (hs : swapsWithSole [.Tuple tg kt pt] (.Tuple es k2 p2) pos.line X.env = pure false := by rfl) (hw : swappedStores [.Tuple tg kt pt] (.Tuple es k2 p2) X.env = pure none := by rfl)
    (h1 : (assignEach [.Tuple tg kt pt] X.env).map (·.2) = [assign (.Tuple tg kt pt) X.env] := by rfl) :
    DS X W [] (.Assign [.Tuple tg kt pt] (.Tuple es k2 p2) pos) (tAsg (tTup ta) (L2.gTup X.K is.length (tgN is))) (gParN cs is gs) :=
  ⟨ps_asg (pe_tup h.pa) (pg_tup hc g.pg hn hst) hs hw h1, evs_parG h.ev hl hz⟩
theorem ds_parL3 {X : Cx} {c1 c2 c3 : Bool} {i j l : Nat} {x y z : Str} {ea eb ec : Expr} {ta : TA} {gs : List GE} {pos px py pz pt : Pos} {kt k2 pt2} (hc : X.calm = true) (hN : X.N.Nodup) (hi : X.N[i]? = some x) (hj : X.N[j]? = some y) (hl : X.N[l]? = some z) (hij : i ≠ j) (hil : i ≠ l) (hjl : j ≠ l)
    (hx : X.env.scope.names.lookup x = some .local) (hy : X.env.scope.names.lookup y = some .local) (hz : X.env.scope.names.lookup z = some .local) (h : DEs X W [ea, eb, ec] ta gs)
    (hw : swappedStores [.Tuple [.Name x px, .Name y py, .Name z pz] kt pt] (.Tuple [ea, eb, ec] k2 pt2) X.env = pure (some [x, y, z]) := by rfl)
    (hs : swapsWithSole [.Tuple [.Name x px, .Name y py, .Name z pz] kt pt] (.Tuple [ea, eb, ec] k2 pt2) pos.line X.env = pure false := by rfl) :
    DS X W [] (.Assign [.Tuple [.Name x px, .Name y py, .Name z pz] kt pt] (.Tuple [ea, eb, ec] k2 pt2) pos) (tPar3 i j l ta) (gParN [c1, c2, c3] [i, j, l] gs) := ⟨ps_par3 hc hN hi hj hl hij hil hjl hx hy hz h.pa hw hs, evs_parL3 h.ev⟩
/-! ### x[i] += e -/
def rGetI : V → V → Hp → VK → Prop := fun x y H Q => ∃ p xs i v, x = .ref p ∧ y = .int i ∧ H p = some (.lst xs) ∧ atI xs i = some v ∧ Q v H
theorem get_list {X : Cx} : PGet X rGetI := by
  intro pins s σ H x y v u Q I rx ry h
  obtain ⟨p, xs, i, z, rfl, rfl, hp, he, q⟩ := h
  cases rx
  obtain ⟨t, rfl⟩ := ry
  obtain ⟨its, r, pl, hz⟩ := I.list (xs := xs) (.inl (.inl hp))
  obtain ⟨j, h1, h2, h3, h4, h5⟩ := atI_get he
  obtain ⟨w, ew, rw'⟩ := r.get h2
  have hl := r.length
  have hn := line63
  have fin : EP X pins σ Q w s := ⟨z, H, I, rw', q⟩
  by_cases h0 : 0 ≤ i
  · have hj : i.toNat = j := by
      rw [seqIndex_of h0 h5] at h1
      exact Option.some.inj h1
    exact wpAny_getItem_list pl.isList h0 (by omega) (by rw [hj]; simpa using ew) fin
  · have hj : (i + (its.toArray.size : Int)).toNat = j := by
      rw [seqIndex_neg (by omega) h4] at h1
      rw [List.size_toArray, ← hl]
      exact Option.some.inj h1
    exact wpAny_getItem_list_neg pl.isList (by omega) (by rw [List.size_toArray] <;> omega) (by omega) (by rw [hj]; simpa using ew) fin
def putIx (i : Nat) (k : Int) (d : D) (δ : FS) : O := match mutL δ i with
  | some (m, ds) => (match ixN ds.length k with
    | some q => .nx (δ.set i (some (.cl m (.lst (ds.set q d)))))
    | none => .bad)
  | none => .bad
def itmAt (i : Nat) (k : Int) (δ : FS) : Option Int := match mutL δ i with
  | some (_, ds) => (match atI ds k with
    | some (.int a) => some a
    | _ => none)
  | none => none
/-- x[j] op= e; whole numbers -/
def gAugIx (i : Nat) (op : Int → Int → Int) (gi ge : GE) : GS := fun δ => if isL δ i then (gi δ).bindS fun j δ1 => match DL.top δ1 j with
  | .int k => (match itmAt i k δ1 with
    | some a => (ge δ1).bindS fun e δ2 => (match DL.top δ2 e with
      | .int b => putIx i k (.int (op a b)) δ2
      | _ => .bad)
    | none => .bad)
  | _ => .bad else .bad
theorem evs_augIx {i : Nat} {op : Int → Int → Int} {te ti : TE} {gi ge : GE} (hi : Ev W [] .any ti gi) (he : Ev W [] .any te ge) : EvS W [] (tAugS (tVar i) ti te rGetI (ipI op) rSetL) (gAugIx i op gi ge) := fun F δ σ H D R P => by
  unfold gAugIx at P
  split at P
  · rename_i hl
    obtain ⟨m0, ds0, e0⟩ := isL_some hl
    obtain ⟨x, us0, ex, _, _, _⟩ := R.cellL e0
    refine ⟨.ref x, ex, hi F δ σ H _ R (EPost.bindS P fun j δ1 u H1 G1 P1 => ?_)⟩
    split at P1
    · rename_i k ek
      split at P1
      · rename_i a ei
        unfold itmAt at ei
        split at ei
        · rename_i m ds em
          obtain ⟨ec, hm⟩ := mutL_some em
          obtain ⟨y, us, ea, ha, r, kc⟩ := G1.R.cellL ec
          cases Option.some.inj (Option.some.inj (ex.symm.trans ea))
          split at ei
          · rename_i a' eat
            cases ei
            obtain ⟨w, ew, hw⟩ : ∃ w, atI us k = some w ∧ RepH F δ1 σ H1 w (.int a) := by
              unfold atI at eat ⊢
              rw [r.length]
              cases hq : ixN ds.length k with
              | none => rw [hq] at eat; cases eat
              | some q => rw [hq] at eat; exact r.get eat
            cases hw
            refine ⟨x, us, k, .int a, rfl, G1.R.int G1.r ek, ha, ew, he F δ1 σ H1 _ G1.R (EPost.bindS P1 fun e δ2 v H2 G2 P2 => ?_)⟩
            split at P2
            · rename_i b eb
              refine ⟨a, b, rfl, G2.R.int G2.r eb, ?_⟩
              unfold putIx at P2
              split at P2
              · rename_i m2 ds2 em2
                obtain ⟨ec2, hm2⟩ := mutL_some em2
                obtain ⟨z, us2, ea2, ha2, r2, kc2⟩ := G2.R.cellL ec2
                cases Option.some.inj (Option.some.inj (ex.symm.trans ea2))
                split at P2
                · rename_i q eq
                  obtain ⟨R3, s3⟩ := G2.R.put ec2 hm2 ea2 (o' := .lst (us2.set q (.int (op a b)))) (c' := .lst (ds2.set q (.int (op a b)))) (RepAll.set (.int _) q r2) (.lst (VOkA.set (.int _) q kc2))
                  exact ⟨x, us2, k, q, rfl, G1.R.int G1.r ek, ha2, by rw [r2.length]; exact eq, P2 σ _ R3 s3.s⟩
                · exact P2.elim
              · exact P2.elim
            · exact P2.elim
          · cases ei
        · cases ei
      · exact P1.elim
    · exact P1.elim
  · exact P.elim
theorem ds_augIx {X : Cx} {i : Nat} {o ix e : Expr} {op : Operator} {f : Int → Int → Int} {te ti : TE} {gi ge : GE} {tpos pos : Pos} (ho : PE X o (tVar i)) (hi : DE X W [] .any ix ti gi) (he : DE X W [] .any e te ge) (hp : PIp X op (ipI f))
    (ha : ∀ ov iv new, augStore ix ov iv new = (do holding [new, ov, iv] (setItem ov iv new); release [new, ov, iv] []; pure .next) := by intros; rfl) : DS X W [] (.AugAssign (.Subscript o ix tpos) op e pos) (tAugS (tVar i) ti te rGetI (ipI f) rSetL) (gAugIx i f gi ge) :=
  ⟨ps_augS ho hi.pe get_list he.pe hp set_list ha, evs_augIx hi.ev he.ev⟩
end
end DL

/-! DL, part ff: pairs of whole numbers, sorted. -/
namespace DL
open PySem PySem.Spec PyProof.Rows L2
variable [KL]
/-- sorted(xs), xs a list of pairs of ints, of objects or of the written part -/
def rSortedPT (K : PySem.W.Frag) : List V → Hp → VK → Prop := fun vs H Q => ∃ (a : Addr) (xs : List V) (k : V → Int × Int), vs = [V.ref a] ∧ SqL K H a xs ∧ (∀ x ∈ xs, ∃ t, x = V.ref t ∧ SqT K H t [.int (k x).1, .int (k x).2]) ∧
  ∀ ys p, SrtO.Srtd (ltP k) ys → ys.Perm xs → H p = none → Q (.ref p) (upd H p (.lst ys))
theorem cr_sortedPT {X : Cx} : CallR X (.builtin "sorted") (rSortedPT X.K) := by
  intro pins s σ H vs us Q I r h
  obtain ⟨a, xs, k, rfl, hs, hx, q⟩ := h
  obtain ⟨its, rv, hl, hz⟩ := I.list hs
  obtain ⟨u, rfl, ru⟩ := vals1 r
  obtain rfl : u = Value.ref a := ru
  obtain ⟨e1, e2⟩ := refs_back rv fun x m => by
    obtain ⟨t, e, _⟩ := hx x m
    exact ⟨t, e⟩
  refine SrtO.sorted_pairsO (k := fun u => k (L2.backV u)) hl.isList (by rw [← rv.length]; exact hz) (fun v hv => ?_) fun h' d out h1 h2 kp hd hn => ?_
  · obtain ⟨t, rfl⟩ := e2 v hv
    have hm : V.ref t ∈ xs := by rw [e1]; exact List.mem_map.mpr ⟨_, hv, rfl⟩
    obtain ⟨t', e, ht⟩ := hx _ hm
    cases e
    obtain ⟨its2, r2, ⟨o, ho, hc, n, hd⟩, _⟩ := I.tuple ht
    obtain ⟨u1, u2, rfl, ri, rj⟩ := vals2 r2
    obtain ⟨t1, rfl⟩ := ri
    obtain ⟨t2, rfl⟩ := rj
    exact ⟨t, o, t1, t2, n, rfl, ho, hc, hd⟩
  · have h3 : ∀ u ∈ out, ∃ a, u = Value.ref a := fun u hu => e2 u (h2.perm.mem_iff.mp hu)
    obtain ⟨n, hn⟩ := hn
    have hb : SrtO.Stb (ltP k) (out.map L2.backV) xs := by
      rw [e1]
      exact SrtO.Stb.map (ltP_swo k) L2.backV h2
    refine ⟨.ref d, upd H d (.lst (out.map L2.backV)), I.laid (t' := s.toks) kp hd ⟨?_, out, n, vals_back h3, hn⟩, rfl, q _ d (SrtO.srtd_map h1) hb.perm (I.hok.fresh hd)⟩
    rw [hb.len]
    exact hz
def pairOf : D → Option (Int × Int)
  | .tup [.int i, .int j] => some (i, j)
  | _ => none
def pairsOf : List D → Option (List (Int × Int))
  | [] => some []
  | d :: ds => match pairOf d, pairsOf ds with
    | some p, some ps => some (p :: ps)
    | _, _ => none
abbrev pD (p : Int × Int) : D := .tup [.int p.1, .int p.2]
def pIns (a : Int × Int) : List (Int × Int) → List (Int × Int)
  | [] => [a]
  | b :: r => if SrtO.lexB b a then b :: pIns a r else a :: b :: r
def psort : List (Int × Int) → List (Int × Int)
  | [] => []
  | a :: r => pIns a (psort r)
theorem pIns_perm (a : Int × Int) : ∀ l, (pIns a l).Perm (a :: l)
  | [] => .refl _
  | b :: r => by
    unfold pIns
    split
    · exact ((pIns_perm a r).cons b).trans (.swap a b r)
    · exact .refl _
theorem psort_perm : ∀ l, (psort l).Perm l
  | [] => .refl _
  | a :: r => (pIns_perm a _).trans ((psort_perm r).cons a)
abbrev pLe (p q : Int × Int) : Prop := SrtO.lexB q p = false
theorem pIns_sorted (a : Int × Int) : ∀ {l}, l.Pairwise pLe → (pIns a l).Pairwise pLe
  | [], _ => by unfold pIns; exact List.pairwise_singleton _ _
  | b :: r, h => by
    obtain ⟨h1, h2⟩ := List.pairwise_cons.mp h
    unfold pIns
    split
    · rename_i q
      refine List.pairwise_cons.mpr ⟨fun x hx => ?_, pIns_sorted a h2⟩
      rcases List.mem_cons.mp ((pIns_perm a r).mem_iff.mp hx) with rfl | hx
      · have := SrtO.lexB_iff.mp q
        exact SrtO.lexB_no.mpr (by omega)
      · exact h1 x hx
    · rename_i q
      have q := SrtO.lexB_no.mp (by simpa using q)
      refine List.pairwise_cons.mpr ⟨fun x hx => ?_, h⟩
      rcases List.mem_cons.mp hx with rfl | hx
      · exact SrtO.lexB_no.mpr (by omega)
      · have := SrtO.lexB_no.mp (h1 x hx)
        exact SrtO.lexB_no.mpr (by omega)
theorem psort_sorted : ∀ l, (psort l).Pairwise pLe
  | [] => .nil
  | a :: r => pIns_sorted a (psort_sorted r)
theorem psort_uniq {l m : List (Int × Int)} (hp : l.Perm m) (h1 : l.Pairwise pLe) (h2 : m.Pairwise pLe) : l = m :=
  List.Perm.eq_of_pairwise (fun a b _ _ x y => by
    have x := SrtO.lexB_no.mp x
    have y := SrtO.lexB_no.mp y
    exact Prod.ext (by omega) (by omega)) h1 h2 hp
def sortedPD (δ : FS) (ds : List D) : RE := match ds with
  | [d] => (match top δ d with
    | .lst xs => (match pairsOf xs with
      | some ps => .own (.lst ((psort ps).map pD)) δ
      | none => .bad)
    | _ => .bad)
  | _ => .bad
section
variable {L : List Nat} {k : Kd} {K : PySem.W.Frag}
/-- the pair that a value is -/
theorem pairOf_rep {H : Hp} {C : Nat → Option Addr} {M : Addr → Prop} {v : V} {d : D} {p : Int × Int} (r : Rep H C M v d) (e : pairOf d = some p) : (∃ t, v = .ref t ∧ Rd H t (.tup [.int p.1, .int p.2])) ∧ Rep H C M v (pD p) := by
  unfold pairOf at e
  split at e
  · cases e
    have r0 := r
    cases r with
    | tup h n ra =>
      cases ra with
      | cons a1 ra =>
        cases ra with
        | cons a2 ra =>
          cases ra
          cases a1
          cases a2
          exact ⟨⟨_, rfl, h⟩, r0⟩
  · cases e
open Classical in
noncomputable def pairAt (H : Hp) (v : V) : Int × Int := match v with
  | .ref t => if h : ∃ p : Int × Int, Rd H t (.tup [.int p.1, .int p.2]) then Classical.choose h else (0, 0)
  | _ => (0, 0)
open Classical in
theorem pairAt_eq {H : Hp} {v : V} {p : Int × Int} (h : ∃ t, v = .ref t ∧ Rd H t (.tup [.int p.1, .int p.2])) : pairAt H v = p := by
  obtain ⟨t, rfl, h⟩ := h
  have same : ∀ {q : Int × Int}, Rd H t (.tup [.int q.1, .int q.2]) → q = p := by
    intro q h2
    rcases h with h1 | ⟨o, h1⟩ <;> rcases h2 with h2 | ⟨o2, h2⟩ <;> rw [h1] at h2 <;> simp only [Option.some.injEq, HO.tup.injEq, HO.frz.injEq, List.cons.injEq, V.int.injEq, and_true] at h2 <;> first | (exact Prod.ext h2.1.symm h2.2.symm) | (exact Prod.ext h2.2.1.symm h2.2.2.symm) | (cases h2)
  have hx : ∃ p : Int × Int, Rd H t (.tup [.int p.1, .int p.2]) := ⟨p, h⟩
  show (if h : ∃ p : Int × Int, Rd H t (.tup [.int p.1, .int p.2]) then Classical.choose h else (0, 0)) = p
  rw [dif_pos hx]
  exact same (Classical.choose_spec hx)
theorem pairsOf_rep {H : Hp} {C : Nat → Option Addr} {M : Addr → Prop} : ∀ {vs : List V} {ds : List D} {ps : List (Int × Int)}, RepAll H C M vs ds → pairsOf ds = some ps →
    vs.map (pairAt H) = ps ∧ ∀ x ∈ vs, (∃ t, x = .ref t ∧ Rd H t (.tup [.int (pairAt H x).1, .int (pairAt H x).2])) ∧ Rep H C M x (pD (pairAt H x))
  | [], _, ps, .nil, e => by cases e; exact ⟨rfl, fun x hx => nomatch hx⟩
  | v :: vs, _, ps, .cons (d := d) (ds := ds) r1 r2, e => by
    unfold pairsOf at e
    split at e
    · rename_i p ps' e1 e2
      cases e
      obtain ⟨h1, h2⟩ := pairOf_rep r1 e1
      obtain ⟨i1, i2⟩ := pairsOf_rep r2 e2
      have ek := pairAt_eq h1
      refine ⟨by rw [List.map_cons, ek, i1], fun x hx => ?_⟩
      rcases List.mem_cons.mp hx with rfl | hx
      · rw [ek]; exact ⟨h1, h2⟩
      · exact i2 x hx
    · cases e
theorem sortedPD_ok : CallD L .any k (rSortedPT K) sortedPD := one_ok (f := fun δ d => match top δ d with
    | .lst xs => (match pairsOf xs with
      | some ps => .own (.lst ((psort ps).map pD)) δ
      | none => .bad)
    | _ => .bad) fun W F δ σ H Q v d R ra ka P => by
  split at P
  · rename_i xs e
    split at P
    · rename_i ps ep
      obtain ⟨a, us, rfl, h, r, _⟩ := R.lst ra (k := .any) trivial e
      obtain ⟨e1, e2⟩ := pairsOf_rep r ep
      refine ⟨a, us, pairAt H, rfl, .inl h, fun x hx => ?_, fun ys p hs hp hn => ?_⟩
      · obtain ⟨⟨t, e3, e4⟩, _⟩ := e2 x hx
        exact ⟨t, e3, .inl e4⟩
      · have hm : ys.map (pairAt H) = psort ps := psort_uniq ((hp.map _).trans (by rw [e1]; exact (psort_perm ps).symm)) (List.pairwise_map.mpr hs) (psort_sorted ps)
        rw [← hm, List.map_map] at P
        refine EPost.new P R hn (o := .lst ys) ?_ (KOk.mk R fun _ => .lst (VOkA.of fun d hd => ?_))
        · have : ∀ l : List V, (∀ y ∈ l, y ∈ us) → RepHA F δ σ H l (l.map (pD ∘ pairAt H)) := by
            intro l
            induction l with
            | nil => intro _; exact .nil
            | cons y l ih => intro hl; exact .cons (e2 y (hl y List.mem_cons_self)).2 (ih fun z hz => hl z (List.mem_cons_of_mem _ hz))
          exact this ys fun y hy => hp.mem_iff.mp hy
        · obtain ⟨y, _, rfl⟩ := List.mem_map.mp hd
          exact .tup (.cons (.int _) (.cons (.int _) .nil))
    · exact P.elim
  · exact P.elim
end
/-! ### a cell's list as a value: the cell is locked -/
section
variable {X : Cx} {W : WO} {L : List Nat} {k : Kd} {i : Nat} {pos : Pos} {x : Str}
def gFz (i : Nat) : GE := fun δ => match frz δ (.var i) with
  | some (ds, δ1) => .ok (.lst ds) δ1
  | none => .bad
theorem ev_fz : Ev W L k (tVar i) (gFz i) := fun F δ σ H Q R P => by
  unfold gFz at P
  split at P
  · rename_i ds δ1 e
    have hc : ∃ m c, IsC δ i m c := by
      unfold frz at e
      simp only at e
      split at e
      · rename_i xs e1; exact ⟨_, _, e1⟩
      · rename_i xs e1; exact ⟨_, _, e1⟩
      · cases e
    obtain ⟨m, c, ec⟩ := hc
    obtain ⟨a, o, ea, ho, _⟩ := R.cell i m c ec
    have rv : RepH F δ σ H (.ref a) (.var i) := .var (cA_some.mpr ⟨⟨m, c, ec⟩, ea⟩)
    have kv : KOk L .itm δ (.var i) := by
      show VOk L (top δ (.var i))
      rw [top_var ec]
      exact (R.cok _ _ _ ec).mono fun _ h => absurd h List.not_mem_nil
    obtain ⟨a', us, ea', R1, s1, z⟩ := frz_ok R rv kv e
    cases ea'
    exact ⟨.ref a, ea, P (.ref a) H R1 s1 (.lst z.rd z.nm z.rp) (KOk.mk R1 fun _ => .lst z.kv)⟩
  · exact P.elim
theorem de_fz (he : PE X (.Name x pos) (tVar i)) : DE X W L k (.Name x pos) (tVar i) (gFz i) := ⟨he, ev_fz⟩
end
/-! ### a cell's name, whatever is asked of it -/
theorem kd_any {P : Prop} : Kd.any = Kd.val → P := fun z => nomatch z
theorem kd_itm {P : Prop} : Kd.itm = Kd.val → P := fun z => nomatch z
section
variable {X : Cx} {W : WO} {L : List Nat} {k : Kd} {pos : Pos}
theorem de_vc {i : Nat} {x : Str} (hN : X.N[i]? = some x := by rfl) (hv : Vis X.env.scope x := by first | exact Or.inl rfl | exact Or.inr (Or.inl rfl) | exact Or.inr (Or.inr rfl)) (hd : (x == ("__debug__" : Str)) = false := by decide)
    (hcd : (x == ("__classdict__" : Str)) = false := by decide) (hk : k = .val → i ∈ L := by first | exact kd_any | exact kd_itm) : DE X W L k (.Name x pos) (tVar i) (gVc i) := ⟨pe_var hN hv hd hcd, ev_varc hk⟩
end
/-! ### a truth in a comprehension's test: the reading names K -/
theorem dt_truK {X : Cx} {W : WO} {L : List Nat} {a : Expr} {ta : TE} {ga : GE} {K : PySem.W.Frag} (ha : DE X W L .any a ta ga) (hK : X.K = K := by rfl) (he : ∀ whole, isTrue a X.env whole = (do let v ← whole; standAt a.pos; holding [v] (truthy v)) := by intro _; rfl) :
    DT X W L a (fun σ H Q => ta σ H fun x H' => ∃ k, TruV K x H' k ∧ Q k H') (gTru ga) := by
  subst hK
  exact dt_tru ha he
/-! ### small ones -/
theorem len_succ_ {α : Type} {n : Nat} {l : List α} (h : l.length = n + 1) : ∃ a r, l = a :: r ∧ r.length = n := by
  cases l with
  | nil => cases h
  | cons a r => exact ⟨a, r, rfl, Nat.succ.inj h⟩
section
variable {X : Cx} {L : List Nat} {scope : Scope} {tg : Expr} {c elt : Expr} {vs : List Nat} {g : TG} {gt : GT} {tt : TT} {gc : GB} {te : TE} {ge : GE}
theorem dbk_if (h1 : ∀ (s : Shared) (H : Hp) (C : Addr) (cl : List (Str × Addr)) (fp : List Addr), DG (X.blk s H scope (compEnvC scope cl C X.env) fp) L tg g gt) (h2 : GW vs g)
    (h3 : ∀ (s : Shared) (H : Hp) (C : Addr) (cl : List (Str × Addr)) (fp : List Addr), DT (X.blk s H scope (compEnvC scope cl C X.env) fp) none L c tt gc)
    (h4 : ∀ (s : Shared) (H : Hp) (C : Addr) (cl : List (Str × Addr)) (fp : List Addr), DE (X.blk s H scope (compEnvC scope cl C X.env) fp) none L .val elt te ge) : DBk X L scope tg [c] elt vs g gt tt gc te ge :=
  ⟨h1, h2, fun s H C cl fp => pts_by (h3 s H C cl fp), h4⟩
def addI : FS → D → D → RE := onII fun δ i j => .ok (.int (i + j)) δ
theorem addI_ok {k : Kd} : OpD L .any .any k (rI0 fun i j => .int (i + j)) addI := onII_ok fun W F δ σ H Q i j R P => ⟨i, j, rfl, rfl, EPost.give P R (.int _) (KOk.mk R fun _ => .int _)⟩
end
end DL

/-! DL, part gg: {}, exceptions as values; the head's facts of their classes. -/
namespace DL
open PySem PySem.Spec PyProof.Rows L2
/-! ### facts -/
def kitB0 (K : PySem.W.Frag) (C : Addr) (t : String) : Bool := decide (PySem.W.kitOne K (.ref C) (.type t) = some false)
def exFB (K : PySem.W.Frag) (C : Addr) : Bool :=
  He.eqO (PySem.W.findIn K (.ref C) "__getattribute__") (some (some (.builtin "BaseException.__getattribute__"))) && (He.eqO (PySem.W.findIn K (.ref C) "__getattr__") (some none) && (decide (PySem.W.subIn K (.ref C) (.type "BaseException") = some true) &&
  (PySem.W.hasDictIn K C && (He.eqO (PySem.W.findIn K (.ref C) "__class__") (some (some (.builtin "object.__class__"))) && (He.eqO (PySem.W.specialIn K (.builtin "object.__class__") "__get__") (some (some (.builtin "getset_descriptor.__get__"))) &&
  (decide (PySem.W.takesIn K (.builtin "object.__class__") = some true) && (decide (PySem.W.mroIn K C (.type "object") = some true) &&
  (kitB0 K C "int" && (kitB0 K C "bool" && (kitB0 K C "str" && (kitB0 K C "list" && (kitB0 K C "tuple" && kitB0 K C "dict"))))))))))))
theorem exFB_ok {K : PySem.W.Frag} {C : Addr} (h : exFB K C = true) : ExF K C := by
  unfold exFB at h
  obtain ⟨h1, h⟩ := He.ba h
  obtain ⟨h2, h⟩ := He.ba h
  obtain ⟨h3, h⟩ := He.ba h
  obtain ⟨h4, h⟩ := He.ba h
  obtain ⟨h5, h⟩ := He.ba h
  obtain ⟨h6, h⟩ := He.ba h
  obtain ⟨h7, h⟩ := He.ba h
  obtain ⟨h8, h⟩ := He.ba h
  obtain ⟨k1, h⟩ := He.ba h
  obtain ⟨k2, h⟩ := He.ba h
  obtain ⟨k3, h⟩ := He.ba h
  obtain ⟨k4, h⟩ := He.ba h
  obtain ⟨k5, k6⟩ := He.ba h
  exact ⟨⟨He.eqO_ok h1, He.eqO_ok h2, of_decide_eq_true h3, h4, He.eqO_ok h5, He.eqO_ok h6, of_decide_eq_true h7, of_decide_eq_true h8⟩,
    of_decide_eq_true k1, of_decide_eq_true k2, of_decide_eq_true k3, of_decide_eq_true k4, of_decide_eq_true k5, of_decide_eq_true k6⟩
/-- the head's look with further facts -/
def obsX (fa : List He.Fa) (fn : List He.DefD) (xs : List (PySem.W.Frag → Bool)) (K : PySem.W.Frag) : He.AlD := ((He.obsD fa fn K).1 && xs.all fun f => f K, (He.obsD fa fn K).2)
def SaysX (fa : List He.Fa) (fn : List He.DefD) (xs : List (PySem.W.Frag → Bool)) (K : PySem.W.Frag) : Prop := obsX fa fn xs K = He.valD fn
def obsXG (n : Nat) (fa : List He.Fa) (fn : List He.DefD) (xs : List (PySem.W.Frag → Bool)) (g : Addr → Option Obj) : He.AlD := obsX fa fn xs (He.frG g (He.asD g n))
def hookX (n : Nat) (fa : List He.Fa) (fn : List He.DefD) (xs : List (PySem.W.Frag → Bool)) : PySem.W.Hook where
  α := He.AlD
  obs := fun s => obsXG n fa fn xs s.heap.get?
  val := fun _ => He.valD fn
  says := fun _ h => ∃ K : PySem.W.Frag, K.In h ∧ SaysX fa fn xs K
  of := fun _ _ e => ⟨_, He.frG_in, e⟩
  keeps := fun _ _ _ ⟨K, hK, c⟩ k => ⟨K, PySem.W.Frag.In.keeps hK k, c⟩
theorem obsXG_eq {n : Nat} {fa : List He.Fa} {fn : List He.DefD} {xs : List (PySem.W.Frag → Bool)} {g : Addr → Option Obj} {s : Shared} (h : ∀ a, g a = s.heap.get? a) : obsXG n fa fn xs g = (hookX n fa fn xs).obs s := by
  have e : g = s.heap.get? := funext h
  rw [e] <;> rfl
section
variable {fa : List He.Fa} {fn : List He.DefD} {xs : List (PySem.W.Frag → Bool)} {K : PySem.W.Frag}
theorem SaysX.says (c : SaysX fa fn xs K) : He.SaysD fa fn K := by
  have c' : obsX fa fn xs K = He.valD fn := c
  have h1 : (obsX fa fn xs K).1 = true := by rw [c']; rfl
  have h2 : (obsX fa fn xs K).2 = (He.valD fn).2 := by rw [c']
  exact Prod.ext (He.ba h1).1 h2
theorem SaysX.all (c : SaysX fa fn xs K) : ∀ f ∈ xs, f K = true := by
  have c' : obsX fa fn xs K = He.valD fn := c
  have h1 : (obsX fa fn xs K).1 = true := by rw [c']; rfl
  exact List.all_eq_true.mp (He.ba h1).2
theorem SaysX.x (c : SaysX fa fn xs K) (i : Nat) {f : PySem.W.Frag → Bool} (h : xs[i]? = some f := by rfl) : f K = true := c.all f (List.mem_of_getElem? h)
end
variable [KL]
/-- a class of exceptions by its name: its object, what is known of it -/
structure ExCl (K : PySem.W.Frag) (mg : Str → Option Value) (x : Str) : Prop where
  cl : KL.cls x = some (He.ga K x)
  mg : mg x = some (.ref (He.ga K x))
  ex : PySem.W.excIn K (He.ga K x) He.veBase "ValueError.__new__" = true
  kp : PySem.W.keepIn K (.ref (He.ga K x)) = true
/-- the classes of l by their names -/
def exCls (l : List Str) (K : PySem.W.Frag) (n : Str) : Option Addr := if n ∈ l then some (He.ga K n) else none
omit [KL] in
theorem exCls_ok {fa : List He.Fa} {fn : List He.DefD} {l : List Str} {ys : List (PySem.W.Frag → Bool)} {K : PySem.W.Frag} (c : SaysX fa fn (l.map (fun x K => exFB K (He.ga K x)) ++ ys) K) : ∀ n C, exCls l K n = some C → ExF K C := fun n C h => by
  unfold exCls at h
  split at h
  · rename_i hn
    cases h
    exact exFB_ok (c.all _ (List.mem_append_left _ (List.mem_map_of_mem hn)))
  · cases h
theorem exCl_of {K : PySem.W.Frag} {h : Heap} {mg : Str → Option Value} {l : List Str} {x : Str} (X : K.In h) (G : h.Ns mainGlobals mg) (hkl : KL.cls = exCls l K) (hx : x ∈ l) (c1 : (He.Fa.glo x).ok K = true) (c2 : (He.Fa.exc x).ok K = true) : ExCl K mg x :=
  ⟨by rw [hkl]; exact if_pos hx, He.glo_ok X G c1, (He.exc_ok c2).1, (He.exc_ok c2).2.1⟩
section
variable {X : Cx} {W : WO} {L : List Nat} {k : Kd} {p p2 pos : Pos}
/-- {} -/
def gDic0 : GE := fun δ => .own (.dic []) δ
theorem de_dic0 : DE X W L k (.Dict [] [] pos) tDNewK gDic0 :=
  ⟨pe_dnewK, fun F δ σ H Q R P => fun q hq => EPost.new P R hq (o := .dK []) RepKV.nil (KOk.mk R fun _ => .dic .nil)⟩
/-- an exception as a value -/
def gExcV (x : Str) : GE := fun δ => .ok (.exc x []) δ
theorem de_excV {K : PySem.W.Frag} {mg : Str → Option Value} {x m : Str} {j : Nat} (h : ExCl K mg x) (hg : Gl X x) (hdb : (x == ("__debug__" : Str)) = false := by decide) (hK : X.K = K := by rfl) (hm : X.mg = mg := by rfl) :
    DE X W L k (.Call (.Name x p) [.Constant (.str m) j p2] [] pos) (fun σ H Q => tC (.str m) σ H fun _ H1 => ∀ a, H1 a = none → Q (.ref a) (upd H1 a (ExO (.ref (He.ga K x)) a))) (gExcV x) := by
  subst hK hm
  refine ⟨pe_exc1 PySem.F.excBase_ValueError h.ex h.mg h.kp hg pe_str (hdb := hdb), fun F δ σ H Q R P => ?_⟩
  intro a ha
  have R2 : Rel F L δ σ (upd H a (ExO (.ref (He.ga X.K x)) a)) := R.laid ha
  refine P (.ref a) _ R2 (Stp.refl.laid ha) (.exc h.cl upd_same ?_ (R.fresh ha)) (KOk.mk R2 fun _ => .exc x)
  rintro hp ⟨oe, vs, e, z, d, _⟩
  exact ⟨oe, vs, e, z, d⟩
end
end DL

/-! PL, part e: how the data terms are computed. -/
namespace DL
open PySem PySem.Spec L2
section
variable {δ δ1 δ2 : FS} {a b c : GE} {s t : GS} {i j : Nat} {d e : D} {x y z : Int}
/-! ### steps -/
def O.sq (o : O) (k : GS) : O := match o with | .nx δ => k δ | o => o
theorem sq_nx {k : GS} : (O.nx δ).sq k = k δ := rfl
theorem sq_ret {k : GS} : (O.ret d δ).sq k = .ret d δ := rfl
theorem sq_retO {k : GS} : (O.retO d δ).sq k = .retO d δ := rfl
theorem sq_bk {k : GS} : (O.bk δ).sq k = .bk δ := rfl
theorem sq_ct {k : GS} : (O.ct δ).sq k = .ct δ := rfl
theorem s_seq : gSeq s t δ = (s δ).sq t := by unfold gSeq O.sq; cases s δ <;> rfl
theorem s_nx : gNx δ = .nx δ := rfl
theorem s_bk : gBk δ = .bk δ := rfl
theorem s_ct : gCt δ = .ct δ := rfl
theorem b_ok {k : D → FS → RE} : (RE.ok d δ).bind k = k d δ := rfl
theorem b_own {k : D → FS → RE} : (RE.own d δ).bind k = k d δ := rfl
theorem bB_ok {k : D → FS → RB} : (RE.ok d δ).bindB k = k d δ := rfl
theorem bB_own {k : D → FS → RB} : (RE.own d δ).bindB k = k d δ := rfl
theorem bS_ok {k : D → FS → O} : (RE.ok d δ).bindS k = k d δ := rfl
theorem bS_own {k : D → FS → O} : (RE.own d δ).bindS k = k d δ := rfl
theorem bL_ok {k : D → FS → RL} : (RE.ok d δ).bindL k = k d δ := rfl
theorem bL_own {k : D → FS → RL} : (RE.own d δ).bindL k = k d δ := rfl
theorem rb_ok {k : Bool → FS → RE} {v : Bool} : (RB.ok v δ).bind k = k v δ := rfl
theorem rbB_ok {k : Bool → FS → RB} {v : Bool} : (RB.ok v δ).bindB k = k v δ := rfl
theorem rbS_ok {k : Bool → FS → O} {v : Bool} : (RB.ok v δ).bindS k = k v δ := rfl
theorem rl_ok {k : List D → FS → RE} {ds : List D} : (RL.ok ds δ).bind k = k ds δ := rfl
theorem rlL_ok {k : List D → FS → RL} {ds : List D} : (RL.ok ds δ).bindL k = k ds δ := rfl
/-! leaves -/
def ofS (s : Option (Option SV)) (i : Nat) (δ : FS) : RE := match s with
  | some (some (.fz d)) => .ok d δ
  | some (some (.cl _ _)) => .ok (.var i) δ
  | _ => .bad
def ofF (s : Option (Option SV)) (δ : FS) : RE := match s with
  | some (some (.fz d)) => .ok d δ
  | _ => .bad
theorem e_c : gC d δ = .ok d δ := rfl
theorem e_v : gV i δ = ofF δ[i]? δ := by unfold gV ofF; rfl
theorem e_vc : gVc i δ = ofS δ[i]? i δ := by unfold gVc ofS; rfl
theorem ofF_fz : ofF (some (some (.fz d))) δ = .ok d δ := rfl
theorem ofS_fz : ofS (some (some (.fz d))) i δ = .ok d δ := rfl
theorem ofS_cl {m : Md} : ofS (some (some (.cl m d))) i δ = .ok (.var i) δ := rfl
theorem e_bin {f : FS → D → D → RE} : gBin f a b δ = (a δ).bind fun x δ1 => (b δ1).bind fun y δ2 => f δ2 x y := rfl
theorem e_un {f : FS → D → RE} : gUn f a δ = (a δ).bind fun x δ1 => f δ1 x := rfl
theorem e_nil : gNil δ = .ok [] δ := rfl
theorem e_cons {r : GA} : gCons a r δ = (a δ).bindL fun d δ1 => (r δ1).bindL fun ds δ2 => .ok (d :: ds) δ2 := rfl
theorem e_call {f : FS → List D → RE} {r : GA} : gCall f r δ = (r δ).bind fun ds δ1 => f δ1 ds := rfl
theorem e_lst {r : GA} : gLst r δ = (r δ).bind fun ds δ1 => if ds.length ≤ 16777216 then .own (.lst ds) δ1 else .bad := rfl
theorem e_tup {r : GA} : gTup r δ = (r δ).bind fun ds δ1 => if ds.length ≤ 16777216 then .ok (.tup ds) δ1 else .bad := rfl
theorem e_fn {n m : Nat} {f : List D → RF} {r : GA} : gFn n m f r δ = (r δ).bind fun ds δ1 => if ds.length = m then appF n f δ1 ds else .bad := rfl
theorem e_fnK {n m l : Nat} {pm : List Nat} {f : List D → RF} {r : GA} : gFnK n m l pm f r δ = (r δ).bind fun ds δ1 => if ds.length = l ∧ (permL pm ds).length = m then appF n f δ1 (permL pm ds) else .bad := rfl
def toB (δ : FS) (d : D) : RB := match top δ d with | .bl b => .ok b δ | _ => .bad
theorem t_b : gB a δ = (a δ).bindB fun d δ1 => toB δ1 d := rfl
theorem toB_bl {v : Bool} : toB δ (.bl v) = .ok v δ := rfl
def truB (δ : FS) (d : D) : RB := match truD δ d with | some b => .ok b δ | none => .bad
theorem t_tru : gTru a δ = (a δ).bindB fun d δ1 => truB δ1 d := rfl
theorem truB_bl {v : Bool} : truB δ (.bl v) = .ok v δ := rfl
theorem t_not {g : GB} : gNot g δ = (g δ).bindB fun x δ1 => .ok (!x) δ1 := rfl
theorem t_and {g h : GB} : gAnd g h δ = (g δ).bindB fun x δ1 => if x = true then h δ1 else .ok false δ1 := rfl
theorem t_or {g h : GB} : gOr g h δ = (g δ).bindB fun x δ1 => if x = true then .ok true δ1 else h δ1 := rfl
theorem e_ite {g : GB} : gIte g a b δ = (g δ).bind fun x δ1 => if x = true then a δ1 else b δ1 := rfl
def andK (b : GE) (x : D) (δ : FS) : RE := match top δ x with | .bl true => b δ | .bl false => .ok (.bl false) δ | _ => .bad
theorem e_and : gAndV a b δ = (a δ).bind (andK b) := rfl
theorem andK_t : andK b (.bl true) δ = b δ := rfl
theorem andK_f : andK b (.bl false) δ = .ok (.bl false) δ := rfl
def orK (b : GE) (x : D) (δ : FS) : RE := match top δ x with | .bl true => .ok (.bl true) δ | .bl false => b δ | _ => .bad
theorem e_or : gOrV a b δ = (a δ).bind (orK b) := rfl
theorem orK_t : orK b (.bl true) δ = .ok (.bl true) δ := rfl
theorem orK_f : orK b (.bl false) δ = b δ := rfl
def notK (x : D) (δ : FS) : RE := match top δ x with | .bl b => .ok (.bl (!b)) δ | _ => .bad
theorem e_not : gNotV a δ = (a δ).bind notK := rfl
theorem notK_bl {v : Bool} : notK (.bl v) δ = .ok (.bl (!v)) δ := rfl
def chK (f' : FS → D → D → RE) (y : D) (c : GE) (z : D) (δ : FS) : RE := match top δ z with
  | .bl true => (c δ).bind fun w δ4 => f' δ4 y w
  | .bl false => .ok (.bl false) δ
  | _ => .bad
theorem e_chain {f f' : FS → D → D → RE} : gChain f f' a b c δ = (a δ).bind fun x δ1 => (b δ1).bind fun y δ2 => (f δ2 x y).bind (chK f' y c) := rfl
theorem chK_t {f' : FS → D → D → RE} : chK f' d c (.bl true) δ = (c δ).bind fun w δ4 => f' δ4 d w := rfl
theorem chK_f {f' : FS → D → D → RE} : chK f' d c (.bl false) δ = .ok (.bl false) δ := rfl
/-! whole numbers -/
theorem add_ii : addD δ (.int x) (.int y) = .ok (.int (x + y)) δ := rfl
theorem sub_ii : subD δ (.int x) (.int y) = .ok (.int (x - y)) δ := rfl
theorem neg_i : negD δ (.int x) = .ok (.int (-x)) δ := rfl
theorem lt_ii : ltD δ (.int x) (.int y) = .ok (.bl (decide (x < y))) δ := rfl
theorem le_ii : leD δ (.int x) (.int y) = .ok (.bl (decide (x ≤ y))) δ := rfl
theorem gt_ii : gtD δ (.int x) (.int y) = .ok (.bl (decide (y < x))) δ := rfl
theorem ge_ii : geD δ (.int x) (.int y) = .ok (.bl (decide (y ≤ x))) δ := rfl
theorem log2_le {n : Nat} {k : Nat} (h : n < 2 ^ k) (hk : 0 < k) : n.log2 < k := by
  by_cases q : n = 0
  · subst q; rw [show Nat.log2 0 = 0 from by decide]; exact hk
  · exact (Nat.log2_lt q).mpr h
theorem mul_ii (h : (-(2 ^ 250) : Int) < x ∧ x < 2 ^ 250) (h2 : (-(2 ^ 250) : Int) < y ∧ y < 2 ^ 250) : mulD δ (.int x) (.int y) = .ok (.int (x * y)) δ := by
  have h1 : x.natAbs.log2 < 250 := log2_le (by omega) (by decide)
  have h3 : y.natAbs.log2 < 250 := log2_le (by omega) (by decide)
  show (if x.natAbs.log2 + y.natAbs.log2 < 1000000 then _ else _) = _
  rw [if_pos (by omega)]
theorem fdiv_ii (h : 0 < y ∧ y < 2 ^ 250) : fdivD δ (.int x) (.int y) = .ok (.int (x / y)) δ := by
  have h3 : y.natAbs.log2 < 250 := log2_le (by omega) (by decide)
  show (if 0 < y ∧ y.natAbs.log2 < 9000 then _ else _) = _
  rw [if_pos ⟨h.1, by omega⟩]
theorem mod_ii (h : 0 < y) : modD δ (.int x) (.int y) = .ok (.int (x % y)) δ := by
  show (if 0 < y then _ else _) = _
  rw [if_pos h]
theorem pow_ii (h : 0 ≤ y ∧ y ≤ 10000) (h2 : (-(2 ^ 250) : Int) < x ∧ x < 2 ^ 250) : powD δ (.int x) (.int y) = .ok (.int (x ^ y.toNat)) δ := by
  have h3 : x.natAbs.log2 < 250 := log2_le (by omega) (by decide)
  have h4 : (x.natAbs.log2 + 1) * y.toNat ≤ 250 * 10000 := Nat.mul_le_mul (by omega) (by omega)
  show (if 0 ≤ y ∧ (x.natAbs.log2 + 1) * y.toNat ≤ 100000000 then _ else _) = _
  rw [if_pos ⟨h.1, by omega⟩]
theorem abs_i : absD δ [.int x] = .ok (.int (if x < 0 then -x else x)) δ := rfl
theorem int_i : intD δ [.int x] = .ok (.int x) δ := rfl
theorem max_ii : max2D δ [.int x, .int y] = .ok (.int (if y > x then y else x)) δ := rfl
theorem min_ii : min2D δ [.int x, .int y] = .ok (.int (if y < x then y else x)) δ := rfl
/-! cells looked through -/
theorem top_get {m : Md} (h : δ[i]? = some (some (.cl m d))) : top δ (.var i) = d := by
  show (match δ[i]? with | some (some (.cl _ c)) => c | _ => .var i) = d
  rw [h]
theorem top_top {m : Md} (h : δ[i]? = some (some (.cl m d))) (hd : ∀ n, d ≠ .var n) : top δ (top δ (.var i)) = top δ (.var i) := by
  rw [top_get h]
  cases d with
  | var n => exact absurd rfl (hd n)
  | _ => rfl
/-! lists -/
theorem ix_l {ds : List D} (h : atI ds x = some d) : ixD δ (.lst ds) (.int x) = .ok d δ := by
  show (match atI ds x with | some d => _ | none => _) = _
  rw [h]
theorem ix_v {m : Md} {ds : List D} (h : δ[i]? = some (some (.cl m (.lst ds)))) (h2 : atI ds x = some d) : ixD δ (.var i) (.int x) = .ok d δ := by
  unfold ixD
  rw [top_get h]
  show (match atI ds x with | some d => _ | none => _) = _
  rw [h2]
theorem len_l {ds : List D} : lenD δ [.lst ds] = .ok (.int ds.length) δ := rfl
theorem len_s {ns : List Int} : lenD δ [.scr ns] = .ok (.int ns.length) δ := rfl
theorem len_v {m : Md} {ds : List D} (h : δ[i]? = some (some (.cl m (.lst ds)))) : lenD δ [.var i] = .ok (.int ds.length) δ := by
  show (match top δ (.var i) with | .lst xs => _ | .tup xs => _ | .scr xs => _ | .str z => _ | _ => _) = _
  rw [top_get h]
/-! statements -/
theorem s_set : gSet i a δ = (a δ).bindS fun d δ1 => if notCell δ1 i then .nx (δ1.set i (some (.fz d))) else .bad := rfl
theorem s_if {g : GB} : gIf g s t δ = (g δ).bindS fun x δ1 => if x = true then s δ1 else t δ1 := rfl
def RE.ret : RE → O
  | .ok d δ => .ret d δ
  | .own d δ => .retO d δ
  | .exn x δ => .exn x δ
  | .bad => .bad
  | .ownT xs ds ys δ => .retT xs ds ys δ
theorem s_ret : gRet a δ = (a δ).ret := by unfold gRet RE.ret; rfl
theorem ret_ok : (RE.ok d δ).ret = .ret d δ := rfl
theorem ret_own : (RE.own d δ).ret = .retO d δ := rfl
theorem s_drop : gDrop a δ = (a δ).bindS fun _ δ1 => .nx δ1 := rfl
theorem s_retN : gRetN δ = .ret .non δ := rfl
/-! places looked up -/
def cellOf (s : Option (Option SV)) (k : Nat) : D := match s with | some (some (.cl _ c)) => c | _ => .var k
theorem co_cl {m : Md} : cellOf (some (some (.cl m d))) i = d := rfl
theorem top_v : top δ (.var i) = cellOf δ[i]? i := by unfold cellOf; rfl
def ixL (d : D) (x : Int) (δ : FS) : RE := match d with
  | .lst ds => (match atI ds x with | some d => .ok d δ | none => .bad)
  | .tup ds => (match atI ds x with | some d => .ok d δ | none => .bad)
  | .scr ns => (match atI ns x with | some n => .ok (.int n) δ | none => .bad)
  | .str z => if z.length ≤ 16777216 then (match atI z.cps.toList x with | some c => .ok (.str ⟨#[c]⟩) δ | none => .bad) else .bad
  | _ => .bad
theorem ix_var : ixD δ (.var i) (.int x) = ixL (cellOf δ[i]? i) x δ := by
  show ixL (top δ (.var i)) x δ = _
  rw [top_v]
theorem ix_lst {ds : List D} : ixD δ (.lst ds) (.int x) = ixL (.lst ds) x δ := rfl
theorem ix_tup {ds : List D} : ixD δ (.tup ds) (.int x) = ixL (.tup ds) x δ := rfl
theorem ix_scr {ns : List Int} : ixD δ (.scr ns) (.int x) = ixL (.scr ns) x δ := rfl
variable {d0 d1 d2 d3 : D} {r : List D}
theorem ixN_lit {n : Nat} {k : Nat} (h : k < n) : ixN n (k : Int) = some k := by
  unfold ixN
  rw [if_pos (by omega)]
  have h2 : (k : Int) < (n : Int) := by omega
  simp only [if_pos h2, Int.toNat_natCast, h2, if_true]
theorem atI_nat {α : Type} {l : List α} {k : Nat} (h : k < l.length) : atI l (k : Int) = l[k]? := by
  unfold atI
  rw [ixN_lit h]
  rfl
theorem ixL0 : ixL (.lst (d0 :: r)) 0 δ = .ok d0 δ := by
  unfold ixL
  have : atI (d0 :: r) 0 = some d0 := atI_nat (l := d0 :: r) (k := 0) (by simp)
  simp only [this]
theorem ixL1 : ixL (.lst (d0 :: d1 :: r)) 1 δ = .ok d1 δ := by
  unfold ixL
  have : atI (d0 :: d1 :: r) 1 = some d1 := atI_nat (l := d0 :: d1 :: r) (k := 1) (by simp)
  simp only [this]
theorem ixL2 : ixL (.lst (d0 :: d1 :: d2 :: r)) 2 δ = .ok d2 δ := by
  unfold ixL
  have : atI (d0 :: d1 :: d2 :: r) 2 = some d2 := atI_nat (l := d0 :: d1 :: d2 :: r) (k := 2) (by simp)
  simp only [this]
def ncS : Option (Option SV) → Bool
  | some (some (.cl _ _)) => false
  | some _ => true
  | none => false
theorem nc_get : notCell δ i = ncS δ[i]? := by unfold notCell ncS; rfl
theorem nc_fz : ncS (some (some (.fz d))) = true := rfl
theorem nc_none : ncS (some none) = true := rfl
def isLS : Option (Option SV) → Bool
  | some (some (.cl _ (.lst _))) => true
  | _ => false
theorem isL_get : isL δ i = isLS δ[i]? := by
  unfold isL isLS
  rfl
theorem isL_cl {m : Md} : isLS (some (some (.cl m (.lst r)))) = true := rfl
def setK (i : Nat) (d : D) (j : D) (δ : FS) : O := match top δ j with
  | .int k => (match mutL δ i with
    | some (m, ds) => (match ixN ds.length k with
      | some q => .nx (δ.set i (some (.cl m (.lst (ds.set q d)))))
      | none => .bad)
    | none => .bad)
  | _ => .bad
theorem s_setIx {gi ge : GE} : gSetIx i gi ge δ = (ge δ).bindS fun d δ1 => if isL δ1 i then (gi δ1).bindS fun j δ2 => setK i d j δ2 else .bad := rfl
def mutS : Option (Option SV) → Option (Md × List D)
  | some (some (.cl m (.lst ds))) => if m = .ro then none else some (m, ds)
  | _ => none
theorem mutL_get : mutL δ i = mutS δ[i]? := by unfold mutL mutS; rfl
def setS (s : Option (Option SV)) (i : Nat) (d : D) (k : Int) (δ : FS) : O := match mutS s with
  | some (m, ds) => (match ixN ds.length k with
    | some q => .nx (δ.set i (some (.cl m (.lst (ds.set q d)))))
    | none => .bad)
  | none => .bad
theorem setK_i : setK i d (.int x) δ = setS δ[i]? i d x δ := by
  unfold setS
  rw [← mutL_get]
  rfl
theorem setS_nat {m : Md} {ds : List D} {k : Nat} (hm : m = .mu ∨ m = .bo) (h : k < ds.length) : setS (some (some (.cl m (.lst ds)))) i d (k : Int) δ = .nx (δ.set i (some (.cl m (.lst (ds.set k d))))) := by
  have e : mutS (some (some (.cl m (.lst ds)))) = some (m, ds) := by rcases hm with rfl | rfl <;> rfl
  unfold setS
  rw [e]
  simp only [ixN_lit h]
theorem set_bo0 : setS (some (some (.cl .bo (.lst (d0 :: r))))) i d 0 δ = .nx (δ.set i (some (.cl .bo (.lst (d :: r))))) := setS_nat (k := 0) (.inr rfl) (by simp)
theorem set_bo1 : setS (some (some (.cl .bo (.lst (d0 :: d1 :: r))))) i d 1 δ = .nx (δ.set i (some (.cl .bo (.lst (d0 :: d :: r))))) := setS_nat (k := 1) (.inr rfl) (by simp)
theorem set_bo2 : setS (some (some (.cl .bo (.lst (d0 :: d1 :: d2 :: r))))) i d 2 δ = .nx (δ.set i (some (.cl .bo (.lst (d0 :: d1 :: d :: r))))) := setS_nat (k := 2) (.inr rfl) (by simp)
theorem s_setC : gSetC i a δ = (match a δ with | .own d δ1 => if freeSlot δ1 i then .nx (δ1.set i (some (.cl .mu d))) else .bad | .exn x δ1 => .exn x δ1 | _ => .bad) := rfl
def finF (b : Nat) : O → RF
  | .nx δ => .ok .non (contB b δ)
  | .ret d δ => .ok d (contB b δ)
  | .retO d δ => .own d (contB b δ)
  | .retT xs ds ys δ => .ownT xs ds ys (contB b δ)
  | .exn x δ => .exn x (contB b δ)
  | _ => .bad
theorem run_fin {b n : Nat} {g : GS} {ds : List D} : runF b n g ds = finF b (g (pars b ds ++ List.replicate (n - ds.length) none)) := by
  unfold runF finF
  cases g (pars b ds ++ List.replicate (n - ds.length) none) <;> rfl
theorem fin_nx {b : Nat} : finF b (.nx δ) = .ok .non (contB b δ) := rfl
theorem fin_ret {b : Nat} : finF b (.ret d δ) = .ok d (contB b δ) := rfl
theorem fin_retO {b : Nat} : finF b (.retO d δ) = .own d (contB b δ) := rfl
def contS : Option (Option SV) → D
  | some (some (.cl _ c)) => c
  | _ => .non
theorem cont_get : contB i δ = contS δ[i]? := by unfold contB contS; rfl
theorem cont_cl {m : Md} : contS (some (some (.cl m d))) = d := rfl
theorem cont_no : contS none = .non := rfl
theorem pars_no {ds : List D} (h : ds.length ≤ 99) : pars 99 ds = ds.map fun d => some (SV.fz d) := by
  unfold pars
  rw [List.getElem?_eq_none (by omega)]
theorem pars_0 : pars 0 (d :: r) = some (.cl .bo d) :: r.map fun d => some (SV.fz d) := rfl
end
end DL

/-! PL, part f: loops, calls. -/
namespace DL
open PySem PySem.Spec L2
section
variable {δ : FS} {gt : GT} {b : GS} {gc : GB} {ge : GE} {vs : List Nat}
theorem loopF_inv (I : Nat → FS → Prop) : ∀ (ds : List D) (k : Nat) (δ : FS), (∀ n d δ, ds[n]? = some d → I (k + n) δ → ∃ δ1 δ2, gt d δ = some δ1 ∧ (b δ1 = .nx δ2 ∨ b δ1 = .ct δ2) ∧ I (k + n + 1) δ2) → I k δ → ∃ δ', loopF gt b ds δ = .nx δ' ∧ I (k + ds.length) δ'
  | [], k, δ, _, h0 => ⟨δ, rfl, h0⟩
  | d :: r, k, δ, st, h0 => by
    obtain ⟨δ1, δ2, e1, e2, h2⟩ := st 0 d δ rfl h0
    obtain ⟨δ', e3, h3⟩ := loopF_inv I r (k + 1) δ2 (fun n d δ e h => by
      have := st (n + 1) d δ e (by rw [show k + (n + 1) = k + 1 + n by omega]; exact h)
      rw [show k + (n + 1) + 1 = k + 1 + n + 1 by omega] at this
      exact this) h2
    refine ⟨δ', ?_, by rw [List.length_cons, show k + (r.length + 1) = k + 1 + r.length by omega]; exact h3⟩
    unfold loopF
    rw [e1]
    rcases e2 with e2 | e2 <;> (simp only [e2]; exact e3)
theorem for_inv {gi : GA} {ds : List D} {δ0 : FS} (I : Nat → FS → Prop) (hi : gi δ0 = .ok ds δ) (st : ∀ n d δ, ds[n]? = some d → I n δ → ∃ δ1 δ2, gt d δ = some δ1 ∧ (b δ1 = .nx δ2 ∨ b δ1 = .ct δ2) ∧ I (n + 1) δ2) (h0 : I 0 δ) :
    ∃ δ', gFor gi gt b δ0 = .nx δ' ∧ I ds.length δ' := by
  obtain ⟨δ', e, h⟩ := loopF_inv I ds 0 δ (fun n d δ e h => by rw [Nat.zero_add] at h ⊢; exact st n d δ e h) h0
  rw [Nat.zero_add] at h
  refine ⟨δ', ?_, h⟩
  unfold gFor
  rw [hi]
  exact e
/-- a comprehension whose turns keep I and give what P says -/
theorem loopL_inv (I : Nat → FS → Prop) (P : Nat → D → Prop) : ∀ (ds : List D) (k : Nat) (δ : FS),
    (∀ n d δ, ds[n]? = some d → I (k + n) δ → ∃ δ1 δ2 y δ3, gt d δ = some δ1 ∧ gc δ1 = .ok true δ2 ∧ (ge δ2 = .ok y δ3 ∨ ge δ2 = .own y δ3) ∧ P (k + n) y ∧ I (k + n + 1) (wipeF δ3 vs)) → I k δ →
    ∃ ys δ', loopL gt gc ge vs ds δ = .ok ys δ' ∧ I (k + ds.length) δ' ∧ ys.length = ds.length ∧ ∀ n y, ys[n]? = some y → P (k + n) y
  | [], k, δ, _, h0 => ⟨[], δ, rfl, h0, rfl, fun _ _ e => nomatch e⟩
  | d :: r, k, δ, st, h0 => by
    obtain ⟨δ1, δ2, y, δ3, e1, e2, e3, p, h2⟩ := st 0 d δ rfl h0
    obtain ⟨ys, δ', e4, h3, hl, hp⟩ := loopL_inv I P r (k + 1) _ (fun n d δ e h => by
      have := st (n + 1) d δ e (by rw [show k + (n + 1) = k + 1 + n by omega]; exact h)
      rw [show k + (n + 1) = k + 1 + n by omega] at this
      exact this) h2
    refine ⟨y :: ys, δ', ?_, by rw [List.length_cons, show k + (r.length + 1) = k + 1 + r.length by omega]; exact h3, by rw [List.length_cons, List.length_cons, hl], fun n z e => ?_⟩
    · unfold loopL
      rw [e1]
      simp only [e2]
      rcases e3 with e3 | e3 <;> (simp only [e3, e4])
    · cases n with
      | zero => cases e; exact p
      | succ n =>
        have := hp n z e
        rw [show k + 1 + n = k + (n + 1) by omega] at this
        exact this
theorem lc_inv {gi : GA} {ds : List D} {δ0 : FS} (I : Nat → FS → Prop) (P : Nat → D → Prop) (hi : gi δ0 = .ok ds δ) (hn : vs.all (notCell δ) = true) (hl : ds.length ≤ 16777216)
    (st : ∀ n d δ, ds[n]? = some d → I n δ → ∃ δ1 δ2 y δ3, gt d δ = some δ1 ∧ gc δ1 = .ok true δ2 ∧ (ge δ2 = .ok y δ3 ∨ ge δ2 = .own y δ3) ∧ P n y ∧ I (n + 1) (wipeF δ3 vs)) (h0 : I 0 (wipeF δ vs)) :
    ∃ ys δ', gLc gi gt gc ge vs δ0 = .own (.lst ys) (restF δ δ' vs) ∧ I ds.length δ' ∧ ys.length = ds.length ∧ ∀ n y, ys[n]? = some y → P n y := by
  obtain ⟨ys, δ', e, h, h2, h3⟩ := loopL_inv I P ds 0 _ (fun n d δ e h => by rw [Nat.zero_add] at h ⊢; exact st n d δ e h) h0
  rw [Nat.zero_add] at h
  refine ⟨ys, δ', ?_, h, h2, fun n y e => by have := h3 n y e; rw [Nat.zero_add] at this; exact this⟩
  unfold gLc
  rw [hi]
  simp only [hn, Bool.true_and, decide_eq_true hl, if_true, e]
/-- a comprehension that leaves the state as it was: h the items, c the test -/
theorem loopL_pure (c : D → Bool) (h : D → D) : ∀ (ds : List D), (∀ d ∈ ds, ∃ δ1 δ2 δ3, gt d δ = some δ1 ∧ gc δ1 = .ok (c d) δ2 ∧ (c d = true → (ge δ2 = .ok (h d) δ3 ∨ ge δ2 = .own (h d) δ3) ∧ wipeF δ3 vs = δ) ∧ (c d = false → wipeF δ2 vs = δ)) →
    loopL gt gc ge vs ds δ = .ok ((ds.filter c).map h) δ
  | [], _ => rfl
  | d :: r, st => by
    obtain ⟨δ1, δ2, δ3, e1, e2, e3, e4⟩ := st d List.mem_cons_self
    have ih := loopL_pure c h r fun x hx => st x (List.mem_cons_of_mem _ hx)
    unfold loopL
    rw [e1]
    simp only [e2]
    cases q : c d with
    | true =>
      obtain ⟨e5, e6⟩ := e3 q
      simp only [List.filter_cons, q, if_true, List.map_cons]
      rcases e5 with e5 | e5 <;> (simp only [e5, e6, ih])
    | false =>
      simp only [List.filter_cons, q, Bool.false_eq_true, if_false, e4 q, ih]
theorem lc_pure {gi : GA} {ds : List D} {δ0 : FS} (c : D → Bool) (h : D → D) (hi : gi δ0 = .ok ds δ) (hn : vs.all (notCell δ) = true) (hl : ds.length ≤ 16777216)
    (st : ∀ d ∈ ds, ∃ δ1 δ2 δ3, gt d (wipeF δ vs) = some δ1 ∧ gc δ1 = .ok (c d) δ2 ∧ (c d = true → (ge δ2 = .ok (h d) δ3 ∨ ge δ2 = .own (h d) δ3) ∧ wipeF δ3 vs = wipeF δ vs) ∧ (c d = false → wipeF δ2 vs = wipeF δ vs)) :
    gLc gi gt gc ge vs δ0 = .own (.lst ((ds.filter c).map h)) (restF δ (wipeF δ vs) vs) := by
  unfold gLc
  rw [hi]
  simp only [hn, Bool.true_and, decide_eq_true hl, if_true, loopL_pure c h ds st]
end
/-! ### calls -/
section
variable {δ : FS} {f : List D → RF} {d c : D} {i n : Nat} {m : Md}
def RF.re (δ : FS) : RF → RE
  | .ok d _ => .ok d δ
  | .own d _ => .own d δ
  | .exn x _ => .exn x δ
  | .bad => .bad
  | .ownT xs ds ys _ => .ownT xs ds ys δ
def RF.reB (i : Nat) (m : Md) (δ : FS) : RF → RE
  | .ok d c => .ok d (δ.set i (some (.cl m c)))
  | .own d c => .own d (δ.set i (some (.cl m c)))
  | .exn x c => .exn x (δ.set i (some (.cl m c)))
  | .bad => .bad
  | .ownT xs ds ys c => .ownT xs ds ys (δ.set i (some (.cl m c)))
theorem re_ok : (RF.ok d c).re δ = .ok d δ := rfl
theorem re_own : (RF.own d c).re δ = .own d δ := rfl
theorem reB_ok : (RF.ok d c).reB i m δ = .ok d (δ.set i (some (.cl m c))) := rfl
theorem reB_own : (RF.own d c).reB i m δ = .own d (δ.set i (some (.cl m c))) := rfl
def plain : List D → Bool
  | [] => true
  | .var _ :: _ => false
  | _ :: r => plain r
theorem plain_cons {d : D} {r : List D} (h : plain (d :: r) = true) : (∀ i, d ≠ .var i) ∧ plain r = true := by
  cases d <;> first | exact ⟨fun _ q => (nomatch q), h⟩ | (cases h)
theorem plain_lent {b : Nat} : ∀ {ds : List D} {j : Nat}, plain ds = true → lentV b j ds = []
  | [], _, _ => rfl
  | d :: r, j, h => by
    obtain ⟨h1, h2⟩ := plain_cons h
    unfold lentV
    cases d with
    | var i => exact absurd rfl (h1 i)
    | _ => exact plain_lent h2
theorem plain_top : ∀ {ds : List D}, plain ds = true → ds.map (top δ) = ds
  | [], _ => rfl
  | d :: r, h => by
    obtain ⟨h1, h2⟩ := plain_cons h
    rw [List.map_cons, plain_top h2]
    cases d with
    | var i => exact absurd rfl (h1 i)
    | _ => rfl
theorem endF_none {r : RF} : endF none δ r = r.re δ := by cases r <;> rfl
theorem endF_some {r : RF} : endF (some (i, m)) δ r = r.reB i m δ := by cases r <;> rfl
theorem app_p {ds : List D} (h : plain ds = true) (hl : ds.length ≤ 99) : appF 99 f δ ds = (f ds).re δ := by
  unfold appF borV
  rw [List.getElem?_eq_none (by omega)]
  simp only [plain_lent h, plain_top h, clash, Bool.false_eq_true, if_false]
  unfold endL
  simp only [List.isEmpty_nil, Bool.true_or, if_true]
  exact endF_none
theorem app_v {ds : List D} (hl : ds.length ≤ 99) (hs : safeF (f (ds.map (top δ))) = true) : appF 99 f δ ds = (f (ds.map (top δ))).re δ := by
  unfold appF borV
  rw [List.getElem?_eq_none (by omega)]
  simp only [clash, Bool.false_eq_true, if_false]
  unfold endL
  simp only [hs, Bool.or_true, if_true]
  exact endF_none
theorem app_b {r : List D} (e : δ[i]? = some (some (.cl m c))) (hm : m ≠ .ro) (h : plain r = true) : appF 0 f δ (.var i :: r) = (f (c :: r)).reB i m δ := by
  have l0 : lentV 0 0 (D.var i :: r) = [] := by
    unfold lentV
    simp only [if_true]
    exact plain_lent h
  unfold appF borV
  simp only [List.getElem?_cons_zero, e, if_neg hm, l0, List.map_cons, plain_top h, top_get e, clash, List.contains_nil, Bool.false_eq_true, if_false]
  unfold endL
  simp only [List.isEmpty_nil, Bool.true_or, if_true]
  exact endF_some
def appF0 (s : Option (Option SV)) (f : List D → RF) (δ : FS) (i : Nat) (r : List D) : RE := match s with
  | some (some (.cl m c)) => if m ≠ .ro ∧ plain r = true then (f (c :: r)).reB i m δ else appF 0 f δ (.var i :: r)
  | _ => appF 0 f δ (.var i :: r)
theorem app_0 {r : List D} : appF 0 f δ (.var i :: r) = appF0 δ[i]? f δ i r := by
  unfold appF0
  split
  · rename_i m c e
    split
    · rename_i h
      exact app_b e h.1 h.2
    · rfl
  · rfl
def appR (f : List D → RF) (δ : FS) (i : Nat) (r : List D) : RE := appF 0 f δ (.var i :: r)
def selB (b : Bool) (x y : RE) : RE := if b = true then x else y
theorem selB_t {x y : RE} : selB true x y = x := rfl
theorem app0_bo {r : List D} : appF0 (some (some (.cl .bo c))) f δ i r = selB (plain r) ((f (c :: r)).reB i .bo δ) (appR f δ i r) := by
  unfold appF0 selB appR
  simp only [ne_eq, reduceCtorEq, not_false_eq_true, true_and]
theorem app0_mu {r : List D} : appF0 (some (some (.cl .mu c))) f δ i r = selB (plain r) ((f (c :: r)).reB i .mu δ) (appR f δ i r) := by
  unfold appF0 selB appR
  simp only [ne_eq, reduceCtorEq, not_false_eq_true, true_and]
def appR9 (f : List D → RF) (δ : FS) (r : List D) : RE := appF 99 f δ r
theorem app_9 {ds : List D} : appF 99 f δ ds = selB (plain ds && decide (ds.length ≤ 99)) ((f ds).re δ) (appR9 f δ ds) := by
  unfold selB appR9
  split
  · rename_i h
    rw [Bool.and_eq_true, decide_eq_true_eq] at h
    exact app_p h.1 h.2
  · rfl
theorem rng1_e {a : GA} : gRng1 a δ = (a δ).bindL fun ds δ1 => int1 δ1 ds fun j => .ok (rngL 0 1 j.toNat) δ1 := rfl
theorem rng2_e {a : GA} : gRng2 a δ = (a δ).bindL fun ds δ1 => int2 δ1 ds fun i j => .ok (rngL i 1 (j - i).toNat) δ1 := rfl
theorem int1_i {j : Int} {k : Int → RL} (h : -16777216 ≤ j ∧ j ≤ 16777216) : int1 δ [.int j] k = k j := by
  unfold int1
  simp only [top]
  rw [if_pos]
  unfold rngOk
  simp only [Bool.and_eq_true, decide_eq_true_eq]
  exact h
theorem int2_i {i j : Int} {k : Int → Int → RL} (h : -16777216 ≤ j ∧ j ≤ 16777216) (h2 : -16777216 ≤ i ∧ i ≤ 16777216) : int2 δ [.int i, .int j] k = k i j := by
  show (if rngOk i then int1 δ [.int j] (k i) else .bad) = _
  rw [if_pos, int1_i h]
  unfold rngOk
  simp only [Bool.and_eq_true, decide_eq_true_eq]
  exact h2
theorem gt_name {δ : FS} : gtName i d δ = if notCell δ i then some (δ.set i (some (.fz d))) else none := rfl
def seqI (d : D) (δ : FS) : RL := match d with
  | .tup ds => .ok ds δ
  | d => (match frz δ d with | some (ds, δ2) => .ok ds δ2 | none => .bad)
theorem seqI_e {a : GE} : gSeqI a δ = (a δ).bindL seqI := rfl
theorem seqI_l {ds : List D} : seqI (.lst ds) δ = .ok ds δ := rfl
theorem seqI_t {ds : List D} : seqI (.tup ds) δ = .ok ds δ := rfl
theorem ints_of : ∀ (ys : List D) (P : Int → Prop), (∀ (n : Nat) (y : D), ys[n]? = some y → ∃ x, y = D.int x ∧ P x) → ∃ ns : List Int, ys = ns.map DL.D.int ∧ ∀ x ∈ ns, P x
  | [], _, _ => ⟨[], rfl, fun _ h => nomatch h⟩
  | y :: r, P, h => by
    obtain ⟨x, rfl, px⟩ := h 0 y rfl
    obtain ⟨ns, rfl, hp⟩ := ints_of r P fun n y e => h (n + 1) y e
    exact ⟨x :: ns, rfl, fun z hz => by
      rcases List.mem_cons.mp hz with rfl | hz
      · exact px
      · exact hp z hz⟩
theorem pl_nil : plain [] = true := rfl
theorem pl_int {x : Int} {r : List D} : plain (.int x :: r) = plain r := rfl
theorem pl_lst {x : List D} {r : List D} : plain (.lst x :: r) = plain r := rfl
theorem pl_tup {x : List D} {r : List D} : plain (.tup x :: r) = plain r := rfl
theorem pl_bl {x : Bool} {r : List D} : plain (.bl x :: r) = plain r := rfl
theorem pl_str {x : Str} {r : List D} : plain (.str x :: r) = plain r := rfl
theorem pl_non {r : List D} : plain (.non :: r) = plain r := rfl
theorem pl_scr {x : List Int} {r : List D} : plain (.scr x :: r) = plain r := rfl
theorem rest_nil {δ1 δ : FS} : restF δ1 δ [] = δ := rfl
theorem rest_cons {δ1 δ : FS} {v : Nat} {r : List Nat} : restF δ1 δ (v :: r) = (restF δ1 δ r).set v (δ1.getD v none) := rfl
theorem wipe_nil {δ : FS} : wipeF δ [] = δ := rfl
theorem wipe_cons {δ : FS} {v : Nat} {r : List Nat} : wipeF δ (v :: r) = (wipeF δ r).set v none := rfl
theorem eq_ii {x y : Int} : eqD δ (.int x) (.int y) = .ok (.bl (decide (x = y))) δ := by
  have e : eqvD δ (.int x) (.int y) = some (x == y) := by
    unfold eqvD
    simp only [res, toPy, SeqAt.shaped, PyData.canLay0, PyData.depth, PyData.eqv]
    rfl
  unfold eqD
  rw [e]
  show RE.ok (.bl (x == y)) δ = _
  congr 2
theorem ne_ii {x y : Int} : neD δ (.int x) (.int y) = .ok (.bl (!decide (x = y))) δ := by
  have e : eqvD δ (.int x) (.int y) = some (x == y) := by
    unfold eqvD
    simp only [res, toPy, SeqAt.shaped, PyData.canLay0, PyData.depth, PyData.eqv]
    rfl
  unfold neD
  rw [e]
  show RE.ok (.bl (!(x == y))) δ = _
  congr 2
theorem ints_map : ∀ ns : List Int, intsOf (ns.map D.int) = some ns
  | [] => rfl
  | a :: r => by
    show (intsOf (r.map D.int)).map (a :: ·) = _
    rw [ints_map r]
    rfl
theorem bls_map : ∀ ns : List Bool, blsOf (ns.map D.bl) = some ns
  | [] => rfl
  | a :: r => by
    show (blsOf (r.map D.bl)).map (a :: ·) = _
    rw [bls_map r]
    rfl
theorem sum_l {ns : List Int} : sumD δ [.lst (ns.map .int)] = .ok (.int ns.sum) δ := by
  show (match intsOf (ns.map D.int) with | some ns => RE.ok (.int ns.sum) δ | none => .bad) = _
  rw [ints_map]
theorem all_l {bs : List Bool} : allD δ [.lst (bs.map .bl)] = .ok (.bl (bs.all id)) δ := by
  show (match blsOf (bs.map D.bl) with | some ns => RE.ok (.bl (ns.all id)) δ | none => .bad) = _
  rw [bls_map]
theorem x_isi {T : Ty} {a : GE} : gIsi T a δ = (a δ).bind fun d δ1 => match isa T (top δ1 d) with | some b => .ok (.bl b) δ1 | none => .bad := rfl
theorem s_retC : gRetC i δ = (match δ[i]? with | some (some (.cl .mu d)) => .retO d (δ.set i none) | some (some (.cl .ro d)) => .ret d δ | some (some (.fz d)) => .ret d δ | _ => .bad) := by unfold gRetC; rfl
theorem e_app {a : GE} : gApp i a δ = if isL δ i then (a δ).bind fun d δ1 => match mutL δ1 i with | some (m, ds) => if ds.length < 16777216 then .ok .non (δ1.set i (some (.cl m (.lst (ds ++ [d]))))) else .bad | none => .bad else .bad := by
  unfold gApp
  rfl
theorem sl_ll {ds : List D} {lo hi : Option Int} : slD δ (.lst ds) lo hi = .own (.lst (cutD ds lo hi)) δ := rfl
theorem x_sl {a : GE} {lo hi : FS → RL} : gSl a lo hi δ = (a δ).bind fun d δ1 => gO lo δ1 fun l δ2 => gO hi δ2 fun u δ3 => slD δ3 d l u := rfl
def gPi (d : D) (δ : FS) : RL := match top δ d with | .int i => .ok [.int i] δ | _ => .bad
theorem gpart_e {a : GE} : gPart a δ = (a δ).bindL gPi := rfl
theorem gpart_i {x : Int} : gPi (.int x) δ = .ok [.int x] δ := rfl
def gOk (r : RL) (c : Option Int → FS → RE) : RE := match r with
  | .ok [] δ' => c none δ'
  | .ok [.int i] δ' => c (some i) δ'
  | .exn x δ' => .exn x δ'
  | _ => .bad
theorem gO_i {g : FS → RL} {c : Option Int → FS → RE} : gO g δ c = gOk (g δ) c := rfl
theorem gOk_i {x : Int} {c : Option Int → FS → RE} : gOk (.ok [.int x] δ) c = c (some x) δ := rfl
theorem gOk_n {c : Option Int → FS → RE} : gOk (.ok [] δ) c = c none δ := rfl
theorem noP_e : gNoP δ = .ok [] δ := rfl
theorem sIx_nat' (n d k : Nat) : HT.sIx n d (some (k : Int)) = min k n := HT.sIx_nat n d k
theorem pars9_0 {δ0 : FS} : pars 99 [] = [] := rfl
theorem pars9_1 {a0 : D} : pars 99 [a0] = [some (.fz a0)] := rfl
theorem pars9_2 {a0 a1 : D} : pars 99 [a0, a1] = [some (.fz a0), some (.fz a1)] := rfl
theorem pars9_3 {a0 a1 a2 : D} : pars 99 [a0, a1, a2] = [some (.fz a0), some (.fz a1), some (.fz a2)] := rfl
theorem pars9_4 {a0 a1 a2 a3 : D} : pars 99 [a0, a1, a2, a3] = [some (.fz a0), some (.fz a1), some (.fz a2), some (.fz a3)] := rfl
theorem pars9_5 {a0 a1 a2 a3 a4 : D} : pars 99 [a0, a1, a2, a3, a4] = [some (.fz a0), some (.fz a1), some (.fz a2), some (.fz a3), some (.fz a4)] := rfl
theorem pars9_6 {a0 a1 a2 a3 a4 a5 : D} : pars 99 [a0, a1, a2, a3, a4, a5] = [some (.fz a0), some (.fz a1), some (.fz a2), some (.fz a3), some (.fz a4), some (.fz a5)] := rfl
theorem pars9_7 {a0 a1 a2 a3 a4 a5 a6 : D} : pars 99 [a0, a1, a2, a3, a4, a5, a6] = [some (.fz a0), some (.fz a1), some (.fz a2), some (.fz a3), some (.fz a4), some (.fz a5), some (.fz a6)] := rfl
theorem pars9_8 {a0 a1 a2 a3 a4 a5 a6 a7 : D} : pars 99 [a0, a1, a2, a3, a4, a5, a6, a7] = [some (.fz a0), some (.fz a1), some (.fz a2), some (.fz a3), some (.fz a4), some (.fz a5), some (.fz a6), some (.fz a7)] := rfl
theorem rng_len (c : Int) : ∀ (n : Nat) (lo : Int), (rngL lo c n).length = n
  | 0, _ => rfl
  | n + 1, lo => congrArg (· + 1) (rng_len c n (lo + c))
theorem rng_get (c : Int) : ∀ (n i : Nat) (lo : Int), i < n → (rngL lo c n)[i]? = some (.int (lo + (i : Nat) * c))
  | n + 1, 0, lo, _ => by simp [rngL]
  | n + 1, i + 1, lo, h => by
    have ih := rng_get c n i (lo + c) (by omega)
    show (rngL (lo + c) c n)[i]? = _
    rw [ih]
    congr 2
    rw [Int.natCast_succ, Int.add_mul]
    omega
theorem rng_at {c lo : Int} {n k : Nat} {d : D} (h : (rngL lo c n)[k]? = some d) : k < n ∧ d = .int (lo + (k : Nat) * c) := by
  have hk : k < n := by
    have := (List.getElem?_eq_some_iff.mp h).1
    rw [rng_len] at this
    exact this
  rw [rng_get c n k lo hk] at h
  cases h
  exact ⟨hk, rfl⟩
def isiK (T : Ty) (d : D) (δ : FS) : RE := match isa T (top δ d) with | some b => .ok (.bl b) δ | none => .bad
theorem isi_e {T : Ty} {a : GE} : gIsi T a δ = (a δ).bind (isiK T) := rfl
theorem isi_int_non : isiK .int (.non) δ = .ok (.bl false) δ := rfl
theorem isi_int_bl {u : Bool} : isiK .int (.bl u) δ = .ok (.bl true) δ := rfl
theorem isi_int_int {u : Int} : isiK .int (.int u) δ = .ok (.bl true) δ := rfl
theorem isi_int_str {u : Str} : isiK .int (.str u) δ = .ok (.bl false) δ := rfl
theorem isi_int_lst {u : List D} : isiK .int (.lst u) δ = .ok (.bl false) δ := rfl
theorem isi_int_tup {u : List D} : isiK .int (.tup u) δ = .ok (.bl false) δ := rfl
theorem isi_int_dic {u : List (Key × D)} : isiK .int (.dic u) δ = .ok (.bl false) δ := rfl
theorem isi_int_scr {u : List Int} : isiK .int (.scr u) δ = .ok (.bl false) δ := rfl
theorem isi_bool_non : isiK .bool (.non) δ = .ok (.bl false) δ := rfl
theorem isi_bool_bl {u : Bool} : isiK .bool (.bl u) δ = .ok (.bl true) δ := rfl
theorem isi_bool_int {u : Int} : isiK .bool (.int u) δ = .ok (.bl false) δ := rfl
theorem isi_bool_str {u : Str} : isiK .bool (.str u) δ = .ok (.bl false) δ := rfl
theorem isi_bool_lst {u : List D} : isiK .bool (.lst u) δ = .ok (.bl false) δ := rfl
theorem isi_bool_tup {u : List D} : isiK .bool (.tup u) δ = .ok (.bl false) δ := rfl
theorem isi_bool_dic {u : List (Key × D)} : isiK .bool (.dic u) δ = .ok (.bl false) δ := rfl
theorem isi_bool_scr {u : List Int} : isiK .bool (.scr u) δ = .ok (.bl false) δ := rfl
theorem isi_str_non : isiK .str (.non) δ = .ok (.bl false) δ := rfl
theorem isi_str_bl {u : Bool} : isiK .str (.bl u) δ = .ok (.bl false) δ := rfl
theorem isi_str_int {u : Int} : isiK .str (.int u) δ = .ok (.bl false) δ := rfl
theorem isi_str_str {u : Str} : isiK .str (.str u) δ = .ok (.bl true) δ := rfl
theorem isi_str_lst {u : List D} : isiK .str (.lst u) δ = .ok (.bl false) δ := rfl
theorem isi_str_tup {u : List D} : isiK .str (.tup u) δ = .ok (.bl false) δ := rfl
theorem isi_str_dic {u : List (Key × D)} : isiK .str (.dic u) δ = .ok (.bl false) δ := rfl
theorem isi_str_scr {u : List Int} : isiK .str (.scr u) δ = .ok (.bl false) δ := rfl
theorem isi_list_non : isiK .list (.non) δ = .ok (.bl false) δ := rfl
theorem isi_list_bl {u : Bool} : isiK .list (.bl u) δ = .ok (.bl false) δ := rfl
theorem isi_list_int {u : Int} : isiK .list (.int u) δ = .ok (.bl false) δ := rfl
theorem isi_list_str {u : Str} : isiK .list (.str u) δ = .ok (.bl false) δ := rfl
theorem isi_list_lst {u : List D} : isiK .list (.lst u) δ = .ok (.bl true) δ := rfl
theorem isi_list_tup {u : List D} : isiK .list (.tup u) δ = .ok (.bl false) δ := rfl
theorem isi_list_dic {u : List (Key × D)} : isiK .list (.dic u) δ = .ok (.bl false) δ := rfl
theorem isi_list_scr {u : List Int} : isiK .list (.scr u) δ = .ok (.bl true) δ := rfl
theorem isi_tuple_non : isiK .tuple (.non) δ = .ok (.bl false) δ := rfl
theorem isi_tuple_bl {u : Bool} : isiK .tuple (.bl u) δ = .ok (.bl false) δ := rfl
theorem isi_tuple_int {u : Int} : isiK .tuple (.int u) δ = .ok (.bl false) δ := rfl
theorem isi_tuple_str {u : Str} : isiK .tuple (.str u) δ = .ok (.bl false) δ := rfl
theorem isi_tuple_lst {u : List D} : isiK .tuple (.lst u) δ = .ok (.bl false) δ := rfl
theorem isi_tuple_tup {u : List D} : isiK .tuple (.tup u) δ = .ok (.bl true) δ := rfl
theorem isi_tuple_dic {u : List (Key × D)} : isiK .tuple (.dic u) δ = .ok (.bl false) δ := rfl
theorem isi_tuple_scr {u : List Int} : isiK .tuple (.scr u) δ = .ok (.bl false) δ := rfl
theorem isi_dict_non : isiK .dict (.non) δ = .ok (.bl false) δ := rfl
theorem isi_dict_bl {u : Bool} : isiK .dict (.bl u) δ = .ok (.bl false) δ := rfl
theorem isi_dict_int {u : Int} : isiK .dict (.int u) δ = .ok (.bl false) δ := rfl
theorem isi_dict_str {u : Str} : isiK .dict (.str u) δ = .ok (.bl false) δ := rfl
theorem isi_dict_lst {u : List D} : isiK .dict (.lst u) δ = .ok (.bl false) δ := rfl
theorem isi_dict_tup {u : List D} : isiK .dict (.tup u) δ = .ok (.bl false) δ := rfl
theorem isi_dict_dic {u : List (Key × D)} : isiK .dict (.dic u) δ = .ok (.bl true) δ := rfl
theorem isi_dict_scr {u : List Int} : isiK .dict (.scr u) δ = .ok (.bl false) δ := rfl
theorem rng_range (n : Nat) (lo : Int) : rngL lo 1 n = (List.range n).map fun k => D.int (lo + (k : Nat)) := by
  refine List.ext_getElem? fun i => ?_
  by_cases h : i < n
  · rw [rng_get 1 n i lo h, List.getElem?_map, List.getElem?_range h]
    simp
  · rw [List.getElem?_eq_none (by rw [rng_len]; omega), List.getElem?_eq_none (by rw [List.length_map, List.length_range]; omega)]
theorem filt_true {ds : List D} : (ds.filter fun _ => true) = ds := List.filter_eq_self.mpr fun _ _ => rfl
def lstK (ds : List D) (δ : FS) : RE := match rgOf δ ds with
  | some (i, c, n) => if n ≤ 16777216 then .own (.lst (rngL i c n)) δ else .bad
  | none => .bad
theorem lstR_e {a : GA} : gLstR a δ = (a δ).bind lstK := rfl
theorem rngOk_mk {i : Int} (h : -16777216 ≤ i ∧ i ≤ 16777216) : rngOk i = true := by
  unfold rngOk
  simp only [Bool.and_eq_true, decide_eq_true_eq]
  exact h
theorem lstK3 {i j c : Int} (hi : -16777216 ≤ i ∧ i ≤ 16777216) (hj : -16777216 ≤ j ∧ j ≤ 16777216) (hc : 0 < c ∧ c ≤ 16777216) (hd : j - i ≤ 16777216) :
    lstK [.int i, .int j, .int c] δ = .own (.lst (rngL i c (if i < j then (j - i - 1) / c + 1 else 0).toNat)) δ := by
  unfold lstK
  have e : rgOf δ [.int i, .int j, .int c] = some (i, c, (if i < j then (j - i - 1) / c + 1 else 0).toNat) := by
    unfold rgOf
    simp only [DL.top, rngOk_mk hi, rngOk_mk hj, rngOk_mk (show -16777216 ≤ c ∧ c ≤ 16777216 by omega), Bool.true_and, decide_eq_true hc.1, if_true]
  rw [e]
  simp only
  rw [if_pos]
  split
  · have h2 : (j - i - 1) / c ≤ j - i - 1 := Int.ediv_le_self _ (by omega)
    omega
  · simp
theorem ext_lt : ∀ {a b : List Int}, a.Pairwise (· < ·) → b.Pairwise (· < ·) → (∀ x, x ∈ a ↔ x ∈ b) → a = b
  | [], [], _, _, _ => rfl
  | [], y :: b, _, _, h => absurd ((h y).mpr List.mem_cons_self) List.not_mem_nil
  | x :: a, [], _, _, h => absurd ((h x).mp List.mem_cons_self) List.not_mem_nil
  | x :: a, y :: b, ha, hb, h => by
    obtain ⟨u1, u2⟩ := List.pairwise_cons.mp ha
    obtain ⟨v1, v2⟩ := List.pairwise_cons.mp hb
    have e : x = y := by
      rcases List.mem_cons.mp ((h x).mp List.mem_cons_self) with q | q
      · exact q
      · rcases List.mem_cons.mp ((h y).mpr List.mem_cons_self) with z | z
        · exact z.symm
        · have := u1 y z; have := v1 x q; omega
    subst e
    rw [ext_lt u2 v2 fun z => ?_]
    constructor
    · intro hz
      rcases List.mem_cons.mp ((h z).mp (List.mem_cons_of_mem _ hz)) with q | q
      · have := u1 z hz; omega
      · exact q
    · intro hz
      rcases List.mem_cons.mp ((h z).mpr (List.mem_cons_of_mem _ hz)) with q | q
      · have := v1 z hz; omega
      · exact q
theorem range_lt (n : Nat) : ((List.range n).map fun k : Nat => (k : Int)).Pairwise (· < ·) := by
  rw [List.pairwise_map]
  exact (List.pairwise_lt_range (n := n)).imp fun h => by omega
theorem rng_step (n : Nat) (lo c : Int) : rngL lo c n = ((List.range n).map fun k => lo + (k : Nat) * c).map D.int := by
  refine List.ext_getElem? fun i => ?_
  by_cases h : i < n
  · rw [rng_get c n i lo h, List.getElem?_map, List.getElem?_map, List.getElem?_range h]
    rfl
  · rw [List.getElem?_eq_none (by rw [rng_len]; omega), List.getElem?_eq_none (by rw [List.length_map, List.length_map, List.length_range]; omega)]
theorem nc_map {o : Option D} : ncS (some (o.map SV.fz)) = true := by cases o <;> rfl
def appK (i : Nat) (d : D) (δ : FS) : RE := match mutL δ i with | some (m, ds) => if ds.length < 16777216 then .ok .non (δ.set i (some (.cl m (.lst (ds ++ [d]))))) else .bad | none => .bad
theorem app_e {a : GE} : gApp i a δ = if isL δ i then (a δ).bind (appK i) else .bad := by
  unfold gApp appK
  rfl
def appS (s : Option (Option SV)) (i : Nat) (d : D) (δ : FS) : RE := match mutS s with | some (m, ds) => if ds.length < 16777216 then .ok .non (δ.set i (some (.cl m (.lst (ds ++ [d]))))) else .bad | none => .bad
theorem appK_e : appK i d δ = appS δ[i]? i d δ := by
  unfold appK appS
  rw [mutL_get]
theorem appS_mu {r : List D} (h : r.length < 16777216) : appS (some (some (.cl .mu (.lst r)))) i d δ = .ok .non (δ.set i (some (.cl .mu (.lst (r ++ [d]))))) := by
  unfold appS
  have e : mutS (some (some (.cl .mu (.lst r)))) = some (.mu, r) := rfl
  rw [e]
  exact if_pos h
def retS (s : Option (Option SV)) (i : Nat) (δ : FS) : O := match s with | some (some (.cl .mu d)) => .retO d (δ.set i none) | some (some (.cl .ro d)) => .ret d δ | some (some (.fz d)) => .ret d δ | _ => .bad
theorem retC_e : gRetC i δ = retS δ[i]? i δ := by unfold gRetC retS; rfl
theorem retS_mu : retS (some (some (.cl .mu d))) i δ = .retO d (δ.set i none) := rfl
def setCK (i : Nat) (r : RE) : O := match r with | .own d δ1 => if freeSlot δ1 i then .nx (δ1.set i (some (.cl .mu d))) else .bad | .exn x δ1 => .exn x δ1 | _ => .bad
theorem setC_e {a : GE} : gSetC i a δ = setCK i (a δ) := by unfold gSetC setCK; rfl
theorem setCK_own : setCK i (.own d δ) = if freeSlot δ i then .nx (δ.set i (some (.cl .mu d))) else .bad := rfl
def frS : Option (Option SV) → Bool
  | some (some (.cl .bo _)) => false
  | some _ => true
  | none => false
theorem fr_get : freeSlot δ i = frS δ[i]? := by unfold freeSlot frS; rfl
theorem fr_none : frS (some none) = true := rfl
theorem fr_fz : frS (some (some (.fz d))) = true := rfl
theorem fr_mu : frS (some (some (.cl .mu d))) = true := rfl
theorem fr_ro : frS (some (some (.cl .ro d))) = true := rfl
theorem ixL_nat {l : List Int} {k : Nat} (h : k < l.length) : ixL (.lst (l.map .int)) (k : Int) δ = .ok (.int l[k]) δ := by
  unfold ixL
  have : L2.atI (l.map D.int) (k : Int) = some (.int l[k]) := by
    rw [atI_nat (by rw [List.length_map]; exact h), List.getElem?_map, List.getElem?_eq_getElem h]
    rfl
  simp only [this]
theorem sum_next {l : List Int} {k : Nat} (h : k < l.length) : (l.take (k + 1)).sum = (l.take k).sum + l[k] := by
  rw [List.take_succ, List.getElem?_eq_getElem h, List.sum_append]
  simp
theorem take_next {l : List Int} {k : Nat} (h : k < l.length) : l.take (k + 1) = l.take k ++ [l[k]] := by
  rw [List.take_succ, List.getElem?_eq_getElem h]
  rfl
end
end DL

/-! PL, part g: texts of lists of whole numbers; equality. -/
namespace DL
open PySem PySem.Spec
abbrev LI (l : List Int) : D := .lst (l.map .int)
theorem toPyA_ints : ∀ l : List Int, toPyA (l.map D.int) = some (l.map PyData.int)
  | [] => rfl
  | x :: r => by
    rw [List.map_cons]
    simp only [toPyA, toPyA_ints r]
    rfl
theorem resA_ints {δ : FS} : ∀ l : List Int, resA δ (l.map D.int) = l.map D.int
  | [] => rfl
  | x :: r => by
    rw [List.map_cons]
    simp only [resA, resA_ints r, res]
theorem eqvAll_ints : ∀ a b : List Int, PyData.eqvAll (a.map PyData.int) (b.map PyData.int) = decide (a = b)
  | [], [] => rfl
  | [], _ :: _ => rfl
  | _ :: _, [] => rfl
  | x :: a, y :: b => by
    simp only [List.map_cons, PyData.eqvAll, PyData.eqv, eqvAll_ints a b]
    by_cases h : x = y
    · subst h
      by_cases h2 : a = b
      · subst h2; simp
      · simp [h2]
    · have : (x == y) = false := by simpa using h
      simp [this, h]
theorem canLay_ints : ∀ l : List Int, PyData.canLayAll0 (l.map PyData.int) = true
  | [] => rfl
  | x :: r => by simp only [List.map_cons, PyData.canLayAll0, PyData.canLay0, canLay_ints r, Bool.and_self]
theorem depth_ints : ∀ l : List Int, PyData.depthAll (l.map PyData.int) = 0
  | [] => rfl
  | x :: r => by simp only [List.map_cons, PyData.depthAll, PyData.depth, depth_ints r, Nat.max_self]
theorem shaped_ints (l : List Int) : SeqAt.shaped (.list (l.map PyData.int)) = true := by
  unfold SeqAt.shaped
  simp only [PyData.canLay0, canLay_ints, PyData.depth, depth_ints]
  rfl
theorem eqv_li {δ : FS} {a b : List Int} : eqvD δ (LI a) (LI b) = some (decide (a = b)) := by
  unfold eqvD
  simp only [res, resA_ints, toPy, toPyA_ints, Option.map_some, shaped_ints, Bool.and_self, if_true, PyData.eqv, eqvAll_ints]
theorem eq_li {δ : FS} {a b : List Int} : eqD δ (LI a) (LI b) = .ok (.bl (decide (a = b))) δ := by
  unfold eqD
  rw [eqv_li]
theorem ne_li {δ : FS} {a b : List Int} : neD δ (LI a) (LI b) = .ok (.bl (!decide (a = b))) δ := by
  unfold neD
  rw [eqv_li]
/-! ### repr -/
def Sml (l : List Int) : Prop := l.length ≤ 10000 ∧ ∀ x ∈ l, -(2 ^ 250) < x ∧ x < 2 ^ 250
def shS (l : List Int) : Str := PyData.shown (.list (l.map .int))
theorem int_shown (x : Int) (h : -(2 ^ 250) < x ∧ x < 2 ^ 250) : (PyData.shown (.int x)).length ≤ 251 := by
  have h1 : x.natAbs.log2 < 250 := log2_le (by omega) (by decide)
  have := int_text_length_le (a := x) (by decide) h1
  unfold PyData.shown
  show (Str.ofString (toString x)).length ≤ 251
  rw [PySem.ofString_length]
  omega
theorem sok_append {a b : Str} (ha : PyData.strOk a = true) (hb : PyData.strOk b = true) : PyData.strOk (a ++ b) = true := by
  unfold PyData.strOk at ha hb ⊢
  rw [Str.cps_append, Array.all_append, ha, hb]
  rfl
theorem sok_of (s : String) : PyData.strOk (Str.ofString s) = true := by
  unfold PyData.strOk
  rw [Str.ofString_eq_toList]
  simp only [List.all_toArray, List.all_map, List.all_eq_true, Function.comp, decide_eq_true_eq]
  intro c _
  have := c.valid
  have h2 : c.toNat < 1114112 := by
    rcases this with h | h
    · exact Nat.lt_trans h (by decide)
    · exact h.2
  exact h2
theorem text_len : ∀ (ts : List Str) (k : Nat) (acc : Str) (B : Nat), (∀ t ∈ ts, t.length ≤ B) → (textFrom k acc ts).length ≤ acc.length + ts.length * (B + 2)
  | [], k, acc, B, _ => by unfold textFrom; simp
  | t :: r, k, acc, B, h => by
    unfold textFrom
    refine Nat.le_trans (text_len r (k + 1) _ B fun x hx => h x (List.mem_cons_of_mem _ hx)) ?_
    rw [Str.length_append, Str.length_append]
    have h1 := h t List.mem_cons_self
    have h2 : (Str.ofString (if k > 0 then ", " else "")).length ≤ 2 := by
      rw [PySem.ofString_length]
      split <;> decide
    rw [List.length_cons, Nat.add_mul]
    omega
theorem text_ok : ∀ (ts : List Str) (k : Nat) (acc : Str), PyData.strOk acc = true → (∀ t ∈ ts, PyData.strOk t = true) → PyData.strOk (textFrom k acc ts) = true
  | [], k, acc, h, _ => by unfold textFrom; exact h
  | t :: r, k, acc, h, ht => by
    unfold textFrom
    exact text_ok r (k + 1) _ (sok_append (sok_append h (sok_of _)) (ht t List.mem_cons_self)) fun x hx => ht x (List.mem_cons_of_mem _ hx)
theorem shownAll_ints : ∀ l : List Int, PyData.shownAll (l.map PyData.int) = l.map fun x => PyData.shown (.int x)
  | [] => rfl
  | x :: r => by simp only [List.map_cons, PyData.shownAll, shownAll_ints r]
theorem shS_ok (l : List Int) : PyData.strOk (shS l) = true := by
  unfold shS PyData.shown listText
  refine sok_append (text_ok _ _ _ (sok_of _) fun t ht => ?_) (sok_of _)
  rw [shownAll_ints] at ht
  obtain ⟨x, _, rfl⟩ := List.mem_map.mp ht
  unfold PyData.shown
  exact sok_of _
theorem shS_len {l : List Int} (h : Sml l) : (shS l).length ≤ 16777216 := by
  unfold shS PyData.shown listText
  rw [Str.length_append]
  have h1 := text_len (PyData.shownAll (l.map .int)) 0 "[" 251 (fun t ht => by
    rw [shownAll_ints] at ht
    obtain ⟨x, hx, rfl⟩ := List.mem_map.mp ht
    exact int_shown x (h.2 x hx))
  rw [shownAll_ints, List.length_map] at h1
  have h2 : (Str.ofString "[").length = 1 := by rw [PySem.ofString_length]; rfl
  have h3 : (Str.ofString "]").length = 1 := by rw [PySem.ofString_length]; rfl
  have h4 := h.1
  rw [shownAll_ints]
  have h5 : l.length * (251 + 2) ≤ 10000 * 253 := Nat.mul_le_mul h4 (Nat.le_refl _)
  omega
theorem showable_ints : ∀ {l : List Int}, (∀ x ∈ l, -(2 ^ 250) < x ∧ x < 2 ^ 250) → PyData.showableAll (l.map PyData.int) = true
  | [], _ => rfl
  | x :: r, h => by
    have h0 := h x List.mem_cons_self
    have h1 : x.natAbs.log2 < 250 := log2_le (by omega) (by decide)
    have h2 : decide (x.natAbs.log2 < 1920) = true := decide_eq_true (by omega)
    simp only [List.map_cons, PyData.showableAll, PyData.showable, h2, showable_ints fun y hy => h y (List.mem_cons_of_mem _ hy), Bool.and_self]
theorem noDict_ints : ∀ l : List Int, PyData.hasDictAll (l.map PyData.int) = false
  | [] => rfl
  | x :: r => by simp only [List.map_cons, PyData.hasDictAll, PyData.hasDict, noDict_ints r, Bool.or_self]
def reprC (d : D) (δ : FS) : RE := match (match toPy (res δ d) with
  | some p => if p.showable && !p.hasDict && decide (p.depth ≤ 64) && decide (p.shown.length ≤ 16777216) then some p.shown else none
  | none => none) with | some z => .ok (.str z) δ | none => .bad
theorem repr_d {δ : FS} {d : D} : reprD δ [d] = reprC d δ := rfl
theorem res_top {δ : FS} {i : Nat} {l : List Int} (h : cellOf δ[i]? i = LI l) : res δ (.var i) = LI l := by
  show DL.top δ (.var i) = _
  rw [top_v, h]
theorem reprC_li {δ : FS} {l : List Int} (h : Sml l) : reprC (LI l) δ = .ok (.str (shS l)) δ := by
  unfold reprC
  have hd : decide ((PyData.list (l.map PyData.int)).depth ≤ 64) = true := by
    simp only [PyData.depth, depth_ints]
    rfl
  have hl : decide ((PyData.list (l.map PyData.int)).shown.length ≤ 16777216) = true := decide_eq_true (shS_len h)
  have hs : (PyData.list (l.map PyData.int)).showable = true := by
    simp only [PyData.showable]
    exact showable_ints h.2
  have hn : (PyData.list (l.map PyData.int)).hasDict = false := by
    simp only [PyData.hasDict]
    exact noDict_ints l
  simp only [res, resA_ints, toPy, toPyA_ints, Option.map_some, hd, hl, hs, hn, Bool.not_false, Bool.and_self, if_true]
  rfl
theorem repr_var {δ : FS} {i : Nat} {l : List Int} (hc : cellOf δ[i]? i = LI l) (h : Sml l) : reprD δ [.var i] = .ok (.str (shS l)) δ := by
  have e : reprC (.var i) δ = reprC (LI l) δ := by
    unfold reprC
    rw [res_top hc]
    simp only [res, resA_ints]
  rw [repr_d, e, reprC_li h]
theorem repr_li {δ : FS} {l : List Int} (h : Sml l) : reprD δ [LI l] = .ok (.str (shS l)) δ := reprC_li h
theorem ne_str {δ : FS} {a b : Str} (ha : PyData.strOk a = true) (hb : PyData.strOk b = true) : neD δ (.str a) (.str b) = .ok (.bl (!(a == b))) δ := by
  have e : eqvD δ (.str a) (.str b) = some (a == b) := by
    unfold eqvD
    simp only [res, toPy, SeqAt.shaped, PyData.canLay0, ha, hb, PyData.depth, Bool.true_and, PyData.eqv]
    rfl
  unfold neD
  rw [e]
def shI (x : Int) : Str := PyData.shown (.int x)
theorem repr_int {δ : FS} {x : Int} (h : -(2 ^ 250) < x ∧ x < 2 ^ 250) : reprD δ [.int x] = .ok (.str (shI x)) δ := by
  have h1 : x.natAbs.log2 < 250 := log2_le (by omega) (by decide)
  have h2 : decide (x.natAbs.log2 < 1920) = true := decide_eq_true (by omega)
  have h3 : decide ((PyData.int x).shown.length ≤ 16777216) = true := decide_eq_true (Nat.le_trans (int_shown x h) (by decide))
  rw [repr_d]
  unfold reprC
  simp only [res, toPy, PyData.showable, PyData.hasDict, PyData.depth, h2, h3, Bool.not_false, Bool.and_self]
  rfl
theorem shI_ok (x : Int) : PyData.strOk (shI x) = true := by
  unfold shI PyData.shown
  exact sok_of _
theorem list_li {δ : FS} {ds : List D} : listD δ [.lst ds] = .own (.lst ds) δ := rfl
theorem neq_li {δ : FS} {l : List Int} : neD δ (LI l) (LI l) = .ok (.bl false) δ := by rw [ne_li]; simp
theorem neq_sh {δ : FS} {l : List Int} : neD δ (.str (shS l)) (.str (shS l)) = .ok (.bl false) δ := by rw [ne_str (shS_ok l) (shS_ok l)]; simp
theorem neq_shI {δ : FS} {x : Int} : neD δ (.str (shI x)) (.str (shI x)) = .ok (.bl false) δ := by rw [ne_str (shI_ok x) (shI_ok x)]; simp
def permK (b n m : Nat) (pm : List Nat) (f : List D → RF) (ds : List D) (δ : FS) : RE := if ds.length = m ∧ (permL pm ds).length = n then appF b f δ (permL pm ds) else .bad
theorem fnK_e {b n m : Nat} {pm : List Nat} {f : List D → RF} {a : GA} {δ : FS} : gFnK b n m pm f a δ = (a δ).bind (permK b n m pm f) := rfl
theorem permK_2 {b : Nat} {f : List D → RF} {x y : D} {δ : FS} : permK b 2 2 [1, 0] f [x, y] δ = appF b f δ [y, x] := rfl
theorem permK_3 {b : Nat} {f : List D → RF} {x y z : D} {δ : FS} : permK b 3 3 [2, 1, 0] f [x, y, z] δ = appF b f δ [z, y, x] := rfl
def parK (i j : Nat) (r : RL) : O := match r with
  | .ok [d, e] δ1 => if notCell δ1 i && notCell δ1 j then .nx ((δ1.set i (some (.fz d))).set j (some (.fz e))) else .bad
  | .exn x δ1 => .exn x δ1
  | _ => .bad
theorem par2_e {i j : Nat} {a : GA} {δ : FS} : gPar2F i j a δ = parK i j (a δ) := by unfold gPar2F parK; rfl
theorem parK_ok {i j : Nat} {d e : D} {δ : FS} : parK i j (.ok [d, e] δ) = if notCell δ i && notCell δ j then .nx ((δ.set i (some (.fz d))).set j (some (.fz e))) else .bad := rfl
def reprX (d : D) (δ : FS) : RE := match (match toPy d with
  | some p => if p.showable && !p.hasDict && decide (p.depth ≤ 64) && decide (p.shown.length ≤ 16777216) then some p.shown else none
  | none => none) with | some z => .ok (.str z) δ | none => .bad
theorem repr_v {δ : FS} {i : Nat} : reprD δ [.var i] = reprX (cellOf δ[i]? i) δ := by
  rw [repr_d]
  unfold reprC reprX
  rw [← top_v]
  rfl
theorem reprX_li {δ : FS} {l : List Int} (h : Sml l) : reprX (LI l) δ = .ok (.str (shS l)) δ := by
  rw [← reprC_li h]
  unfold reprX reprC
  simp only [res, resA_ints]
def asgK (gt : GT) (d : D) (δ : FS) : O := match gt d δ with | some δ2 => .nx δ2 | none => .bad
theorem asg_e {gt : GT} {a : GE} {δ : FS} : gAsg gt a δ = (a δ).bindS (asgK gt) := rfl
def optO : Option FS → O
  | some δ => .nx δ
  | none => .bad
theorem asgK_e {gt : GT} {d : D} {δ : FS} : asgK gt d δ = optO (gt d δ) := by unfold asgK optO; rfl
theorem optO_s {δ : FS} : optO (some δ) = .nx δ := rfl
theorem gt_tup {n : Nat} {r : GTs} {ds : List D} {δ : FS} : gtTup n r (.tup ds) δ = if ds.length = n then r ds δ else none := rfl
def gtB (o : Option FS) (r : GTs) (ds : List D) : Option FS := match o with | some δ1 => r ds δ1 | none => none
theorem gt_cons {g : GT} {r : GTs} {d : D} {ds : List D} {δ : FS} : gtCons g r (d :: ds) δ = gtB (g d δ) r ds := rfl
theorem gtB_s {r : GTs} {ds : List D} {δ : FS} : gtB (some δ) r ds = r ds δ := rfl
theorem gt_nil {δ : FS} : gtNil [] δ = some δ := rfl
theorem sum_bd {B : Int} (hB : 0 ≤ B) : ∀ l : List Int, (∀ x ∈ l, -B ≤ x ∧ x ≤ B) → -(l.length * B) ≤ l.sum ∧ l.sum ≤ l.length * B
  | [], _ => by simp
  | x :: r, h => by
    have h1 := h x List.mem_cons_self
    have h2 := sum_bd hB r fun y hy => h y (List.mem_cons_of_mem _ hy)
    rw [List.sum_cons, List.length_cons, Int.natCast_succ, Int.add_mul]
    omega
end DL

/-! WM: the data terms run goal by goal: what is left to do stands as data. -/
namespace DL
open PySem PySem.Spec L2
section
/-- a type that seems to hang on b: what computes looks at the result alone -/
abbrev Fx (α : Type) {β : Sort u} (b : β) : Type := α
def RnE (Q : RE → Prop) (r : Fx (RE) Q) : Prop := Q r
def RnB (Q : RB → Prop) (r : Fx (RB) Q) : Prop := Q r
def RnL (Q : RL → Prop) (r : Fx (RL) Q) : Prop := Q r
def RnS (Q : O → Prop) (r : Fx (O) Q) : Prop := Q r
def RnF (Q : RF → Prop) (r : Fx (RF) Q) : Prop := Q r
def RnT (Q : Option FS → Prop) (r : Fx (Option FS) Q) : Prop := Q r
variable {δ : FS} {a b c : GE} {s t : GS} {g h : GB} {ga gr : GA} {i j n m : Nat} {d e : D} {ds xs ys : List D} {x y z : Int} {v : Bool} {f f' : FS → D → D → RE} {fu : FS → D → RE} {fc : FS → List D → RE} {ff : List D → RF} {Q : RE → Prop} {QB : RB → Prop} {QL : RL → Prop} {QS : O → Prop} {QF : RF → Prop} {QT : Option FS → Prop} {ex : Xn}
theorem re_ok_ : RnE Q (.ok d δ) = Q (.ok d δ) := rfl
theorem re_own_ : RnE Q (.own d δ) = Q (.own d δ) := rfl
theorem re_ownT_ : RnE Q (.ownT xs ds ys δ) = Q (.ownT xs ds ys δ) := rfl
theorem rf_ownT_ : RnF QF (.ownT xs ds ys e) = QF (.ownT xs ds ys e) := rfl
theorem rs_retT_ : RnS QS (.retT xs ds ys δ) = QS (.retT xs ds ys δ) := rfl
theorem re_exn_ : RnE Q (.exn ex δ) = Q (.exn ex δ) := rfl
theorem rb_ok_ : RnB QB (.ok v δ) = QB (.ok v δ) := rfl
theorem rb_exn_ : RnB QB (.exn ex δ) = QB (.exn ex δ) := rfl
theorem rl_ok_ : RnL QL (.ok ds δ) = QL (.ok ds δ) := rfl
theorem rl_exn_ : RnL QL (.exn ex δ) = QL (.exn ex δ) := rfl
theorem rs_nx_ : RnS QS (.nx δ) = QS (.nx δ) := rfl
theorem rs_ret_ : RnS QS (.ret d δ) = QS (.ret d δ) := rfl
theorem rs_retO_ : RnS QS (.retO d δ) = QS (.retO d δ) := rfl
theorem rs_bk_ : RnS QS (.bk δ) = QS (.bk δ) := rfl
theorem rs_ct_ : RnS QS (.ct δ) = QS (.ct δ) := rfl
theorem rs_exn_ : RnS QS (.exn ex δ) = QS (.exn ex δ) := rfl
theorem rf_ok_ : RnF QF (.ok d e) = QF (.ok d e) := rfl
theorem rf_own_ : RnF QF (.own d e) = QF (.own d e) := rfl
theorem rf_exn_ : RnF QF (.exn ex e) = QF (.exn ex e) := rfl
theorem rt_some : RnT QT (some δ) = QT (some δ) := rfl
/-! expressions -/
def kBin2 (f : FS → D → D → RE) (x : D) (Q : RE → Prop) (r : Fx (Fx (Fx (RE) f) x) Q) : Prop := Q (r.bind fun y δ2 => f δ2 x y)
def kBin1 (f : FS → D → D → RE) (b : GE) (Q : RE → Prop) (r : Fx (Fx (Fx (RE) f) b) Q) : Prop := Q (r.bind fun x δ1 => (b δ1).bind fun y δ2 => f δ2 x y)
theorem r_bin : RnE Q (gBin f a b δ) = RnE (kBin1 f b Q) (a δ) := rfl
theorem kBin1_ok : kBin1 f b Q (.ok d δ) = RnE (kBin2 f d Q) (b δ) := rfl
theorem kBin1_own : kBin1 f b Q (.own d δ) = RnE (kBin2 f d Q) (b δ) := rfl
theorem kBin1_exn : kBin1 f b Q (.exn ex δ) = Q (.exn ex δ) := rfl
theorem kBin2_ok : kBin2 f e Q (.ok d δ) = RnE Q (f δ e d) := rfl
theorem kBin2_own : kBin2 f e Q (.own d δ) = RnE Q (f δ e d) := rfl
theorem kBin1_ownT : kBin1 f b Q (.ownT xs ds ys δ) = RnE (kBin2 f (tupN xs ds ys) Q) (b δ) := rfl
theorem kBin2_ownT : kBin2 f e Q (.ownT xs ds ys δ) = RnE Q (f δ e (tupN xs ds ys)) := rfl
theorem kBin2_exn : kBin2 f e Q (.exn ex δ) = Q (.exn ex δ) := rfl
def kUn (f : FS → D → RE) (Q : RE → Prop) (r : Fx (Fx (RE) f) Q) : Prop := Q (r.bind fun x δ1 => f δ1 x)
theorem r_un : RnE Q (gUn fu a δ) = RnE (kUn fu Q) (a δ) := rfl
theorem kUn_ok : kUn fu Q (.ok d δ) = RnE Q (fu δ d) := rfl
theorem kUn_own : kUn fu Q (.own d δ) = RnE Q (fu δ d) := rfl
theorem kUn_exn : kUn fu Q (.exn ex δ) = Q (.exn ex δ) := rfl
def kB (Q : RB → Prop) (r : Fx (RE) Q) : Prop := Q (r.bindB fun d δ1 => toB δ1 d)
theorem r_b : RnB QB (gB a δ) = RnE (kB QB) (a δ) := rfl
theorem kB_ok : kB QB (.ok d δ) = RnB QB (toB δ d) := rfl
theorem kB_own : kB QB (.own d δ) = RnB QB (toB δ d) := rfl
theorem kB_exn : kB QB (.exn ex δ) = QB (.exn ex δ) := rfl
def kTru (Q : RB → Prop) (r : Fx (RE) Q) : Prop := Q (r.bindB fun d δ1 => truB δ1 d)
theorem r_tru : RnB QB (gTru a δ) = RnE (kTru QB) (a δ) := rfl
theorem kTru_ok : kTru QB (.ok d δ) = RnB QB (truB δ d) := rfl
theorem kTru_own : kTru QB (.own d δ) = RnB QB (truB δ d) := rfl
theorem kTru_exn : kTru QB (.exn ex δ) = QB (.exn ex δ) := rfl
theorem truB_int : truB δ (.int x) = .ok (x != 0) δ := rfl
theorem truB_non : truB δ .non = .ok false δ := rfl
theorem truB_lst : truB δ (.lst ds) = .ok (!ds.isEmpty) δ := rfl
theorem truB_tup : truB δ (.tup ds) = .ok (!ds.isEmpty) δ := rfl
def kNot (Q : RB → Prop) (r : Fx (RB) Q) : Prop := Q (r.bindB fun x δ1 => .ok (!x) δ1)
theorem r_not : RnB QB (gNot g δ) = RnB (kNot QB) (g δ) := rfl
theorem kNot_ok : kNot QB (.ok v δ) = QB (.ok (!v) δ) := rfl
theorem kNot_exn : kNot QB (.exn ex δ) = QB (.exn ex δ) := rfl
def kAnd (h : GB) (Q : RB → Prop) (r : Fx (Fx (RB) h) Q) : Prop := Q (r.bindB fun x δ1 => if x = true then h δ1 else .ok false δ1)
theorem r_and : RnB QB (gAnd g h δ) = RnB (kAnd h QB) (g δ) := rfl
theorem kAnd_ok : kAnd h QB (.ok v δ) = if v = true then RnB QB (h δ) else QB (.ok false δ) := by cases v <;> rfl
theorem kAnd_exn : kAnd h QB (.exn ex δ) = QB (.exn ex δ) := rfl
def kOr (h : GB) (Q : RB → Prop) (r : Fx (Fx (RB) h) Q) : Prop := Q (r.bindB fun x δ1 => if x = true then .ok true δ1 else h δ1)
theorem r_or : RnB QB (gOr g h δ) = RnB (kOr h QB) (g δ) := rfl
theorem kOr_ok : kOr h QB (.ok v δ) = if v = true then QB (.ok true δ) else RnB QB (h δ) := by cases v <;> rfl
theorem kOr_exn : kOr h QB (.exn ex δ) = QB (.exn ex δ) := rfl
def kIte (a : GE) (b : GE) (Q : RE → Prop) (r : Fx (Fx (Fx (RB) a) b) Q) : Prop := Q (r.bind fun x δ1 => if x = true then a δ1 else b δ1)
theorem r_ite : RnE Q (gIte g a b δ) = RnB (kIte a b Q) (g δ) := rfl
theorem kIte_ok : kIte a b Q (.ok v δ) = if v = true then RnE Q (a δ) else RnE Q (b δ) := by cases v <;> rfl
theorem kIte_exn : kIte a b Q (.exn ex δ) = Q (.exn ex δ) := rfl
def kAndV (b : GE) (Q : RE → Prop) (r : Fx (Fx (RE) b) Q) : Prop := Q (r.bind (andK b))
theorem r_andV : RnE Q (gAndV a b δ) = RnE (kAndV b Q) (a δ) := rfl
theorem kAndV_ok : kAndV b Q (.ok (.bl v) δ) = if v = true then RnE Q (b δ) else Q (.ok (.bl false) δ) := by cases v <;> rfl
theorem kAndV_exn : kAndV b Q (.exn ex δ) = Q (.exn ex δ) := rfl
def kOrV (b : GE) (Q : RE → Prop) (r : Fx (Fx (RE) b) Q) : Prop := Q (r.bind (orK b))
theorem r_orV : RnE Q (gOrV a b δ) = RnE (kOrV b Q) (a δ) := rfl
theorem kOrV_ok : kOrV b Q (.ok (.bl v) δ) = if v = true then Q (.ok (.bl true) δ) else RnE Q (b δ) := by cases v <;> rfl
theorem kOrV_exn : kOrV b Q (.exn ex δ) = Q (.exn ex δ) := rfl
def kNotV (Q : RE → Prop) (r : Fx (RE) Q) : Prop := Q (r.bind notK)
theorem r_notV : RnE Q (gNotV a δ) = RnE (kNotV Q) (a δ) := rfl
theorem kNotV_ok : kNotV Q (.ok (.bl v) δ) = Q (.ok (.bl (!v)) δ) := rfl
theorem kNotV_exn : kNotV Q (.exn ex δ) = Q (.exn ex δ) := rfl
def kCh4 (f' : FS → D → D → RE) (y : D) (Q : RE → Prop) (r : Fx (Fx (Fx (RE) f') y) Q) : Prop := Q (r.bind fun w δ4 => f' δ4 y w)
def kCh3 (f' : FS → D → D → RE) (y : D) (c : GE) (Q : RE → Prop) (r : Fx (Fx (Fx (Fx (RE) f') y) c) Q) : Prop := Q (r.bind (chK f' y c))
def kCh2 (f : FS → D → D → RE) (f' : FS → D → D → RE) (x : D) (c : GE) (Q : RE → Prop) (r : Fx (Fx (Fx (Fx (Fx (RE) f) f') x) c) Q) : Prop := Q (r.bind fun y δ2 => (f δ2 x y).bind (chK f' y c))
def kCh1 (f : FS → D → D → RE) (f' : FS → D → D → RE) (b : GE) (c : GE) (Q : RE → Prop) (r : Fx (Fx (Fx (Fx (Fx (RE) f) f') b) c) Q) : Prop := Q (r.bind fun x δ1 => (b δ1).bind fun y δ2 => (f δ2 x y).bind (chK f' y c))
theorem r_chain : RnE Q (gChain f f' a b c δ) = RnE (kCh1 f f' b c Q) (a δ) := rfl
theorem kCh1_ok : kCh1 f f' b c Q (.ok d δ) = RnE (kCh2 f f' d c Q) (b δ) := rfl
theorem kCh1_exn : kCh1 f f' b c Q (.exn ex δ) = Q (.exn ex δ) := rfl
theorem kCh2_ok : kCh2 f f' e c Q (.ok d δ) = RnE (kCh3 f' d c Q) (f δ e d) := rfl
theorem kCh2_exn : kCh2 f f' e c Q (.exn ex δ) = Q (.exn ex δ) := rfl
theorem kCh3_ok : kCh3 f' e c Q (.ok (.bl v) δ) = if v = true then RnE (kCh4 f' e Q) (c δ) else Q (.ok (.bl false) δ) := by cases v <;> rfl
theorem kCh3_exn : kCh3 f' e c Q (.exn ex δ) = Q (.exn ex δ) := rfl
theorem kCh4_ok : kCh4 f' e Q (.ok d δ) = RnE Q (f' δ e d) := rfl
theorem kCh4_exn : kCh4 f' e Q (.exn ex δ) = Q (.exn ex δ) := rfl
/-! lists of expressions -/
def kCons2 (d : D) (Q : RL → Prop) (r : Fx (Fx (RL) d) Q) : Prop := Q (r.bindL fun ds δ2 => .ok (d :: ds) δ2)
def kCons1 (ga : GA) (Q : RL → Prop) (r : Fx (Fx (RE) ga) Q) : Prop := Q (r.bindL fun d δ1 => (ga δ1).bindL fun ds δ2 => .ok (d :: ds) δ2)
theorem r_cons : RnL QL (gCons a gr δ) = RnE (kCons1 gr QL) (a δ) := rfl
theorem kCons1_ok : kCons1 ga QL (.ok d δ) = RnL (kCons2 d QL) (ga δ) := rfl
theorem kCons1_own : kCons1 ga QL (.own d δ) = RnL (kCons2 d QL) (ga δ) := rfl
theorem kCons1_ownT : kCons1 ga QL (.ownT xs ds ys δ) = RnL (kCons2 (tupN xs ds ys) QL) (ga δ) := rfl
theorem kCons1_exn : kCons1 ga QL (.exn ex δ) = QL (.exn ex δ) := rfl
theorem kCons2_ok : kCons2 d QL (.ok ds δ) = QL (.ok (d :: ds) δ) := rfl
theorem kCons2_exn : kCons2 d QL (.exn ex δ) = QL (.exn ex δ) := rfl
def kLst (Q : RE → Prop) (r : Fx (RL) Q) : Prop := Q (r.bind fun ds δ1 => if ds.length ≤ 16777216 then .own (.lst ds) δ1 else .bad)
theorem r_lst : RnE Q (gLst ga δ) = RnL (kLst Q) (ga δ) := rfl
theorem kLst_ok : kLst Q (.ok ds δ) = if ds.length ≤ 16777216 then Q (.own (.lst ds) δ) else Q .bad := by
  show Q (if _ then _ else _) = _
  split <;> rfl
theorem kLst_exn : kLst Q (.exn ex δ) = Q (.exn ex δ) := rfl
def kTup (Q : RE → Prop) (r : Fx (RL) Q) : Prop := Q (r.bind fun ds δ1 => if ds.length ≤ 16777216 then .ok (.tup ds) δ1 else .bad)
theorem r_tup : RnE Q (gTup ga δ) = RnL (kTup Q) (ga δ) := rfl
theorem kTup_ok : kTup Q (.ok ds δ) = if ds.length ≤ 16777216 then Q (.ok (.tup ds) δ) else Q .bad := by
  show Q (if _ then _ else _) = _
  split <;> rfl
theorem kTup_exn : kTup Q (.exn ex δ) = Q (.exn ex δ) := rfl
def kCall (f : FS → List D → RE) (Q : RE → Prop) (r : Fx (Fx (RL) f) Q) : Prop := Q (r.bind fun ds δ1 => f δ1 ds)
theorem r_call : RnE Q (gCall fc ga δ) = RnL (kCall fc Q) (ga δ) := rfl
theorem kCall_ok : kCall fc Q (.ok ds δ) = RnE Q (fc δ ds) := rfl
theorem kCall_exn : kCall fc Q (.exn ex δ) = Q (.exn ex δ) := rfl
/-! slices -/
def kPart (Q : RL → Prop) (r : Fx (RE) Q) : Prop := Q (r.bindL gPi)
theorem r_part : RnL QL (gPart a δ) = RnE (kPart QL) (a δ) := rfl
theorem kPart_ok : kPart QL (.ok (.int x) δ) = QL (.ok [.int x] δ) := rfl
theorem kPart_exn : kPart QL (.exn ex δ) = QL (.exn ex δ) := rfl
def kSl3 (d : D) (l : Option Int) (Q : RE → Prop) (r : Fx (Fx (RL) d) Q) : Prop := Q (gOk r fun u δ3 => slD δ3 d l u)
def kSl2 (d : D) (hi : FS → RL) (Q : RE → Prop) (r : Fx (Fx (Fx (RL) d) hi) Q) : Prop := Q (gOk r fun l δ2 => gOk (hi δ2) fun u δ3 => slD δ3 d l u)
def kSl1 (lo : FS → RL) (hi : FS → RL) (Q : RE → Prop) (r : Fx (Fx (Fx (RE) lo) hi) Q) : Prop := Q (r.bind fun d δ1 => gOk (lo δ1) fun l δ2 => gOk (hi δ2) fun u δ3 => slD δ3 d l u)
variable {lo hi : FS → RL} {oi : Option Int}
theorem r_sl : RnE Q (gSl a lo hi δ) = RnE (kSl1 lo hi Q) (a δ) := rfl
theorem kSl1_ok : kSl1 lo hi Q (.ok d δ) = RnL (kSl2 d hi Q) (lo δ) := rfl
theorem kSl1_own : kSl1 lo hi Q (.own d δ) = RnL (kSl2 d hi Q) (lo δ) := rfl
theorem kSl1_exn : kSl1 lo hi Q (.exn ex δ) = Q (.exn ex δ) := rfl
theorem kSl2_no : kSl2 d hi Q (.ok [] δ) = RnL (kSl3 d none Q) (hi δ) := rfl
theorem kSl2_at : kSl2 d hi Q (.ok [.int x] δ) = RnL (kSl3 d (some x) Q) (hi δ) := rfl
theorem kSl3_no : kSl3 d oi Q (.ok [] δ) = RnE Q (slD δ d oi none) := rfl
theorem kSl3_at : kSl3 d oi Q (.ok [.int x] δ) = RnE Q (slD δ d oi (some x)) := rfl
def slV (s : D) (lo hi : Option Int) (δ : FS) : RE := match s with
  | .lst ds => .own (.lst (cutD ds lo hi)) δ
  | .scr ns => .own (.lst (cutD (ns.map .int) lo hi)) δ
  | .str z => if z.length ≤ 16777216 then .ok (.str (cutS z lo hi)) δ else .bad
  | _ => .bad
theorem sl_v {lo hi : Option Int} : slD δ (.var i) lo hi = slV (cellOf δ[i]? i) lo hi δ := by rw [← top_v]; rfl
theorem sl_l {lo hi : Option Int} : slD δ (.lst ds) lo hi = .own (.lst (cutD ds lo hi)) δ := rfl
theorem slV_l {lo hi : Option Int} : slV (.lst ds) lo hi δ = .own (.lst (cutD ds lo hi)) δ := rfl
def revV (s : D) (δ : FS) : RE := match s with
  | .lst ds => .own (.lst ds.reverse) δ
  | _ => .bad
def kRev (Q : RE → Prop) (r : Fx (RE) Q) : Prop := Q (r.bind fun d δ1 => revV (top δ1 d) δ1)
theorem r_rev : RnE Q (gRev a δ) = RnE (kRev Q) (a δ) := rfl
theorem kRev_ok : kRev Q (.ok d δ) = RnE Q (revV (top δ d) δ) := rfl
theorem kRev_own : kRev Q (.own d δ) = RnE Q (revV (top δ d) δ) := rfl
theorem revV_l : revV (.lst ds) δ = .own (.lst ds.reverse) δ := rfl
/-! what a name tells -/
theorem top_int : top δ (.int x) = .int x := rfl
theorem top_bl : top δ (.bl v) = .bl v := rfl
theorem top_str {w : Str} : top δ (.str w) = .str w := rfl
theorem top_non : top δ .non = .non := rfl
theorem top_lst : top δ (.lst ds) = .lst ds := rfl
theorem top_tup : top δ (.tup ds) = .tup ds := rfl
theorem top_dic {es : List (Key × D)} : top δ (.dic es) = .dic es := rfl
theorem top_scr {ns : List Int} : top δ (.scr ns) = .scr ns := rfl
/-- what is no cell's name -/
def NV (d : D) : Prop := ∀ i, d ≠ .var i
theorem top_nv (h : NV d) : top δ d = d := by
  unfold top
  split
  · exact absurd rfl (h _)
  · rfl
/-! built-in functions over a cell -/
def lenS (s : D) (δ : FS) : RE := match s with
  | .lst xs => .ok (.int xs.length) δ
  | .tup xs => .ok (.int xs.length) δ
  | .scr xs => .ok (.int xs.length) δ
  | .str z => if z.length ≤ 16777216 then .ok (.int z.length) δ else .bad
  | _ => .bad
theorem len_var : lenD δ [.var i] = lenS (cellOf δ[i]? i) δ := by rw [← top_v]; rfl
theorem lenS_l : lenS (.lst ds) δ = .ok (.int ds.length) δ := rfl
theorem len_t : lenD δ [.tup ds] = .ok (.int ds.length) δ := rfl
theorem len_str {w : Str} (h : w.length ≤ 16777216) : lenD δ [.str w] = .ok (.int w.length) δ := by
  show (if _ then _ else _) = _
  rw [if_pos h]
def onS (f : FS → List Int → RE) (s : D) (δ : FS) : RE := match s with
  | .lst xs => (match intsOf xs with | some ns => f δ ns | none => .bad)
  | _ => .bad
theorem sum_var : sumD δ [.var i] = onS (fun δ ns => .ok (.int ns.sum) δ) (cellOf δ[i]? i) δ := by rw [← top_v]; rfl
theorem onS_l {fi : FS → List Int → RE} {ns : List Int} : onS fi (.lst (ns.map .int)) δ = fi δ ns := by unfold onS; simp only [ints_map]
theorem max_var : maxD δ [.var i] = onS (fun δ ns => if ns.isEmpty then .bad else .ok (.int (lmax ns)) δ) (cellOf δ[i]? i) δ := by rw [← top_v]; rfl
theorem min_var : minD δ [.var i] = onS (fun δ ns => if ns.isEmpty then .bad else .ok (.int (lmin ns)) δ) (cellOf δ[i]? i) δ := by rw [← top_v]; rfl
theorem max_l {ns : List Int} (h : 0 < ns.length) : maxD δ [.lst (ns.map .int)] = .ok (.int (lmax ns)) δ := by
  have : ns.isEmpty = false := by cases ns <;> first | rfl | (simp at h)
  show onS (fun δ ns => if ns.isEmpty then .bad else .ok (.int (lmax ns)) δ) (.lst _) δ = _
  rw [onS_l]
  simp only [this, Bool.false_eq_true, if_false]
theorem min_l {ns : List Int} (h : 0 < ns.length) : minD δ [.lst (ns.map .int)] = .ok (.int (lmin ns)) δ := by
  have : ns.isEmpty = false := by cases ns <;> first | rfl | (simp at h)
  show onS (fun δ ns => if ns.isEmpty then .bad else .ok (.int (lmin ns)) δ) (.lst _) δ = _
  rw [onS_l]
  simp only [this, Bool.false_eq_true, if_false]
theorem sorted_var : sortedD δ [.var i] = onS (fun δ ns => .own (.lst ((isort ns).map .int)) δ) (cellOf δ[i]? i) δ := by rw [← top_v]; rfl
theorem sorted_l {ns : List Int} : sortedD δ [.lst (ns.map .int)] = .own (.lst ((isort ns).map .int)) δ := by
  show onS (fun δ ns => .own (.lst ((isort ns).map .int)) δ) (.lst _) δ = _
  rw [onS_l]
theorem any_l {bs : List Bool} : anyD δ [.lst (bs.map .bl)] = .ok (.bl (bs.any id)) δ := by
  unfold anyD onBls
  simp only [DL.top, bls_map]
def listS (s : D) (δ : FS) : RE := match s with
  | .lst xs => .own (.lst xs) δ
  | .tup xs => .own (.lst xs) δ
  | _ => .bad
theorem list_var : listD δ [.var i] = listS (cellOf δ[i]? i) δ := by rw [← top_v]; rfl
theorem listS_l : listS (.lst ds) δ = .own (.lst ds) δ := rfl
theorem list_t : listD δ [.tup ds] = .own (.lst ds) δ := rfl
theorem tuple_l : tupleD δ [.lst ds] = .ok (.tup ds) δ := rfl
theorem int_b : intD δ [.bl v] = .ok (.int (if v then 1 else 0)) δ := rfl
def addV (s : D) (δ : FS) (y : D) : RE := match s with
  | .int i => (match top δ y with | .int j => .ok (.int (i + j)) δ | _ => .bad)
  | .str x => (match top δ y with | .str y => if x.length + y.length ≤ 16777216 then .ok (.str (x ++ y)) δ else .bad | _ => .bad)
  | .lst xs => (match top δ y with | .lst ys => if xs.length + ys.length ≤ 16777216 then .own (.lst (xs ++ ys)) δ else .bad | _ => .bad)
  | _ => .bad
theorem add_var : addD δ (.var i) d = addV (cellOf δ[i]? i) δ d := by rw [← top_v]; rfl
def addL (xs : List D) (δ : FS) (y : D) : RE := match y with
  | .lst ys => if xs.length + ys.length ≤ 16777216 then .own (.lst (xs ++ ys)) δ else .bad
  | _ => .bad
theorem add_l : addD δ (.lst xs) d = addL xs δ (top δ d) := rfl
theorem addV_l : addV (.lst xs) δ d = addL xs δ (top δ d) := rfl
theorem addL_l (h : xs.length + ys.length ≤ 16777216) : addL xs δ (.lst ys) = .own (.lst (xs ++ ys)) δ := by
  unfold addL
  simp only [if_pos h]
theorem add_ss {w u : Str} (h : w.length + u.length ≤ 16777216) : addD δ (.str w) (.str u) = .ok (.str (w ++ u)) δ := by
  show (if _ then _ else _) = _
  rw [if_pos h]
theorem mul_l (h : x ≤ 16777216 ∧ -16777216 ≤ x ∧ ds.length * x.toNat ≤ 16777216) : mulD δ (.lst ds) (.int x) = .own (.lst (List.replicate x.toNat ds).flatten) δ := by
  show (if _ then _ else _) = _
  rw [if_pos h]
theorem mul_l1 (h : x ≤ 16777216 ∧ -16777216 ≤ x) : mulD δ (.lst [d]) (.int x) = .own (.lst (List.replicate x.toNat d)) δ := by
  rw [mul_l (by simp only [List.length_cons, List.length_nil]; omega)]
  have : ∀ n : Nat, (List.replicate n [d]).flatten = List.replicate n d := by
    intro n
    induction n with
    | zero => rfl
    | succ n ih => rw [List.replicate_succ, List.flatten_cons, ih, List.replicate_succ]; rfl
  rw [this]
theorem map_snoc {l : List Int} : l.map D.int ++ [D.int x] = (l ++ [x]).map D.int := by rw [List.map_append]; rfl
theorem map_snocL {l : List (List Int)} {u : List Int} : l.map LI ++ [LI u] = (l ++ [u]).map LI := by rw [List.map_append]; rfl
/-! places -/
theorem ixL_enc {α : Type} [Inhabited α] {enc : α → D} {l : List α} {k : Int} (h : 0 ≤ k ∧ k < l.length) : ixL (.lst (l.map enc)) k δ = .ok (enc l[k.toNat]!) δ := by
  obtain ⟨p, rfl⟩ : ∃ p : Nat, k = p := ⟨k.toNat, by omega⟩
  have hp : p < l.length := by omega
  unfold ixL
  have : atI (l.map enc) (p : Int) = some (enc l[p]!) := by
    rw [atI_nat (by rw [List.length_map]; exact hp), List.getElem?_map, List.getElem?_eq_getElem hp, getElem!_pos l p hp]
    rfl
  simp only [this, Int.toNat_natCast]
theorem ixL_encN {α : Type} [Inhabited α] {enc : α → D} {l : List α} {k : Int} (h : k < 0 ∧ 0 ≤ k + l.length) : ixL (.lst (l.map enc)) k δ = .ok (enc l[(k + l.length).toNat]!) δ := by
  obtain ⟨p, hp⟩ : ∃ p : Nat, k + l.length = p := ⟨(k + l.length).toNat, by omega⟩
  have hp2 : p < l.length := by omega
  have ea : atI (l.map enc) k = some (enc l[p]!) := by
    have e1 : ixN (l.map enc).length k = some p := by
      unfold ixN
      rw [List.length_map]
      have a1 : ¬ (0 ≤ k) := by omega
      simp only [a1, false_and, if_false]
      first
        | (rw [if_pos (by omega)]; congr 1; omega)
        | (split <;> first | (congr 1; omega) | omega)
    unfold atI
    rw [e1]
    show (l.map enc)[p]? = _
    rw [List.getElem?_map, List.getElem?_eq_getElem hp2, getElem!_pos l p hp2]
    rfl
  unfold ixL
  simp only [ea]
  rw [hp]
  rfl
theorem ixL_encT {α : Type} [Inhabited α] {enc : α → D} {l : List α} {k : Int} (h : 0 ≤ k ∧ k < l.length) : ixL (.tup (l.map enc)) k δ = .ok (enc l[k.toNat]!) δ := by
  have := ixL_enc (δ := δ) (enc := enc) h
  unfold ixL at this ⊢
  exact this
theorem ixL_scr {l : List Int} {k : Int} (h : 0 ≤ k ∧ k < l.length) : ixL (.scr l) k δ = .ok (.int l[k.toNat]!) δ := by
  obtain ⟨p, rfl⟩ : ∃ p : Nat, k = p := ⟨k.toNat, by omega⟩
  have hp : p < l.length := by omega
  unfold ixL
  simp only [atI_nat hp, List.getElem?_eq_getElem hp, Int.toNat_natCast, getElem!_pos l p hp]
theorem ixLt0 {d0 : D} {r : List D} : ixL (.tup (d0 :: r)) 0 δ = .ok d0 δ := by have := ixL0 (δ := δ) (d0 := d0) (r := r); unfold ixL at this ⊢; exact this
theorem ixLt1 {d0 d1 : D} {r : List D} : ixL (.tup (d0 :: d1 :: r)) 1 δ = .ok d1 δ := by have := ixL1 (δ := δ) (d0 := d0) (d1 := d1) (r := r); unfold ixL at this ⊢; exact this
theorem setS_enc {α : Type} {enc : α → D} {l : List α} {k : Int} {w : α} {m : Md} (hm : m = .mu ∨ m = .bo) (h : 0 ≤ k ∧ k < l.length) : setS (some (some (.cl m (.lst (l.map enc))))) i (enc w) k δ = .nx (δ.set i (some (.cl m (.lst ((l.set k.toNat w).map enc))))) := by
  obtain ⟨p, rfl⟩ : ∃ p : Nat, k = p := ⟨k.toNat, by omega⟩
  have hp : p < l.length := by omega
  rw [setS_nat hm (by rw [List.length_map]; exact hp), Int.toNat_natCast, List.map_set]
theorem setS_mu {α : Type} {enc : α → D} {l : List α} {k : Int} {w : α} (h : 0 ≤ k ∧ k < l.length) : setS (some (some (.cl .mu (.lst (l.map enc))))) i (enc w) k δ = .nx (δ.set i (some (.cl .mu (.lst ((l.set k.toNat w).map enc))))) := setS_enc (.inl rfl) h
theorem setS_bo {α : Type} {enc : α → D} {l : List α} {k : Int} {w : α} (h : 0 ≤ k ∧ k < l.length) : setS (some (some (.cl .bo (.lst (l.map enc))))) i (enc w) k δ = .nx (δ.set i (some (.cl .bo (.lst ((l.set k.toNat w).map enc))))) := setS_enc (.inr rfl) h
/-! statements -/
def fSeq (t : GS) (r : O) : O := match r with | .nx δ' => t δ' | o => o
def kSeq (t : GS) (Q : O → Prop) (r : Fx (Fx (O) t) Q) : Prop := Q (fSeq t r)
theorem r_seq : RnS QS (gSeq s t δ) = RnS (kSeq t QS) (s δ) := rfl
theorem kSeq_nx : kSeq t QS (.nx δ) = RnS QS (t δ) := rfl
theorem kSeq_ret : kSeq t QS (.ret d δ) = QS (.ret d δ) := rfl
theorem kSeq_retT : kSeq t QS (.retT xs ds ys δ) = QS (.retT xs ds ys δ) := rfl
theorem kSeq_retO : kSeq t QS (.retO d δ) = QS (.retO d δ) := rfl
theorem kSeq_bk : kSeq t QS (.bk δ) = QS (.bk δ) := rfl
theorem kSeq_ct : kSeq t QS (.ct δ) = QS (.ct δ) := rfl
theorem kSeq_exn : kSeq t QS (.exn ex δ) = QS (.exn ex δ) := rfl
def kIf (s : GS) (t : GS) (Q : O → Prop) (r : Fx (Fx (Fx (RB) s) t) Q) : Prop := Q (r.bindS fun x δ1 => if x = true then s δ1 else t δ1)
theorem r_if : RnS QS (gIf g s t δ) = RnB (kIf s t QS) (g δ) := rfl
theorem kIf_ok : kIf s t QS (.ok v δ) = if v = true then RnS QS (s δ) else RnS QS (t δ) := by cases v <;> rfl
theorem kIf_exn : kIf s t QS (.exn ex δ) = QS (.exn ex δ) := rfl
def kSet (i : Nat) (Q : O → Prop) (r : Fx (RE) Q) : Prop := Q (r.bindS fun d δ1 => if notCell δ1 i then .nx (δ1.set i (some (.fz d))) else .bad)
theorem r_set : RnS QS (gSet i a δ) = RnE (kSet i QS) (a δ) := rfl
theorem kSet_ok : kSet i QS (.ok d δ) = if notCell δ i = true then QS (.nx (δ.set i (some (.fz d)))) else QS .bad := by
  show QS (if _ then _ else _) = _
  split <;> rfl
theorem kSet_own : kSet i QS (.own d δ) = if notCell δ i = true then QS (.nx (δ.set i (some (.fz d)))) else QS .bad := kSet_ok
theorem kSet_ownT : kSet i QS (.ownT xs ds ys δ) = if notCell δ i = true then QS (.nx (δ.set i (some (.fz (tupN xs ds ys))))) else QS .bad := by
  show QS (if _ then _ else _) = _
  split <;> rfl
theorem kSet_exn : kSet i QS (.exn ex δ) = QS (.exn ex δ) := rfl
def kSetC (i : Nat) (Q : O → Prop) (r : Fx (RE) Q) : Prop := Q (setCK i r)
theorem r_setC : RnS QS (gSetC i a δ) = RnE (kSetC i QS) (a δ) := by rw [setC_e]; rfl
theorem kSetC_own : kSetC i QS (.own d δ) = if freeSlot δ i = true then QS (.nx (δ.set i (some (.cl .mu d)))) else QS .bad := by
  show QS (if _ then _ else _) = _
  split <;> rfl
theorem kSetC_exn : kSetC i QS (.exn ex δ) = QS (.exn ex δ) := rfl
def kRet (Q : O → Prop) (r : Fx (RE) Q) : Prop := Q r.ret
theorem r_ret : RnS QS (gRet a δ) = RnE (kRet QS) (a δ) := by rw [s_ret]; rfl
theorem kRet_ok : kRet QS (.ok d δ) = QS (.ret d δ) := rfl
theorem kRet_own : kRet QS (.own d δ) = QS (.retO d δ) := rfl
theorem kRet_ownT : kRet QS (.ownT xs ds ys δ) = QS (.retT xs ds ys δ) := rfl
theorem kRet_exn : kRet QS (.exn ex δ) = QS (.exn ex δ) := rfl
def kDrop (Q : O → Prop) (r : Fx (RE) Q) : Prop := Q (r.bindS fun _ δ1 => .nx δ1)
theorem r_drop : RnS QS (gDrop a δ) = RnE (kDrop QS) (a δ) := rfl
theorem kDrop_ok : kDrop QS (.ok d δ) = QS (.nx δ) := rfl
theorem kDrop_own : kDrop QS (.own d δ) = QS (.nx δ) := rfl
theorem kDrop_ownT : kDrop QS (.ownT xs ds ys δ) = QS (.nx δ) := rfl
theorem kDrop_exn : kDrop QS (.exn ex δ) = QS (.exn ex δ) := rfl
def kAsg (gt : GT) (Q : O → Prop) (r : Fx (Fx (RE) gt) Q) : Prop := Q (r.bindS (asgK gt))
variable {gt : GT}
theorem r_asg : RnS QS (gAsg gt a δ) = RnE (kAsg gt QS) (a δ) := rfl
theorem kAsg_ok : kAsg gt QS (.ok d δ) = RnS QS (optO (gt d δ)) := by rw [← asgK_e]; rfl
theorem kAsg_own : kAsg gt QS (.own d δ) = RnS QS (optO (gt d δ)) := by rw [← asgK_e]; rfl
theorem kAsg_ownT : kAsg gt QS (.ownT xs ds ys δ) = RnS QS (optO (gt (tupN xs ds ys) δ)) := by rw [← asgK_e]; rfl
theorem kAsg_exn : kAsg gt QS (.exn ex δ) = QS (.exn ex δ) := rfl
def augS (s : Option (Option SV)) (i : Nat) (f : FS → D → D → RE) (b : GE) (δ : FS) : O := match s with
  | some (some (.fz d)) => (b δ).bindS fun e δ1 => (f δ1 d e).bindS fun z δ2 => if notCell δ2 i then .nx (δ2.set i (some (.fz z))) else .bad
  | _ => .bad
theorem aug_e : gAug i f b δ = augS δ[i]? i f b δ := rfl
def kAug (i : Nat) (f : FS → D → D → RE) (d : D) (Q : O → Prop) (r : Fx (Fx (Fx (RE) f) d) Q) : Prop := Q (r.bindS fun e δ1 => (f δ1 d e).bindS fun z δ2 => if notCell δ2 i then .nx (δ2.set i (some (.fz z))) else .bad)
theorem r_aug : RnS QS (augS (some (some (.fz d))) i f b δ) = RnE (kAug i f d QS) (b δ) := rfl
theorem kAug_ok : kAug i f d QS (.ok e δ) = RnE (kSet i QS) (f δ d e) := rfl
theorem kAug_exn : kAug i f d QS (.exn ex δ) = QS (.exn ex δ) := rfl
def kSx2 (i : Nat) (d : D) (Q : O → Prop) (r : Fx (Fx (RE) d) Q) : Prop := Q (r.bindS fun j δ2 => setK i d j δ2)
def kSx1 (i : Nat) (b : GE) (Q : O → Prop) (r : Fx (Fx (RE) b) Q) : Prop := Q (r.bindS fun d δ1 => if isL δ1 i then (b δ1).bindS fun j δ2 => setK i d j δ2 else .bad)
theorem r_setIx : RnS QS (gSetIx i b a δ) = RnE (kSx1 i b QS) (a δ) := by rw [s_setIx]; rfl
theorem kSx1_ok : kSx1 i b QS (.ok d δ) = if isL δ i = true then RnE (kSx2 i d QS) (b δ) else QS .bad := by
  show QS (if _ then _ else _) = _
  split <;> rfl
theorem kSx1_own : kSx1 i b QS (.own d δ) = if isL δ i = true then RnE (kSx2 i d QS) (b δ) else QS .bad := kSx1_ok
theorem kSx1_exn : kSx1 i b QS (.exn ex δ) = QS (.exn ex δ) := rfl
theorem kSx2_ok : kSx2 i d QS (.ok (.int x) δ) = RnS QS (setS δ[i]? i d x δ) := by rw [← setK_i]; rfl
theorem kSx2_exn : kSx2 i d QS (.exn ex δ) = QS (.exn ex δ) := rfl
/-! append, pop -/
def kApp (i : Nat) (Q : RE → Prop) (r : Fx (RE) Q) : Prop := Q (r.bind (appK i))
theorem r_app : RnE Q (gApp i a δ) = if isL δ i = true then RnE (kApp i Q) (a δ) else Q .bad := by
  rw [app_e]
  unfold RnE kApp
  split <;> rfl
theorem kApp_ok : kApp i Q (.ok d δ) = RnE Q (appS δ[i]? i d δ) := by rw [← appK_e]; rfl
theorem kApp_own : kApp i Q (.own d δ) = RnE Q (appS δ[i]? i d δ) := by rw [← appK_e]; rfl
theorem kApp_exn : kApp i Q (.exn ex δ) = Q (.exn ex δ) := rfl
theorem appS_enc {α : Type} {enc : α → D} {l : List α} {w : α} (h : l.length < 16777216) : appS (some (some (.cl .mu (.lst (l.map enc))))) i (enc w) δ = .ok .non (δ.set i (some (.cl .mu (.lst ((l ++ [w]).map enc))))) := by
  rw [appS_mu (by rw [List.length_map]; exact h), List.map_append]
  rfl
theorem appS_bo {r : List D} (h : r.length < 16777216) : appS (some (some (.cl .bo (.lst r)))) i d δ = .ok .non (δ.set i (some (.cl .bo (.lst (r ++ [d]))))) := by
  unfold appS mutS
  simp [h]
theorem appS_encb {α : Type} {enc : α → D} {l : List α} {w : α} (h : l.length < 16777216) : appS (some (some (.cl .bo (.lst (l.map enc))))) i (enc w) δ = .ok .non (δ.set i (some (.cl .bo (.lst ((l ++ [w]).map enc))))) := by
  rw [appS_bo (by rw [List.length_map]; exact h), List.map_append]
  rfl
/-! iterations -/
def kRng1 (Q : RL → Prop) (r : Fx (RL) Q) : Prop := Q (r.bindL fun ds δ1 => int1 δ1 ds fun j => .ok (rngL 0 1 j.toNat) δ1)
theorem r_rng1 : RnL QL (gRng1 ga δ) = RnL (kRng1 QL) (ga δ) := rfl
theorem kRng1_ok (h : -16777216 ≤ x ∧ x ≤ 16777216) : kRng1 QL (.ok [.int x] δ) = QL (.ok (rngL 0 1 x.toNat) δ) := by
  show QL (int1 δ [.int x] fun j => .ok (rngL 0 1 j.toNat) δ) = _
  rw [int1_i h]
theorem kRng1_exn : kRng1 QL (.exn ex δ) = QL (.exn ex δ) := rfl
def kRng2 (Q : RL → Prop) (r : Fx (RL) Q) : Prop := Q (r.bindL fun ds δ1 => int2 δ1 ds fun i j => .ok (rngL i 1 (j - i).toNat) δ1)
theorem r_rng2 : RnL QL (gRng2 ga δ) = RnL (kRng2 QL) (ga δ) := rfl
theorem kRng2_ok (h : -16777216 ≤ x ∧ x ≤ 16777216) (h2 : -16777216 ≤ y ∧ y ≤ 16777216) : kRng2 QL (.ok [.int x, .int y] δ) = QL (.ok (rngL x 1 (y - x).toNat) δ) := by
  show QL (int2 δ [.int x, .int y] fun i j => .ok (rngL i 1 (j - i).toNat) δ) = _
  rw [int2_i h2 h]
theorem kRng2_exn : kRng2 QL (.exn ex δ) = QL (.exn ex δ) := rfl
def kRng3 (Q : RL → Prop) (r : Fx (RL) Q) : Prop := Q (r.bindL fun ds δ1 => int3 δ1 ds fun i j c => if 0 < c then .ok (rngL i c (if i < j then (j - i - 1) / c + 1 else 0).toNat) δ1 else .bad)
theorem r_rng3 : RnL QL (gRng3 ga δ) = RnL (kRng3 QL) (ga δ) := rfl
theorem kRng3_ok (h : -16777216 ≤ x ∧ x ≤ 16777216) (h2 : -16777216 ≤ y ∧ y ≤ 16777216) (h3 : 0 < z ∧ z ≤ 16777216) : kRng3 QL (.ok [.int x, .int y, .int z] δ) = QL (.ok (rngL x z (if x < y then (y - x - 1) / z + 1 else 0).toNat) δ) := by
  have a1 : rngOk x = true := rngOk_mk h
  have a2 : rngOk y = true := rngOk_mk h2
  have a3 : rngOk z = true := rngOk_mk (by omega)
  show QL (int3 δ [.int x, .int y, .int z] fun i j c => if 0 < c then .ok (rngL i c (if i < j then (j - i - 1) / c + 1 else 0).toNat) δ else .bad) = _
  unfold int3 int2 int1
  simp only [DL.top, a1, a2, a3, if_true, if_pos h3.1]
theorem kRng3_exn : kRng3 QL (.exn ex δ) = QL (.exn ex δ) := rfl
def kSeqI (Q : RL → Prop) (r : Fx (RE) Q) : Prop := Q (r.bindL seqI)
theorem r_seqI : RnL QL (gSeqI a δ) = RnE (kSeqI QL) (a δ) := rfl
def frzS (s : Option (Option SV)) (i : Nat) (δ : FS) : Option (List D × FS) := match s with
  | some (some (.cl .ro (.lst ds))) => some (ds, δ)
  | some (some (.cl .mu (.lst ds))) => some (ds, δ.set i (some (.cl .ro (.lst ds))))
  | _ => none
theorem frz_v : frz δ (.var i) = frzS δ[i]? i δ := rfl
theorem frz_l : frz δ (.lst ds) = some (ds, δ) := rfl
theorem frzS_mu : frzS (some (some (.cl .mu (.lst ds)))) i δ = some (ds, δ.set i (some (.cl .ro (.lst ds)))) := rfl
theorem frzS_ro : frzS (some (some (.cl .ro (.lst ds)))) i δ = some (ds, δ) := rfl
def frO (Q : RL → Prop) (o : Option (List D × FS)) : Prop := Q (match o with | some (ds, δ2) => .ok ds δ2 | none => .bad)
theorem frO_s : frO QL (some (ds, δ)) = QL (.ok ds δ) := rfl
theorem kSeqI_l : kSeqI QL (.ok (.lst ds) δ) = QL (.ok ds δ) := rfl
theorem kSeqI_t : kSeqI QL (.ok (.tup ds) δ) = QL (.ok ds δ) := rfl
theorem kSeqI_ol : kSeqI QL (.own (.lst ds) δ) = QL (.ok ds δ) := rfl
theorem kSeqI_v : kSeqI QL (.ok (.var i) δ) = frO QL (frzS δ[i]? i δ) := rfl
theorem kSeqI_exn : kSeqI QL (.exn ex δ) = QL (.exn ex δ) := rfl
def kEnum (Q : RL → Prop) (r : Fx (RL) Q) : Prop := Q (r.bindL fun ds δ1 => match ds with
  | [d] => (match frz δ1 d with | some (xs, δ2) => .ok (enumL 0 xs) δ2 | none => .bad)
  | _ => .bad)
theorem r_enum : RnL QL (gEnum ga δ) = RnL (kEnum QL) (ga δ) := rfl
def enO (Q : RL → Prop) (o : Option (List D × FS)) : Prop := Q (match o with | some (xs, δ2) => .ok (enumL 0 xs) δ2 | none => .bad)
theorem kEnum_ok : kEnum QL (.ok [d] δ) = enO QL (frz δ d) := rfl
theorem kEnum_exn : kEnum QL (.exn ex δ) = QL (.exn ex δ) := rfl
theorem enO_s : enO QL (some (ds, δ)) = QL (.ok (enumL 0 ds) δ) := rfl
def kZip (Q : RL → Prop) (r : Fx (RL) Q) : Prop := Q (r.bindL fun ds δ1 => match ds with
  | [d, e] => (match frz δ1 d with
    | some (xs, δ2) => (match frz δ2 e with | some (ys, δ3) => .ok (zipL xs ys) δ3 | none => .bad)
    | none => .bad)
  | _ => .bad)
theorem r_zip : RnL QL (gZip ga δ) = RnL (kZip QL) (ga δ) := rfl
def ziO1 (e : D) (Q : RL → Prop) (o : Option (List D × FS)) : Prop := Q (match o with
    | some (xs, δ2) => (match frz δ2 e with | some (ys, δ3) => .ok (zipL xs ys) δ3 | none => .bad)
    | none => .bad)
def ziO2 (xs : List D) (Q : RL → Prop) (o : Option (List D × FS)) : Prop := Q (match o with | some (ys, δ3) => .ok (zipL xs ys) δ3 | none => .bad)
theorem kZip_ok : kZip QL (.ok [d, e] δ) = ziO1 e QL (frz δ d) := rfl
theorem kZip_exn : kZip QL (.exn ex δ) = QL (.exn ex δ) := rfl
theorem ziO1_s : ziO1 e QL (some (ds, δ)) = ziO2 ds QL (frz δ e) := rfl
theorem ziO2_s : ziO2 xs QL (some (ys, δ)) = QL (.ok (zipL xs ys) δ) := rfl
/-! loops -/
def RnLoop (gt : GT) (b : GS) (ds : List D) (δ : FS) (Q : O → Prop) : Prop := Q (loopF gt b ds δ)
def fFor (gt : GT) (b : GS) (r : RL) : O := match r with
  | .ok ds δ1 => loopF gt b ds δ1
  | .exn x δ1 => .exn x δ1
  | .bad => .bad
def kFor (gt : GT) (b : GS) (Q : O → Prop) (r : Fx (Fx (Fx (RL) gt) b) Q) : Prop := Q (fFor gt b r)
theorem r_for : RnS QS (gFor ga gt s δ) = RnL (kFor gt s QS) (ga δ) := rfl
theorem kFor_ok : kFor gt s QS (.ok ds δ) = RnLoop gt s ds δ QS := rfl
theorem kFor_exn : kFor gt s QS (.exn ex δ) = QS (.exn ex δ) := rfl
/-- behind a turn: on with J, or out with Q -/
def kLoop (J : FS → Prop) (Q : O → Prop) (r : Fx (Fx (O) J) Q) : Prop := match (show O from r) with
  | .nx δ => J δ
  | .ct δ => J δ
  | .bk δ => Q (.nx δ)
  | o => Q o
def kTurn (b : GS) (J : FS → Prop) (Q : O → Prop) (o : Fx (Fx (Fx (Option FS) b) J) Q) : Prop := match o with
  | none => Q .bad
  | some δ => kLoop J Q (b δ)
variable {J : FS → Prop}
theorem kTurn_s : kTurn s J QS (some δ) = RnS (kLoop J QS) (s δ) := rfl
theorem kLoop_nx : kLoop J QS (.nx δ) = J δ := rfl
theorem kLoop_ct : kLoop J QS (.ct δ) = J δ := rfl
theorem kLoop_bk : kLoop J QS (.bk δ) = QS (.nx δ) := rfl
theorem kLoop_ret : kLoop J QS (.ret d δ) = QS (.ret d δ) := rfl
theorem kLoop_retT : kLoop J QS (.retT xs ds ys δ) = QS (.retT xs ds ys δ) := rfl
theorem kLoop_retO : kLoop J QS (.retO d δ) = QS (.retO d δ) := rfl
theorem kLoop_exn : kLoop J QS (.exn ex δ) = QS (.exn ex δ) := rfl
theorem loop_wp0 (I : Nat → FS → Prop) : ∀ (ds : List D) (k : Nat) (δ : FS), (∀ n d δ, ds[n]? = some d → I (k + n) δ → RnT (kTurn s (I (k + n + 1)) QS) (gt d δ)) → (∀ δ, I (k + ds.length) δ → QS (.nx δ)) → I k δ → QS (loopF gt s ds δ)
  | [], k, δ, _, fin, h0 => fin δ h0
  | d :: r, k, δ, st, fin, h0 => by
    have h1 := st 0 d δ rfl h0
    unfold loopF
    unfold RnT kTurn at h1
    cases e : gt d δ with
    | none => rw [e] at h1; exact h1
    | some δ1 =>
      rw [e] at h1
      have go : ∀ δ2, I (k + 1) δ2 → QS (loopF gt s r δ2) := fun δ2 h2 => loop_wp0 I r (k + 1) δ2 (fun n d δ e h => by
        have := st (n + 1) d δ e (by rw [show k + (n + 1) = k + 1 + n by omega]; exact h)
        rw [show k + (n + 1) + 1 = k + 1 + n + 1 by omega] at this
        exact this) (fun δ h => fin δ (by rw [List.length_cons, show k + (r.length + 1) = k + 1 + r.length by omega]; exact h)) h2
      simp only at h1 ⊢
      cases e2 : s δ1 with
      | nx δ2 => rw [e2] at h1; exact go δ2 h1
      | ct δ2 => rw [e2] at h1; exact go δ2 h1
      | _ => rw [e2] at h1; exact h1
theorem for_wp (I : Nat → FS → Prop) (h0 : I 0 δ) (st : ∀ n d δ, ds[n]? = some d → I n δ → RnT (kTurn s (I (n + 1)) QS) (gt d δ)) (fin : ∀ δ, I ds.length δ → QS (.nx δ)) : RnLoop gt s ds δ QS := by
  refine loop_wp0 I ds 0 δ (fun n d δ e h => ?_) (fun δ h => fin δ (by rw [Nat.zero_add] at h; exact h)) h0
  rw [Nat.zero_add] at h ⊢
  exact st n d δ e h
theorem for_rng {lo c : Int} {n : Nat} (I : Nat → FS → Prop) (h0 : I 0 δ) (st : ∀ k δ, k < n → I k δ → RnT (kTurn s (I (k + 1)) QS) (gt (.int (lo + (k : Nat) * c)) δ)) (fin : ∀ δ, I n δ → QS (.nx δ)) : RnLoop gt s (rngL lo c n) δ QS := by
  refine for_wp I h0 (fun k d δ e h => ?_) (fun δ h => fin δ (by rw [rng_len] at h; exact h))
  obtain ⟨hk, rfl⟩ := rng_at e
  exact st k δ hk h
theorem for_r0 {n : Nat} (I : Nat → FS → Prop) (h0 : I 0 δ) (st : ∀ k δ, k < n → I k δ → RnT (kTurn s (I (k + 1)) QS) (gt (.int (k : Nat)) δ)) (fin : ∀ δ, I n δ → QS (.nx δ)) : RnLoop gt s (rngL 0 1 n) δ QS := by
  refine for_rng I h0 (fun k δ hk h => ?_) fin
  rw [show (0 : Int) + (k : Nat) * 1 = (k : Nat) by omega]
  exact st k δ hk h
theorem for_map {α : Type} {enc : α → D} {l : List α} (I : Nat → FS → Prop) (h0 : I 0 δ) (st : ∀ k δ (hk : k < l.length), I k δ → RnT (kTurn s (I (k + 1)) QS) (gt (enc l[k]) δ)) (fin : ∀ δ, I l.length δ → QS (.nx δ)) : RnLoop gt s (l.map enc) δ QS := by
  refine for_wp I h0 (fun k d δ e h => ?_) (fun δ h => fin δ (by rw [List.length_map] at h; exact h))
  rw [List.getElem?_map] at e
  cases e2 : l[k]? with
  | none => rw [e2] at e; cases e
  | some x =>
    rw [e2] at e
    cases e
    obtain ⟨hk, rfl⟩ := List.getElem?_eq_some_iff.mp e2
    exact st k δ hk h
/-- a turn of a loop that is written out -/
def kUnr (gt : GT) (b : GS) (r : List D) (Q : O → Prop) (o : Fx (Fx (Fx (Fx (O) gt) b) r) Q) : Prop := match o with
  | .nx δ => RnLoop gt b r δ Q
  | .ct δ => RnLoop gt b r δ Q
  | .bk δ => Q (.nx δ)
  | o => Q o
def kUnrT (gt : GT) (b : GS) (r : List D) (Q : O → Prop) (o : Fx (Fx (Fx (Fx (Option FS) gt) b) r) Q) : Prop := match o with
  | none => Q .bad
  | some δ => RnS (kUnr gt b r Q) (b δ)
theorem unr_nil : RnLoop gt s [] δ QS = QS (.nx δ) := rfl
theorem unr_cons : RnLoop gt s (d :: ds) δ QS = RnT (kUnrT gt s ds QS) (gt d δ) := by
  unfold RnLoop RnT kUnrT
  rw [loopF]
  cases gt d δ with
  | none => rfl
  | some δ1 =>
    simp only [RnS]
    cases s δ1 <;> rfl
theorem kUnrT_s : kUnrT gt s ds QS (some δ) = RnS (kUnr gt s ds QS) (s δ) := rfl
theorem kUnr_nx : kUnr gt s ds QS (.nx δ) = RnLoop gt s ds δ QS := rfl
theorem kUnr_ct : kUnr gt s ds QS (.ct δ) = RnLoop gt s ds δ QS := rfl
theorem kUnr_bk : kUnr gt s ds QS (.bk δ) = QS (.nx δ) := rfl
theorem kUnr_ret : kUnr gt s ds QS (.ret d δ) = QS (.ret d δ) := rfl
theorem kUnr_retT : kUnr gt s ds QS (.retT xs ys zs δ) = QS (.retT xs ys zs δ) := rfl
theorem kUnr_retO : kUnr gt s ds QS (.retO d δ) = QS (.retO d δ) := rfl
theorem kUnr_exn : kUnr gt s ds QS (.exn ex δ) = QS (.exn ex δ) := rfl
/-! while -/
def RnW (g : GB) (b : GS) (n : Nat) (δ : FS) (Q : O → Prop) : Prop := Q (loopW g b n δ)
theorem r_while : RnS QS (gWhile g s δ) = RnW g s wFuel δ QS := rfl
def kWb (I : Nat → FS → Prop) (n : Nat) (Q : O → Prop) (r : Fx (Fx (O) I) Q) : Prop := match (show O from r) with
  | .nx δ => ∃ m, m < n ∧ I m δ
  | .ct δ => ∃ m, m < n ∧ I m δ
  | .bk δ => Q (.nx δ)
  | o => Q o
def kWt (b : GS) (I : Nat → FS → Prop) (n : Nat) (Q : O → Prop) (r : Fx (Fx (Fx (RB) b) I) Q) : Prop := match (show RB from r) with
  | .ok t δ => if t = true then RnS (kWb I n Q) (b δ) else Q (.nx δ)
  | .exn x δ => Q (.exn x δ)
  | .bad => Q .bad
theorem while_wp (I : Nat → FS → Prop) (n : Nat) (hn : n < 1000000000) (h0 : I n δ) (st : ∀ n δ, I n δ → RnB (kWt s I n QS) (g δ)) : RnW g s wFuel δ QS := by
  have main : ∀ (fu n : Nat) (δ : FS), n < fu → I n δ → QS (loopW g s fu δ) := by
    intro fu
    induction fu with
    | zero => intro n δ h _; omega
    | succ fu ih =>
      intro n δ h hI
      have h1 := st n δ hI
      unfold loopW
      unfold RnB kWt at h1
      cases e : g δ with
      | bad => rw [e] at h1; exact h1
      | exn x δ1 => rw [e] at h1; exact h1
      | ok t δ1 =>
        rw [e] at h1
        cases t with
        | false => exact h1
        | true =>
          simp only [if_true, RnS, RB.bindS] at h1 ⊢
          cases e2 : s δ1 with
          | nx δ2 => rw [e2] at h1; obtain ⟨m, hm, hI2⟩ := h1; exact ih m δ2 (by omega) hI2
          | ct δ2 => rw [e2] at h1; obtain ⟨m, hm, hI2⟩ := h1; exact ih m δ2 (by omega) hI2
          | _ => rw [e2] at h1; exact h1
  exact main wFuel n δ (by show n < 1000000000; exact hn) h0
variable {I : Nat → FS → Prop}
theorem kWt_ok : kWt s I n QS (.ok v δ) = if v = true then RnS (kWb I n QS) (s δ) else QS (.nx δ) := rfl
theorem kWt_exn : kWt s I n QS (.exn ex δ) = QS (.exn ex δ) := rfl
theorem kWb_nx : kWb I n QS (.nx δ) = ∃ m, m < n ∧ I m δ := rfl
theorem kWb_ct : kWb I n QS (.ct δ) = ∃ m, m < n ∧ I m δ := rfl
theorem kWb_bk : kWb I n QS (.bk δ) = QS (.nx δ) := rfl
theorem kWb_ret : kWb I n QS (.ret d δ) = QS (.ret d δ) := rfl
theorem kWb_retO : kWb I n QS (.retO d δ) = QS (.retO d δ) := rfl
theorem kWb_exn : kWb I n QS (.exn ex δ) = QS (.exn ex δ) := rfl
/-! comprehensions -/
variable {gc : GB} {ge : GE} {vs : List Nat}
def RnLc (gt : GT) (gc : GB) (ge : GE) (vs : List Nat) (ds : List D) (δ : FS) (Q : RE → Prop) : Prop := Q (match loopL gt gc ge vs ds (wipeF δ vs) with
    | .ok ys δ2 => .own (.lst ys) (restF δ δ2 vs)
    | _ => .bad)
def fLc (gt : GT) (gc : GB) (ge : GE) (vs : List Nat) (r : RL) : RE := match r with
  | .ok ds δ1 => if vs.all (notCell δ1) && decide (ds.length ≤ 16777216) then (match loopL gt gc ge vs ds (wipeF δ1 vs) with
    | .ok ys δ2 => .own (.lst ys) (restF δ1 δ2 vs)
    | _ => .bad) else .bad
  | .exn x δ1 => .exn x δ1
  | .bad => .bad
def kLc (gt : GT) (gc : GB) (ge : GE) (vs : List Nat) (Q : RE → Prop) (r : Fx (Fx (Fx (Fx (RL) gt) gc) ge) Q) : Prop := Q (fLc gt gc ge vs r)
theorem r_lc : RnE Q (gLc ga gt gc ge vs δ) = RnL (kLc gt gc ge vs Q) (ga δ) := rfl
theorem kLc_ok : kLc gt gc ge vs Q (.ok ds δ) = if vs.all (notCell δ) = true ∧ ds.length ≤ 16777216 then RnLc gt gc ge vs ds δ Q else Q .bad := by
  unfold kLc fLc RnLc
  simp only [Bool.and_eq_true, decide_eq_true_eq]
  split <;> rfl
theorem kLc_exn : kLc gt gc ge vs Q (.exn ex δ) = Q (.exn ex δ) := rfl
/-- a turn of a comprehension without effects: the test tells c, the item is y, the state is δ0 again -/
def kLcE (vs : List Nat) (δ0 : FS) (y : D) (r : Fx (Fx (RE) δ0) y) : Prop := match (show RE from r) with
  | .ok d δ => d = y ∧ wipeF δ vs = δ0
  | .own d δ => d = y ∧ wipeF δ vs = δ0
  | _ => False
def kLcB (ge : GE) (vs : List Nat) (δ0 : FS) (c : Bool) (y : D) (r : Fx (Fx (Fx (RB) ge) δ0) y) : Prop := match (show RB from r) with
  | .ok b δ => b = c ∧ (if b = true then RnE (kLcE vs δ0 y) (ge δ) else wipeF δ vs = δ0)
  | _ => False
def kLcT (gc : GB) (ge : GE) (vs : List Nat) (δ0 : FS) (c : Bool) (y : D) (r : Fx (Fx (Fx (Fx (Option FS) gc) ge) δ0) y) : Prop := match (show Option FS from r) with
  | some δ => RnB (kLcB ge vs δ0 c y) (gc δ)
  | none => False
variable {δ0 : FS} {cc : Bool}
theorem kLcT_s : kLcT gc ge vs δ0 cc d (some δ) = RnB (kLcB ge vs δ0 cc d) (gc δ) := rfl
theorem kLcB_ok : kLcB ge vs δ0 cc d (.ok v δ) = (v = cc ∧ (if v = true then RnE (kLcE vs δ0 d) (ge δ) else wipeF δ vs = δ0)) := rfl
theorem kLcE_ok : kLcE vs δ0 e (.ok d δ) = (d = e ∧ wipeF δ vs = δ0) := rfl
theorem kLcE_own : kLcE vs δ0 e (.own d δ) = (d = e ∧ wipeF δ vs = δ0) := rfl
theorem r_yes : RnB QB (gYes δ) = QB (.ok true δ) := rfl
theorem lc_wp (c : D → Bool) (f : D → D) (st : ∀ d ∈ ds, RnT (kLcT gc ge vs (wipeF δ vs) (c d) (f d)) (gt d (wipeF δ vs))) (fin : Q (.own (.lst ((ds.filter c).map f)) (restF δ (wipeF δ vs) vs))) : RnLc gt gc ge vs ds δ Q := by
  have main : loopL gt gc ge vs ds (wipeF δ vs) = .ok ((ds.filter c).map f) (wipeF δ vs) := by
    refine loopL_pure c f ds fun d hd => ?_
    have h := st d hd
    unfold RnT kLcT at h
    cases e1 : gt d (wipeF δ vs) with
    | none => rw [e1] at h; exact h.elim
    | some δ1 =>
      rw [e1] at h
      simp only [RnB, kLcB] at h
      cases e2 : gc δ1 with
      | ok b δ2 =>
        rw [e2] at h
        obtain ⟨hb, h⟩ := h
        cases b with
        | true =>
          simp only [if_true, RnE, kLcE] at h
          cases e3 : ge δ2 with
          | ok y δ3 => rw [e3] at h; obtain ⟨h0, h⟩ := h; exact ⟨δ1, δ2, δ3, rfl, by rw [e2, hb], fun _ => ⟨.inl (by rw [e3, h0]), h⟩, fun q => by rw [← hb] at q; cases q⟩
          | own y δ3 => rw [e3] at h; obtain ⟨h0, h⟩ := h; exact ⟨δ1, δ2, δ3, rfl, by rw [e2, hb], fun _ => ⟨.inr (by rw [e3, h0]), h⟩, fun q => by rw [← hb] at q; cases q⟩
          | exn x δ3 => rw [e3] at h; exact h.elim
          | ownT _ _ _ δ3 => rw [e3] at h; exact h.elim
          | bad => rw [e3] at h; exact h.elim
        | false => exact ⟨δ1, δ2, δ2, rfl, by rw [e2, hb], fun q => (by rw [← hb] at q; cases q), fun _ => by simpa using h⟩
      | exn x δ2 => rw [e2] at h; exact h.elim
      | bad => rw [e2] at h; exact h.elim
  unfold RnLc
  rw [main]
  exact fin
/-- over typed items: all of them kept -/
theorem lc_map {α β : Type} {enc : α → D} {l : List α} {enc2 : β → D} (f : α → β) (st : ∀ x ∈ l, RnT (kLcT gc ge vs (wipeF δ vs) true (enc2 (f x))) (gt (enc x) (wipeF δ vs))) (fin : Q (.own (.lst ((l.map f).map enc2)) (restF δ (wipeF δ vs) vs))) : RnLc gt gc ge vs (l.map enc) δ Q := by
  have main : ∀ l : List α, (∀ x ∈ l, RnT (kLcT gc ge vs (wipeF δ vs) true (enc2 (f x))) (gt (enc x) (wipeF δ vs))) → loopL gt gc ge vs (l.map enc) (wipeF δ vs) = .ok ((l.map f).map enc2) (wipeF δ vs) := by
    intro l
    induction l with
    | nil => intro _; rfl
    | cons x r ih =>
      intro st
      have h := st x List.mem_cons_self
      have ih := ih fun y hy => st y (List.mem_cons_of_mem _ hy)
      unfold RnT kLcT at h
      rw [List.map_cons, List.map_cons, List.map_cons]
      unfold loopL
      cases e1 : gt (enc x) (wipeF δ vs) with
      | none => rw [e1] at h; exact h.elim
      | some δ1 =>
        rw [e1] at h
        simp only [RnB, kLcB] at h ⊢
        cases e2 : gc δ1 with
        | ok b δ2 =>
          rw [e2] at h
          obtain ⟨hb, h⟩ := h
          subst hb
          simp only [if_true, RnE, kLcE] at h
          cases e3 : ge δ2 with
          | ok y δ3 => rw [e3] at h; obtain ⟨rfl, h⟩ := h; simp only [h, ih, e3]
          | own y δ3 => rw [e3] at h; obtain ⟨rfl, h⟩ := h; simp only [h, ih, e3]
          | exn x δ3 => rw [e3] at h; exact h.elim
          | ownT _ _ _ δ3 => rw [e3] at h; exact h.elim
          | bad => rw [e3] at h; exact h.elim
        | exn x δ2 => rw [e2] at h; exact h.elim
        | bad => rw [e2] at h; exact h.elim
  unfold RnLc
  rw [main l st]
  exact fin
theorem rng_map {n : Nat} : rngL 0 1 n = (List.range n).map fun k : Nat => D.int (k : Int) := by
  rw [rng_range]
  refine List.map_congr_left fun k _ => ?_
  rw [Int.zero_add]
theorem rng_mapc {n : Nat} {lo c : Int} : rngL lo c n = (List.range n).map fun k : Nat => D.int (lo + (k : Int) * c) := by
  rw [rng_step, List.map_map]
  rfl
theorem lc_r0 {β : Type} {n : Nat} {enc2 : β → D} (f : Nat → β) (st : ∀ k, k < n → RnT (kLcT gc ge vs (wipeF δ vs) true (enc2 (f k))) (gt (.int (k : Nat)) (wipeF δ vs))) (fin : Q (.own (.lst (((List.range n).map f).map enc2)) (restF δ (wipeF δ vs) vs))) : RnLc gt gc ge vs (rngL 0 1 n) δ Q := by
  rw [rng_map]
  exact lc_map (enc := fun k : Nat => D.int (k : Int)) f (fun k hk => st k (List.mem_range.mp hk)) fin
/-- over typed items: those kept that c tells -/
theorem lc_fmap {α β : Type} {enc : α → D} {l : List α} {enc2 : β → D} (c : α → Bool) (f : α → β) (st : ∀ x ∈ l, RnT (kLcT gc ge vs (wipeF δ vs) (c x) (enc2 (f x))) (gt (enc x) (wipeF δ vs))) (fin : Q (.own (.lst (((l.filter c).map f).map enc2)) (restF δ (wipeF δ vs) vs))) : RnLc gt gc ge vs (l.map enc) δ Q := by
  have main : ∀ l : List α, (∀ x ∈ l, RnT (kLcT gc ge vs (wipeF δ vs) (c x) (enc2 (f x))) (gt (enc x) (wipeF δ vs))) → loopL gt gc ge vs (l.map enc) (wipeF δ vs) = .ok (((l.filter c).map f).map enc2) (wipeF δ vs) := by
    intro l
    induction l with
    | nil => intro _; rfl
    | cons x r ih =>
      intro st
      have h := st x List.mem_cons_self
      have ih := ih fun y hy => st y (List.mem_cons_of_mem _ hy)
      unfold RnT kLcT at h
      rw [List.map_cons]
      unfold loopL
      cases e1 : gt (enc x) (wipeF δ vs) with
      | none => rw [e1] at h; exact h.elim
      | some δ1 =>
        rw [e1] at h
        simp only [RnB, kLcB] at h ⊢
        cases e2 : gc δ1 with
        | ok b δ2 =>
          rw [e2] at h
          obtain ⟨hb, h⟩ := h
          cases b with
          | true =>
            simp only [if_true, RnE, kLcE] at h
            rw [List.filter_cons_of_pos hb.symm, List.map_cons, List.map_cons]
            cases e3 : ge δ2 with
            | ok y δ3 => rw [e3] at h; obtain ⟨rfl, h⟩ := h; simp only [h, ih, e3]
            | own y δ3 => rw [e3] at h; obtain ⟨rfl, h⟩ := h; simp only [h, ih, e3]
            | exn x δ3 => rw [e3] at h; exact h.elim
            | ownT _ _ _ δ3 => rw [e3] at h; exact h.elim
            | bad => rw [e3] at h; exact h.elim
          | false =>
            have h : wipeF δ2 vs = wipeF δ vs := by simpa using h
            rw [List.filter_cons_of_neg (by rw [← hb]; exact fun q => nomatch q)]
            simp only [h, ih]
        | exn x δ2 => rw [e2] at h; exact h.elim
        | bad => rw [e2] at h; exact h.elim
  unfold RnLc
  rw [main l st]
  exact fin
theorem lc_rf {β : Type} {n : Nat} {enc2 : β → D} (c : Nat → Bool) (f : Nat → β) (st : ∀ k, k < n → RnT (kLcT gc ge vs (wipeF δ vs) (c k) (enc2 (f k))) (gt (.int (k : Nat)) (wipeF δ vs))) (fin : Q (.own (.lst ((((List.range n).filter c).map f).map enc2)) (restF δ (wipeF δ vs) vs))) : RnLc gt gc ge vs (rngL 0 1 n) δ Q := by
  rw [rng_map]
  exact lc_fmap (enc := fun k : Nat => D.int (k : Int)) c f (fun k hk => st k (List.mem_range.mp hk)) fin
/-- with effects: relation P between number and item, state by I -/
def kLcS (J : FS → Prop) (vs : List Nat) (P : D → Prop) (r : Fx (Fx (RE) J) P) : Prop := match (show RE from r) with
  | .ok d δ => P d ∧ J (wipeF δ vs)
  | .own d δ => P d ∧ J (wipeF δ vs)
  | _ => False
def kLcSB (ge : GE) (J : FS → Prop) (vs : List Nat) (P : D → Prop) (r : Fx (Fx (Fx (RB) ge) J) P) : Prop := match (show RB from r) with
  | .ok true δ => RnE (kLcS J vs P) (ge δ)
  | _ => False
def kLcST (gc : GB) (ge : GE) (J : FS → Prop) (vs : List Nat) (P : D → Prop) (r : Fx (Fx (Fx (Fx (Option FS) gc) ge) J) P) : Prop := match (show Option FS from r) with
  | some δ => RnB (kLcSB ge J vs P) (gc δ)
  | none => False
variable {PD : D → Prop}
theorem kLcST_s : kLcST gc ge J vs PD (some δ) = RnB (kLcSB ge J vs PD) (gc δ) := rfl
theorem kLcSB_ok : kLcSB ge J vs PD (.ok true δ) = RnE (kLcS J vs PD) (ge δ) := rfl
theorem kLcS_ok : kLcS J vs PD (.ok d δ) = (PD d ∧ J (wipeF δ vs)) := rfl
theorem kLcS_own : kLcS J vs PD (.own d δ) = (PD d ∧ J (wipeF δ vs)) := rfl
theorem lc_st (I : Nat → FS → Prop) (P : Nat → D → Prop) (h0 : I 0 (wipeF δ vs)) (st : ∀ n d δ, ds[n]? = some d → I n δ → RnT (kLcST gc ge (I (n + 1)) vs (P n)) (gt d δ)) (fin : ∀ ys δ', I ds.length δ' → ys.length = ds.length → (∀ n y, ys[n]? = some y → P n y) → Q (.own (.lst ys) (restF δ δ' vs))) : RnLc gt gc ge vs ds δ Q := by
  obtain ⟨ys, δ', e, h, hl, hp⟩ := loopL_inv (gt := gt) (gc := gc) (ge := ge) (vs := vs) I P ds 0 (wipeF δ vs) (fun n d δ e h => by
    rw [Nat.zero_add] at h ⊢
    have h1 := st n d δ e h
    unfold RnT kLcST at h1
    cases e1 : gt d δ with
    | none => rw [e1] at h1; exact h1.elim
    | some δ1 =>
      rw [e1] at h1
      simp only [RnB, kLcSB] at h1
      cases e2 : gc δ1 with
      | ok b δ2 =>
        rw [e2] at h1
        cases b with
        | false => exact h1.elim
        | true =>
          simp only [RnE, kLcS] at h1
          cases e3 : ge δ2 with
          | ok y δ3 => rw [e3] at h1; exact ⟨δ1, δ2, y, δ3, rfl, e2, .inl e3, h1.1, h1.2⟩
          | own y δ3 => rw [e3] at h1; exact ⟨δ1, δ2, y, δ3, rfl, e2, .inr e3, h1.1, h1.2⟩
          | exn x δ3 => rw [e3] at h1; exact h1.elim
          | ownT _ _ _ δ3 => rw [e3] at h1; exact h1.elim
          | bad => rw [e3] at h1; exact h1.elim
      | exn x δ2 => rw [e2] at h1; exact h1.elim
      | bad => rw [e2] at h1; exact h1.elim) h0
  rw [Nat.zero_add] at h
  unfold RnLc
  rw [e]
  exact fin ys δ' h hl fun n y q => by have := hp n y q; rw [Nat.zero_add] at this; exact this
/-- items are made one by one, each an enc -/
theorem lc_stE {β : Type} {enc2 : β → D} (I : Nat → FS → Prop) (P : Nat → β → Prop) (h0 : I 0 (wipeF δ vs)) (st : ∀ n d δ, ds[n]? = some d → I n δ → RnT (kLcST gc ge (I (n + 1)) vs (fun y => ∃ b, y = enc2 b ∧ P n b)) (gt d δ)) (fin : ∀ (bs : List β) δ', I ds.length δ' → bs.length = ds.length → (∀ n (h : n < bs.length), P n bs[n]) → Q (.own (.lst (bs.map enc2)) (restF δ δ' vs))) : RnLc gt gc ge vs ds δ Q := by
  refine lc_st I (fun n y => ∃ b, y = enc2 b ∧ P n b) h0 st fun ys δ' h hl hp => ?_
  have ex : ∀ (ys : List D) (P : Nat → β → Prop), (∀ n y, ys[n]? = some y → ∃ b, y = enc2 b ∧ P n b) → ∃ bs : List β, ys = bs.map enc2 ∧ ∀ n (h : n < bs.length), P n bs[n] := by
    intro ys
    induction ys with
    | nil => intro _ _; exact ⟨[], rfl, fun n h => absurd h (by simp)⟩
    | cons y r ih =>
      intro P hp
      obtain ⟨b, e, p⟩ := hp 0 y rfl
      obtain ⟨bs, e2, p2⟩ := ih (fun n => P (n + 1)) fun n y q => hp (n + 1) y q
      refine ⟨b :: bs, by rw [List.map_cons, e, e2], fun n h => ?_⟩
      cases n with
      | zero => exact p
      | succ n => exact p2 n (by simpa using h)
  obtain ⟨bs, rfl, p⟩ := ex ys P hp
  exact fin bs δ' h (by rw [List.length_map] at hl; exact hl) p
theorem lc_stR {β : Type} {nn : Nat} {enc2 : β → D} (I : Nat → FS → Prop) (P : Nat → β → Prop) (h0 : I 0 (wipeF δ vs)) (st : ∀ k δ, k < nn → I k δ → RnT (kLcST gc ge (I (k + 1)) vs (fun y => ∃ b, y = enc2 b ∧ P k b)) (gt (.int (k : Nat)) δ)) (fin : ∀ (bs : List β) δ', I nn δ' → bs.length = nn → (∀ n (h : n < bs.length), P n bs[n]) → Q (.own (.lst (bs.map enc2)) (restF δ δ' vs))) : RnLc gt gc ge vs (rngL 0 1 nn) δ Q := by
  refine lc_stE I P h0 (fun k d δ e h => ?_) (fun bs δ' h hl hp => fin bs δ' (by rw [rng_len] at h; exact h) (by rw [rng_len] at hl; exact hl) hp)
  obtain ⟨hk, rfl⟩ := rng_at e
  rw [show (0 : Int) + (k : Nat) * 1 = (k : Nat) by omega]
  exact st k δ hk h
theorem lc_stM {α β : Type} {enc : α → D} {l : List α} {enc2 : β → D} (I : Nat → FS → Prop) (P : Nat → β → Prop) (h0 : I 0 (wipeF δ vs)) (st : ∀ k δ (hk : k < l.length), I k δ → RnT (kLcST gc ge (I (k + 1)) vs (fun y => ∃ b, y = enc2 b ∧ P k b)) (gt (enc l[k]) δ)) (fin : ∀ (bs : List β) δ', I l.length δ' → bs.length = l.length → (∀ n (h : n < bs.length), P n bs[n]) → Q (.own (.lst (bs.map enc2)) (restF δ δ' vs))) : RnLc gt gc ge vs (l.map enc) δ Q := by
  refine lc_stE I P h0 (fun k d δ e h => ?_) (fun bs δ' h hl hp => fin bs δ' (by rw [List.length_map] at h; exact h) (by rw [List.length_map] at hl; exact hl) hp)
  rw [List.getElem?_map] at e
  cases e2 : l[k]? with
  | none => rw [e2] at e; cases e
  | some x =>
    rw [e2] at e
    cases e
    obtain ⟨hk, rfl⟩ := List.getElem?_eq_some_iff.mp e2
    exact st k δ hk h
theorem all_of_ix {β : Type} {l : List β} {P : β → Prop} (h : ∀ n (h : n < l.length), P l[n]) : ∀ x ∈ l, P x := fun x hx => by
  obtain ⟨n, hn, rfl⟩ := List.getElem_of_mem hx
  exact h n hn
/-! calls -/
def kFin (b : Nat) (Q : RF → Prop) (o : Fx (O) Q) : Prop := Q (finF b o)
theorem r_run {b n : Nat} {g : GS} : RnF QF (runF b n g ds) = RnS (kFin b QF) (g (pars b ds ++ List.replicate (n - ds.length) none)) := by rw [run_fin]; rfl
theorem kFin_nx : kFin n QF (.nx δ) = QF (.ok .non (contB n δ)) := rfl
theorem kFin_ret : kFin n QF (.ret d δ) = QF (.ok d (contB n δ)) := rfl
theorem kFin_retT : kFin n QF (.retT xs ds ys δ) = QF (.ownT xs ds ys (contB n δ)) := rfl
theorem kFin_retO : kFin n QF (.retO d δ) = QF (.own d (contB n δ)) := rfl
theorem kFin_exn : kFin n QF (.exn ex δ) = QF (.exn ex (contB n δ)) := rfl
def kFn (b : Nat) (n : Nat) (f : List D → RF) (Q : RE → Prop) (r : Fx (Fx (RL) f) Q) : Prop := Q (r.bind fun ds δ1 => if ds.length = n then appF b f δ1 ds else .bad)
theorem r_fn : RnE Q (gFn n m ff ga δ) = RnL (kFn n m ff Q) (ga δ) := rfl
theorem kFn_ok : kFn n m ff Q (.ok ds δ) = if ds.length = m then RnE Q (appF n ff δ ds) else Q .bad := by
  show Q (if _ then _ else _) = _
  split <;> rfl
theorem kFn_exn : kFn n m ff Q (.exn ex δ) = Q (.exn ex δ) := rfl
def kFnK (b : Nat) (n : Nat) (m : Nat) (pm : List Nat) (f : List D → RF) (Q : RE → Prop) (r : Fx (Fx (RL) f) Q) : Prop := Q (r.bind fun ds δ1 => if ds.length = m ∧ (permL pm ds).length = n then appF b f δ1 (permL pm ds) else .bad)
variable {pm : List Nat} {l : Nat}
theorem r_fnK : RnE Q (gFnK n m l pm ff ga δ) = RnL (kFnK n m l pm ff Q) (ga δ) := rfl
theorem kFnK_ok : kFnK n m l pm ff Q (.ok ds δ) = if ds.length = l ∧ (permL pm ds).length = m then RnE Q (appF n ff δ (permL pm ds)) else Q .bad := by
  show Q (if _ then _ else _) = _
  split <;> rfl
theorem kFnK_exn : kFnK n m l pm ff Q (.exn ex δ) = Q (.exn ex δ) := rfl
def permC (o : Option D) (r : List D) : List D := match o with | some d => d :: r | none => r
theorem permC_s : permC (some d) ds = d :: ds := rfl
theorem permL_nil : permL [] ds = [] := rfl
theorem permL_cons {p : Nat} {r : List Nat} : permL (p :: r) ds = permC ds[p]? (permL r ds) := by
  unfold permL permC
  rw [List.filterMap_cons]
  cases ds[p]? <;> rfl
def borS (o : Option D) (δ : FS) : Option (Option (Nat × Md)) := match o with
  | none => some none
  | some (.var i) => (match δ[i]? with
    | some (some (.cl m _)) => if m = .ro then none else some (some (i, m))
    | _ => none)
  | some _ => none
def borM (i : Nat) (s : Option (Option SV)) : Option (Option (Nat × Md)) := match s with
    | some (some (.cl m _)) => if m = .ro then none else some (some (i, m))
    | _ => none
theorem bor_e : borV n δ ds = borS ds[n]? δ := rfl
theorem borS_n : borS none δ = some none := rfl
theorem borS_v : borS (some (.var i)) δ = borM i δ[i]? := rfl
theorem borM_mu : borM i (some (some (.cl .mu d))) = some (some (i, .mu)) := rfl
theorem borM_bo : borM i (some (some (.cl .bo d))) = some (some (i, .bo)) := rfl
def kEnd (bm : Option (Nat × Md)) (l : List Nat) (δ : FS) (Q : RE → Prop) (r : Fx (Fx (Fx (RF) bm) δ) Q) : Prop := Q (endL bm l δ r)
def kBor (l : List Nat) (f : List D → RF) (ds : List D) (δ : FS) (Q : RE → Prop) (o : Option (Option (Nat × Md))) : Prop := match o with
  | none => Q .bad
  | some bm => if clash l bm = true then Q .bad else RnF (kEnd bm l δ Q) (f ds)
theorem r_appF : RnE Q (appF n ff δ ds) = kBor (lentV n 0 ds) ff (ds.map (top δ)) δ Q (borS ds[n]? δ) := by
  unfold RnE kBor appF
  rw [bor_e]
  cases borS ds[n]? δ with
  | none => rfl
  | some bm =>
    simp only
    split <;> rfl
variable {ln : List Nat} {bm : Option (Nat × Md)} {md : Md}
theorem kBor_s : kBor ln ff ds δ Q (some bm) = if clash ln bm = true then Q .bad else RnF (kEnd bm ln δ Q) (ff ds) := rfl
theorem clash_n : clash ln none = false := rfl
theorem clash_s : clash ln (some (i, md)) = ln.contains i := rfl
theorem clash_0 : clash [] bm = false := by cases bm <;> rfl
def kLok (bm : Option (Nat × Md)) (r : RF) (Q : RE → Prop) (o : Fx (Fx (Fx (Option FS) bm) r) Q) : Prop := match o with
  | some δ => Q (endF bm δ r)
  | none => Q .bad
theorem kEnd_ok : kEnd bm ln δ Q (.ok d e) = if (ln.isEmpty || (safe d && safeI e)) = true then Q (.ok d (backV bm e δ)) else kLok bm (.ok d e) Q (lockV δ ln) := by
  show Q (endL bm ln δ (.ok d e)) = _
  show Q (if (ln.isEmpty || (_ && _)) = true then _ else _) = _
  unfold kLok
  split
  · rfl
  · cases lockV δ ln <;> rfl
theorem kEnd_own : kEnd bm ln δ Q (.own d e) = if (ln.isEmpty || (safeI d && safeI e)) = true then Q (.own d (backV bm e δ)) else kLok bm (.own d e) Q (lockV δ ln) := by
  show Q (endL bm ln δ (.own d e)) = _
  show Q (if (ln.isEmpty || (_ && _)) = true then _ else _) = _
  unfold kLok
  split
  · rfl
  · cases lockV δ ln <;> rfl
theorem kEnd_ownT : kEnd bm ln δ Q (.ownT xs ds ys e) = if (ln.isEmpty || ((safeA xs && safeA ds && safeA ys) && safeI e)) = true then Q (.ownT xs ds ys (backV bm e δ)) else kLok bm (.ownT xs ds ys e) Q (lockV δ ln) := by
  show Q (endL bm ln δ (.ownT xs ds ys e)) = _
  show Q (if (ln.isEmpty || (_ && _)) = true then _ else _) = _
  unfold kLok
  split
  · rfl
  · cases lockV δ ln <;> rfl
theorem kLok_ownT : kLok bm (.ownT xs ds ys e) Q (some δ) = Q (.ownT xs ds ys (backV bm e δ)) := rfl
theorem kEnd_exn0 : kEnd bm [] δ Q (.exn ex e) = Q (.exn ex (backV bm e δ)) := rfl
theorem kLok_ok : kLok bm (.ok d e) Q (some δ) = Q (.ok d (backV bm e δ)) := rfl
theorem kLok_own : kLok bm (.own d e) Q (some δ) = Q (.own d (backV bm e δ)) := rfl
theorem back_n : backV none d δ = δ := rfl
theorem back_s : backV (some (i, md)) d δ = δ.set i (some (.cl md d)) := rfl
theorem lock_nil : lockV δ [] = some δ := rfl
def lockS (i : Nat) (r : List Nat) (δ : FS) (s : Option (Option SV)) : Option FS := match s with
  | some (some (.cl .mu c)) => lockV (δ.set i (some (.cl .ro c))) r
  | some (some (.cl .ro _)) => lockV δ r
  | _ => none
theorem lock_cons : lockV δ (i :: ln) = lockS i ln δ δ[i]? := rfl
theorem lockS_mu : lockS i ln δ (some (some (.cl .mu d))) = lockV (δ.set i (some (.cl .ro d))) ln := rfl
theorem lockS_ro : lockS i ln δ (some (some (.cl .ro d))) = lockV δ ln := rfl
theorem lent_nil : lentV n j [] = [] := rfl
theorem lent_var : lentV n j (.var i :: ds) = if j = n then lentV n (j + 1) ds else i :: lentV n (j + 1) ds := rfl
theorem lent_int : lentV n j (.int x :: ds) = lentV n (j + 1) ds := rfl
theorem lent_bl : lentV n j (.bl v :: ds) = lentV n (j + 1) ds := rfl
theorem lent_str {w : Str} : lentV n j (.str w :: ds) = lentV n (j + 1) ds := rfl
theorem lent_non : lentV n j (.non :: ds) = lentV n (j + 1) ds := rfl
theorem lent_lst : lentV n j (.lst xs :: ds) = lentV n (j + 1) ds := rfl
theorem lent_tup : lentV n j (.tup xs :: ds) = lentV n (j + 1) ds := rfl
theorem lent_scr {ns : List Int} : lentV n j (.scr ns :: ds) = lentV n (j + 1) ds := rfl
theorem lent_dic {es : List (Key × D)} : lentV n j (.dic es :: ds) = lentV n (j + 1) ds := rfl
theorem lent_nv (h : NV d) : lentV n j (d :: ds) = lentV n (j + 1) ds := by
  cases d <;> first | exact absurd rfl (h _) | rfl
theorem safe_non : safe .non = true := rfl
theorem safe_bl : safe (.bl v) = true := rfl
theorem safe_int : safe (.int x) = true := rfl
theorem safe_str {w : Str} : safe (.str w) = true := rfl
theorem safe_tup_ : safe (.tup ds) = safeA ds := by unfold safe; rfl
theorem safe_lst_ : safe (.lst ds) = false := rfl
theorem safeA_nil : safeA [] = true := rfl
theorem safeA_cons : safeA (d :: ds) = (safe d && safeA ds) := by rw [safeA]
theorem safeI_non : safeI .non = true := rfl
theorem safeI_lst : safeI (.lst ds) = safeA ds := rfl
theorem safeA_ints : ∀ {l : List Int}, safeA (l.map D.int) = true
  | [] => rfl
  | x :: r => by rw [List.map_cons, safeA_cons, safeA_ints]; rfl
theorem safeA_map {α : Type} {enc : α → D} (h : ∀ x, safe (enc x) = true) : ∀ {l : List α}, safeA (l.map enc) = true
  | [] => rfl
  | x :: r => by rw [List.map_cons, safeA_cons, safeA_map h, h]; rfl
theorem contB_e : contB n δ = contS δ[n]? := cont_get
theorem contS_fz : contS (some (some (.fz d))) = .non := rfl
theorem contS_n : contS (some none) = .non := rfl
def parsS (n : Nat) (ds : List D) (o : Option D) : FS := match o with
  | some c => (ds.map fun d => some (SV.fz d)).set n (some (.cl .bo c))
  | none => ds.map fun d => some (SV.fz d)
theorem pars_n : pars n ds = parsS n ds ds[n]? := rfl
theorem pS_n : parsS n ds none = ds.map fun d => some (SV.fz d) := rfl
theorem pS_s : parsS n ds (some d) = (ds.map fun d => some (SV.fz d)).set n (some (.cl .bo d)) := rfl
/-! isinstance -/
variable {T : Ty}
def kIsi (T : Ty) (Q : RE → Prop) (r : Fx (RE) Q) : Prop := Q (r.bind (isiK T))
theorem r_isi : RnE Q (gIsi T a δ) = RnE (kIsi T Q) (a δ) := rfl
theorem kIsi_ok : kIsi T Q (.ok d δ) = RnE Q (isiK T d δ) := rfl
theorem kIsi_own : kIsi T Q (.own d δ) = RnE Q (isiK T d δ) := rfl
theorem kIsi_ownT : kIsi T Q (.ownT xs ds ys δ) = RnE Q (isiK T (tupN xs ds ys) δ) := rfl
theorem kIsi_exn : kIsi T Q (.exn ex δ) = Q (.exn ex δ) := rfl
/-! list(range(..)), set, index, copies -/
def kLstR (Q : RE → Prop) (r : Fx (RL) Q) : Prop := Q (r.bind lstK)
theorem r_lstR : RnE Q (gLstR ga δ) = RnL (kLstR Q) (ga δ) := rfl
theorem kLstR_ok : kLstR Q (.ok ds δ) = RnE Q (lstK ds δ) := rfl
theorem kLstR_exn : kLstR Q (.exn ex δ) = Q (.exn ex δ) := rfl
theorem lstK1 (h : -16777216 ≤ x ∧ x ≤ 16777216) : lstK [.int x] δ = .own (.lst (rngL 0 1 x.toNat)) δ := by
  have a1 : rngOk x = true := rngOk_mk h
  have a2 : x.toNat ≤ 16777216 := by omega
  unfold lstK rgOf
  simp only [DL.top, a1, if_true, if_pos a2]
theorem lstK2 (h : -16777216 ≤ x ∧ x ≤ 16777216) (h2 : -16777216 ≤ y ∧ y ≤ 16777216) (h3 : y - x ≤ 16777216) : lstK [.int x, .int y] δ = .own (.lst (rngL x 1 (y - x).toNat)) δ := by
  have a1 : rngOk x = true := rngOk_mk h
  have a3 : rngOk y = true := rngOk_mk h2
  have a2 : (y - x).toNat ≤ 16777216 := by omega
  unfold lstK rgOf
  simp only [DL.top, a1, a3, Bool.and_self, if_true, if_pos a2]
def lsS (s : D) (δ : FS) (Q : RE → Prop) : Prop := Q (match s with
  | .lst xs => (match intsOf xs with
    | some ns => if ns.Nodup ∧ ns.length ≤ 4000 then .ok (.int (ns.length : Nat)) δ else .bad
    | none => .bad)
  | _ => .bad)
def kLs (Q : RE → Prop) (r : Fx (RE) Q) : Prop := Q (r.bind fun d δ1 => match top δ1 d with
  | .lst xs => (match intsOf xs with
    | some ns => if ns.Nodup ∧ ns.length ≤ 4000 then .ok (.int (ns.length : Nat)) δ1 else .bad
    | none => .bad)
  | _ => .bad)
theorem r_ls : RnE Q (gLenSet a δ) = RnE (kLs Q) (a δ) := rfl
theorem kLs_ok : kLs Q (.ok d δ) = lsS (top δ d) δ Q := rfl
theorem kLs_own : kLs Q (.own d δ) = lsS (top δ d) δ Q := rfl
theorem lsS_l {ns : List Int} (h : ns.Nodup) (h2 : ns.length ≤ 4000) : lsS (.lst (ns.map .int)) δ Q = Q (.ok (.int (ns.length : Nat)) δ) := by
  unfold lsS
  simp only [ints_map, if_pos (And.intro h h2)]
/-! several at once -/
def kPar2 (i : Nat) (j : Nat) (Q : O → Prop) (r : Fx (RL) Q) : Prop := Q (parK i j r)
theorem r_par2 : RnS QS (gPar2F i j ga δ) = RnL (kPar2 i j QS) (ga δ) := by rw [par2_e]; rfl
theorem kPar2_ok : kPar2 i j QS (.ok [d, e] δ) = if (notCell δ i && notCell δ j) = true then QS (.nx ((δ.set i (some (.fz d))).set j (some (.fz e)))) else QS .bad := by
  show QS (if _ then _ else _) = _
  split <;> rfl
theorem kPar2_exn : kPar2 i j QS (.exn ex δ) = QS (.exn ex δ) := rfl
def kPar3 (i j l : Nat) (Q : O → Prop) (r : RL) : Prop := Q (match r with
  | .ok [d, e, f] δ1 => if notCell δ1 i && notCell δ1 j && notCell δ1 l then .nx (((δ1.set i (some (.fz d))).set j (some (.fz e))).set l (some (.fz f))) else .bad
  | .exn x δ1 => .exn x δ1
  | _ => .bad)
theorem r_par3 : RnS QS (gPar3F i j l ga δ) = RnL (kPar3 i j l QS) (ga δ) := rfl
variable {d3 : D}
theorem kPar3_ok : kPar3 i j l QS (.ok [d, e, d3] δ) = if (notCell δ i && notCell δ j && notCell δ l) = true then QS (.nx (((δ.set i (some (.fz d))).set j (some (.fz e))).set l (some (.fz d3)))) else QS .bad := by
  show QS (if _ then _ else _) = _
  split <;> rfl
theorem kPar3_exn : kPar3 i j l QS (.exn ex δ) = QS (.exn ex δ) := rfl
variable {c1 c2 : Bool}
def kPc (c1 : Bool) (i : Nat) (c2 : Bool) (j : Nat) (d : D) (Q : O → Prop) (r : RE) : Prop := Q (match r.pick c2 with
    | some (e, δ2) => (match putS c1 i d δ2 with
      | some δ3 => (match putS c2 j e δ3 with
        | some δ4 => .nx δ4
        | none => .bad)
      | none => .bad)
    | none => .bad)
def kPb (c1 : Bool) (i : Nat) (c2 : Bool) (j : Nat) (b : GE) (Q : O → Prop) (r : RE) : Prop := Q (match r.pick c1 with
  | some (d, δ1) => (match (b δ1).pick c2 with
    | some (e, δ2) => (match putS c1 i d δ2 with
      | some δ3 => (match putS c2 j e δ3 with
        | some δ4 => .nx δ4
        | none => .bad)
      | none => .bad)
    | none => .bad)
  | none => .bad)
theorem r_par : RnS QS (gPar2 c1 i c2 j a b δ) = RnE (kPb c1 i c2 j b QS) (a δ) := rfl
def kPe (Q : O → Prop) (o : Option FS) : Prop := Q (match o with | some δ4 => .nx δ4 | none => .bad)
def kPd (c2 : Bool) (j : Nat) (e : D) (Q : O → Prop) (o : Option FS) : Prop := Q (match o with
      | some δ3 => (match putS c2 j e δ3 with
        | some δ4 => .nx δ4
        | none => .bad)
      | none => .bad)
theorem kPb_ok : kPb false i c2 j b QS (.ok d δ) = RnE (kPc false i c2 j d QS) (b δ) := rfl
theorem kPb_own : kPb c1 i c2 j b QS (.own d δ) = RnE (kPc c1 i c2 j d QS) (b δ) := rfl
theorem kPc_ok : kPc c1 i false j d QS (.ok e δ) = RnT (kPd false j e QS) (putS c1 i d δ) := by
  unfold RnT kPd kPc
  simp only [RE.pick, Bool.false_eq_true, if_false]
theorem kPc_own : kPc c1 i c2 j d QS (.own e δ) = RnT (kPd c2 j e QS) (putS c1 i d δ) := rfl
theorem kPd_s : kPd c2 j e QS (some δ) = RnT (kPe QS) (putS c2 j e δ) := rfl
theorem kPe_s : kPe QS (some δ) = QS (.nx δ) := rfl
theorem putS_t : putS true i d δ = if freeSlot δ i = true then some (δ.set i (some (.cl .mu d))) else none := rfl
theorem putS_f : putS false i d δ = if notCell δ i = true then some (δ.set i (some (.fz d))) else none := rfl
def movS (j : Nat) (Q : O → Prop) (o : Option (List D × FS)) : Prop := Q (match o with
  | some (ds, δ1) => if notCell δ1 j then .nx (δ1.set j (some (.fz (.lst ds)))) else .bad
  | none => .bad)
theorem r_mov : RnS QS (gMov j i δ) = movS j QS (frzS δ[i]? i δ) := rfl
theorem movS_s : movS j QS (some (ds, δ)) = if notCell δ j = true then QS (.nx (δ.set j (some (.fz (.lst ds))))) else QS .bad := by
  show QS (if _ then _ else _) = _
  split <;> rfl
/-! pop -/
def popAtS (s : Option (Option SV)) (i : Nat) (j : Int) (δ : FS) : RE := if j < -16777216 ∨ 16777216 < j then .bad else (match mutS s with
    | some (m, ds) => (match ixN ds.length j with
      | some q => (match ds[q]? with | some d => .ok d (δ.set i (some (.cl m (.lst (ds.eraseIdx q))))) | none => .bad)
      | none => .bad)
    | none => .bad)
def popK (i : Nat) (d : D) (δ : FS) : RE := match top δ d with
  | .int j => popAtS δ[i]? i j δ
  | _ => .bad
theorem popAt_e : gPopAt i a δ = if isL δ i then (a δ).bind (popK i) else .bad := by
  unfold gPopAt popK popAtS
  simp only [mutL_get]
  try rfl
def kPop (i : Nat) (Q : RE → Prop) (r : Fx (RE) Q) : Prop := Q (r.bind (popK i))
theorem r_popAt : RnE Q (gPopAt i a δ) = if isL δ i = true then RnE (kPop i Q) (a δ) else Q .bad := by
  rw [popAt_e]
  unfold RnE kPop
  split <;> rfl
theorem kPop_ok : kPop i Q (.ok (.int x) δ) = RnE Q (popAtS δ[i]? i x δ) := rfl
theorem kPop_exn : kPop i Q (.exn ex δ) = Q (.exn ex δ) := rfl
theorem popAtS_mu {α : Type} [Inhabited α] {enc : α → D} {l : List α} (h : 0 ≤ x ∧ x < l.length ∧ x ≤ 16777216) : popAtS (some (some (.cl .mu (.lst (l.map enc))))) i x δ = .ok (enc l[x.toNat]!) (δ.set i (some (.cl .mu (.lst ((l.eraseIdx x.toNat).map enc))))) := by
  obtain ⟨p, rfl⟩ : ∃ p : Nat, x = p := ⟨x.toNat, by omega⟩
  have hp : p < l.length := by omega
  have e1 : ixN (l.map enc).length (p : Int) = some p := ixN_lit (by rw [List.length_map]; exact hp)
  have e2 : (l.map enc)[p]? = some (enc l[p]!) := by rw [List.getElem?_map, List.getElem?_eq_getElem hp, getElem!_pos l p hp]; rfl
  have e3 : (l.map enc).eraseIdx p = (l.eraseIdx p).map enc := by simp [List.eraseIdx_eq_take_drop_succ, List.map_take, List.map_drop]
  unfold popAtS mutS
  rw [if_neg (by omega)]
  simp only [reduceCtorEq, if_false, e1, e2, e3, Int.toNat_natCast]
def popS (s : Option (Option SV)) (i : Nat) (δ : FS) : RE := match mutS s with
  | some (m, ds) => (match ds[ds.length - 1]? with | some d => .ok d (δ.set i (some (.cl m (.lst ds.dropLast)))) | none => .bad)
  | none => .bad
theorem pop_e : gPop i δ = popS δ[i]? i δ := by unfold gPop popS; rw [mutL_get]; try rfl
end
/-- the jar of a law -/
structure Jr where
  a : Int
  b : Int
  c : Int
def jd (j : Jr) : D := .lst [.int j.a, .int j.b, .int j.c]
theorem safeI_jd {j : Jr} : safeI (jd j) = true := rfl
/-- a jar, at most n poor dips -/
def Jar (n : Nat) (j : Jr) : Prop := 0 ≤ j.a ∧ 0 ≤ j.b ∧ j.b < 2 ^ 200 ∧ 0 ≤ j.c ∧ j.c ≤ n
theorem Jar.mono {n m : Nat} {j : Jr} (h : Jar n j) (q : n ≤ m) : Jar m j := ⟨h.1, h.2.1, h.2.2.1, h.2.2.2.1, by have := h.2.2.2.2; omega⟩
theorem toNat_subL {a b : Int} (h : 0 ≤ b ∧ b ≤ a) : (a - b).toNat = a.toNat - b.toNat := by omega
theorem of_run {r : RF} {x : RF} (h : RnF (fun y => y = x) r) : r = x := h
theorem ite_t {c : Prop} [Decidable c] {a b : Prop} (h : c) (k : a) : (if c then a else b) := by rw [if_pos h]; exact k
theorem ite_f {c : Prop} [Decidable c] {a b : Prop} (h : ¬ c) (k : b) : (if c then a else b) := by rw [if_neg h]; exact k
theorem ite_two {c : Prop} [Decidable c] {a b : Prop} (h1 : c → a) (h2 : ¬ c → b) : (if c then a else b) := by
  by_cases h : c
  · rw [if_pos h]; exact h1 h
  · rw [if_neg h]; exact h2 h
end DL

/-! WG: data that can be shown and compared. -/
namespace DL
open PySem PySem.Spec L2
/-- depth at most n, a text of at most b signs -/
inductive GD : Nat → Nat → D → Prop
  | non {n b : Nat} : 10 ≤ b → GD n b .non
  | bl {n b : Nat} (v : Bool) : 10 ≤ b → GD n b (.bl v)
  | int {n b : Nat} {x : Int} : -(2 ^ 250) < x ∧ x < 2 ^ 250 → 260 ≤ b → GD n b (.int x)
  | str {n b : Nat} {w : Str} : PyData.strOk w = true → (PyData.shown (.str w)).length ≤ b → PyData.strOk (PyData.shown (.str w)) = true → GD n b (.str w)
  | lst {n b B : Nat} {ds : List D} : (∀ d ∈ ds, GD n b d) → ds.length * (b + 2) + 10 ≤ B → GD (n + 1) B (.lst ds)
  | tup {n b B : Nat} {ds : List D} : (∀ d ∈ ds, GD n b d) → ds.length * (b + 2) + 10 ≤ B → GD (n + 1) B (.tup ds)
/-- what is known of a good one -/
structure GP (n b : Nat) (d : D) (p : PyData) : Prop where
  py : toPy d = some p
  res : ∀ δ, res δ d = d
  lay : p.canLay0 = true
  dep : p.depth ≤ n
  shw : p.showable = true
  nod : p.hasDict = false
  len : p.shown.length ≤ b
  sok : PyData.strOk p.shown = true
theorem join_len {B : Nat} : ∀ {ts : List Str}, (∀ t ∈ ts, t.length ≤ B) → (Str.join ", " ts).length ≤ ts.length * (B + 2)
  | [], _ => by show (Str.empty).length ≤ _; simp [Str.empty, Str.length]
  | [x], h => by
    have := h x List.mem_cons_self
    show x.length ≤ 1 * (B + 2)
    omega
  | x :: y :: r, h => by
    have h1 := h x List.mem_cons_self
    have h2 := join_len (ts := y :: r) fun t ht => h t (List.mem_cons_of_mem _ ht)
    have h3 : (Str.ofString ", ").length = 2 := by rw [PySem.ofString_length]; rfl
    show (x ++ ", " ++ Str.join ", " (y :: r)).length ≤ _
    rw [Str.length_append, Str.length_append, h3, List.length_cons (a := x), Nat.add_mul]
    omega
theorem join_ok : ∀ {ts : List Str}, (∀ t ∈ ts, PyData.strOk t = true) → PyData.strOk (Str.join ", " ts) = true
  | [], _ => by simp [Str.join, Str.empty, PyData.strOk]
  | [x], h => h x List.mem_cons_self
  | x :: y :: r, h => sok_append (sok_append (h x List.mem_cons_self) (sok_of _)) (join_ok (ts := y :: r) fun t ht => h t (List.mem_cons_of_mem _ ht))
theorem tuple_text_len {ts : List Str} {B : Nat} (h : ∀ t ∈ ts, t.length ≤ B) : (tupleText ts).length ≤ ts.length * (B + 2) + 10 := by
  have h0 := join_len h
  have h1 : (Str.ofString "(").length = 1 := by rw [PySem.ofString_length]; rfl
  have h2 : (Str.ofString (if ts.length == 1 then ",)" else ")")).length ≤ 2 := by
    rw [PySem.ofString_length]
    split <;> decide
  unfold tupleText
  rw [Str.length_append, Str.length_append]
  omega
theorem tuple_text_ok {ts : List Str} (h : ∀ t ∈ ts, PyData.strOk t = true) : PyData.strOk (tupleText ts) = true := by
  unfold tupleText
  exact sok_append (sok_append (sok_of _) (join_ok h)) (sok_of _)
theorem gp_all {n b : Nat} : ∀ {ds : List D}, (∀ d ∈ ds, ∃ p, GP n b d p) → ∃ ps, toPyA ds = some ps ∧ (∀ δ, resA δ ds = ds) ∧ PyData.canLayAll0 ps = true ∧ PyData.depthAll ps ≤ n ∧ PyData.showableAll ps = true ∧ PyData.hasDictAll ps = false ∧ (PyData.shownAll ps).length = ds.length ∧ (∀ t ∈ PyData.shownAll ps, t.length ≤ b ∧ PyData.strOk t = true)
  | [], _ => ⟨[], rfl, fun _ => rfl, rfl, Nat.zero_le _, rfl, rfl, rfl, fun t h => nomatch h⟩
  | d :: ds, h => by
    obtain ⟨p, g⟩ := h d List.mem_cons_self
    obtain ⟨ps, e1, e2, e3, e4, e5, e6, e7, e8⟩ := gp_all (ds := ds) fun x hx => h x (List.mem_cons_of_mem _ hx)
    refine ⟨p :: ps, by simp only [toPyA, g.py, e1], fun δ => by simp only [resA, g.res, e2], by simp only [PyData.canLayAll0, g.lay, e3, Bool.and_self], ?_, by simp only [PyData.showableAll, g.shw, e5, Bool.and_self], by simp only [PyData.hasDictAll, g.nod, e6, Bool.or_self], ?_, fun t ht => ?_⟩
    · have := g.dep
      simp only [PyData.depthAll]
      omega
    · simp only [PyData.shownAll, List.length_cons, e7]
    · simp only [PyData.shownAll] at ht
      rcases List.mem_cons.mp ht with rfl | ht
      · exact ⟨g.len, g.sok⟩
      · exact e8 t ht
theorem GD.gp {n b : Nat} {d : D} (h : GD n b d) : ∃ p, GP n b d p := by
  induction h with
  | @non n b h => exact ⟨.none, rfl, fun _ => rfl, rfl, Nat.zero_le _, rfl, rfl, by
      have : (PyData.shown .none).length = 4 := by
        unfold PyData.shown
        show (Str.ofString "None").length = 4
        rw [PySem.ofString_length]; rfl
      omega, by unfold PyData.shown; exact sok_of _⟩
  | @bl n b v h => exact ⟨.bool v, rfl, fun _ => rfl, rfl, Nat.zero_le _, rfl, rfl, by
      have : (PyData.shown (.bool v)).length ≤ 5 := by
        unfold PyData.shown
        cases v
        · show (Str.ofString "False").length ≤ 5
          rw [PySem.ofString_length]; decide
        · show (Str.ofString "True").length ≤ 5
          rw [PySem.ofString_length]; decide
      omega, by
        unfold PyData.shown
        cases v <;> exact sok_of _⟩
  | @int n b x h hb =>
    have h1 : x.natAbs.log2 < 250 := log2_le (by omega) (by decide)
    refine ⟨.int x, rfl, fun _ => rfl, rfl, Nat.zero_le _, ?_, rfl, Nat.le_trans (int_shown x h) (by omega), shI_ok x⟩
    show decide (x.natAbs.log2 < 1920) = true
    exact decide_eq_true (by omega)
  | @str n b w h1 h2 h3 => exact ⟨.str w, rfl, fun _ => rfl, h1, Nat.zero_le _, rfl, rfl, h2, h3⟩
  | @lst n b B ds _ hB ih =>
    obtain ⟨ps, e1, e2, e3, e4, e5, e6, e7, e8⟩ := gp_all ih
    refine ⟨.list ps, by simp only [toPy, e1, Option.map_some], fun δ => by simp only [DL.res, e2], by simp only [PyData.canLay0, e3], by simp only [PyData.depth]; omega, by simp only [PyData.showable, e5], by simp only [PyData.hasDict, e6], ?_, ?_⟩
    · unfold PyData.shown listText
      have h0 := text_len (PyData.shownAll ps) 0 "[" b fun t ht => (e8 t ht).1
      have h2 : (Str.ofString "[").length = 1 := by rw [PySem.ofString_length]; rfl
      have h3 : (Str.ofString "]").length = 1 := by rw [PySem.ofString_length]; rfl
      rw [e7] at h0
      rw [Str.length_append]
      omega
    · unfold PyData.shown listText
      exact sok_append (text_ok _ _ _ (sok_of _) fun t ht => (e8 t ht).2) (sok_of _)
  | @tup n b B ds _ hB ih =>
    obtain ⟨ps, e1, e2, e3, e4, e5, e6, e7, e8⟩ := gp_all ih
    refine ⟨.tuple ps, by simp only [toPy, e1, Option.map_some], fun δ => by simp only [DL.res, e2], by simp only [PyData.canLay0, e3], by simp only [PyData.depth]; omega, by simp only [PyData.showable, e5], by simp only [PyData.hasDict, e6], ?_, ?_⟩
    · unfold PyData.shown
      have h0 := tuple_text_len (ts := PyData.shownAll ps) (B := b) fun t ht => (e8 t ht).1
      rw [e7] at h0
      omega
    · unfold PyData.shown
      exact tuple_text_ok fun t ht => (e8 t ht).2
theorem GD.mono {n b n' b' : Nat} {d : D} (h : GD n b d) (hn : n ≤ n') (hb : b ≤ b') : GD n' b' d := by
  induction h generalizing n' b' with
  | non h => exact .non (by omega)
  | bl v h => exact .bl v (by omega)
  | int h h2 => exact .int h (by omega)
  | str h1 h2 h3 => exact .str h1 (by omega) h3
  | lst h hB ih =>
    obtain ⟨m, rfl⟩ : ∃ m, n' = m + 1 := ⟨n' - 1, by omega⟩
    exact .lst (fun d hd => ih d hd (by omega) (Nat.le_refl _)) (by omega)
  | tup h hB ih =>
    obtain ⟨m, rfl⟩ : ∃ m, n' = m + 1 := ⟨n' - 1, by omega⟩
    exact .tup (fun d hd => ih d hd (by omega) (Nat.le_refl _)) (by omega)
/-- good data -/
def Good (d : D) : Prop := ∃ n b, n ≤ 64 ∧ b ≤ 16777216 ∧ GD n b d
def shD (d : D) : Str := match toPy d with | some p => p.shown | none => ""
variable {d : D} {δ : FS}
theorem Good.repr (h : Good d) : reprD δ [d] = .ok (.str (shD d)) δ := by
  obtain ⟨n, b, hn, hb, g⟩ := h
  obtain ⟨p, g⟩ := g.gp
  have h1 : decide (p.depth ≤ 64) = true := decide_eq_true (Nat.le_trans g.dep hn)
  have h2 : decide (p.shown.length ≤ 16777216) = true := decide_eq_true (Nat.le_trans g.len hb)
  rw [repr_d]
  unfold reprC shD
  simp only [g.res, g.py, g.shw, g.nod, h1, h2, Bool.not_false, Bool.and_self, if_true]
theorem Good.reprX (h : Good d) : reprX d δ = .ok (.str (shD d)) δ := by
  obtain ⟨n, b, hn, hb, g⟩ := h
  obtain ⟨p, g⟩ := g.gp
  have h1 : decide (p.depth ≤ 64) = true := decide_eq_true (Nat.le_trans g.dep hn)
  have h2 : decide (p.shown.length ≤ 16777216) = true := decide_eq_true (Nat.le_trans g.len hb)
  unfold DL.reprX shD
  simp only [g.py, g.shw, g.nod, h1, h2, Bool.not_false, Bool.and_self, if_true]
theorem Good.sok (h : Good d) : PyData.strOk (shD d) = true := by
  obtain ⟨n, b, hn, hb, g⟩ := h
  obtain ⟨p, g⟩ := g.gp
  unfold shD
  rw [g.py]
  exact g.sok
theorem eqv_str {a b : Str} (ha : PyData.strOk a = true) (hb : PyData.strOk b = true) : eqvD δ (.str a) (.str b) = some (a == b) := by
  unfold eqvD
  simp only [res, toPy, SeqAt.shaped, PyData.canLay0, ha, hb, PyData.depth, Bool.true_and, PyData.eqv]
  rfl
theorem eq_str {a b : Str} (ha : PyData.strOk a = true) (hb : PyData.strOk b = true) : eqD δ (.str a) (.str b) = .ok (.bl (a == b)) δ := by
  unfold eqD; rw [eqv_str ha hb]
theorem Good.ne_sh (h : Good d) : neD δ (.str (shD d)) (.str (shD d)) = .ok (.bl false) δ := by
  rw [ne_str h.sok h.sok]; simp
theorem Good.eq_sh (h : Good d) : eqD δ (.str (shD d)) (.str (shD d)) = .ok (.bl true) δ := by
  rw [eq_str h.sok h.sok]; simp
mutual
theorem eqv_refl : ∀ p : PyData, p.canLay0 = true → PyData.eqv p p = true
  | .none, _ => by simp only [PyData.eqv]
  | .bool b, _ => by cases b <;> simp [PyData.eqv]
  | .int i, _ => by simp [PyData.eqv]
  | .str x, _ => by simp [PyData.eqv]
  | .list xs, h => by
    simp only [PyData.eqv]
    exact eqvAll_refl xs (by simpa only [PyData.canLay0] using h)
  | .tuple xs, h => by
    simp only [PyData.eqv]
    exact eqvAll_refl xs (by simpa only [PyData.canLay0] using h)
  | .dict kvs, h => by simp only [PyData.canLay0] at h; exact absurd h (by decide)
theorem eqvAll_refl : ∀ ps : List PyData, PyData.canLayAll0 ps = true → PyData.eqvAll ps ps = true
  | [], _ => by simp only [PyData.eqvAll]
  | p :: ps, h => by
    simp only [PyData.canLayAll0, Bool.and_eq_true] at h
    simp only [PyData.eqvAll, eqv_refl p h.1, eqvAll_refl ps h.2, Bool.and_self]
end
def eqR (a b : D) (δ : FS) : RE := match (match toPy a, toPy b with
  | some p, some q => if SeqAt.shaped p && SeqAt.shaped q then some (PyData.eqv p q) else none
  | _, _ => none) with | some c => .ok (.bl c) δ | none => .bad
def neR (a b : D) (δ : FS) : RE := match (match toPy a, toPy b with
  | some p, some q => if SeqAt.shaped p && SeqAt.shaped q then some (PyData.eqv p q) else none
  | _, _ => none) with | some c => .ok (.bl (!c)) δ | none => .bad
variable {e : D} {i j : Nat} {l r : List Int}
theorem eq_R : eqD δ d e = eqR (res δ d) (res δ e) δ := rfl
theorem ne_R : neD δ d e = neR (res δ d) (res δ e) δ := rfl
theorem res_v : res δ (.var i) = cellOf δ[i]? i := by rw [← top_v]; simp only [res]
theorem eq_v1 : eqD δ (.var i) e = eqR (cellOf δ[i]? i) (res δ e) δ := by rw [eq_R, res_v]
theorem ne_v1 : neD δ (.var i) e = neR (cellOf δ[i]? i) (res δ e) δ := by rw [ne_R, res_v]
theorem eq_v2 : eqD δ d (.var i) = eqR (res δ d) (cellOf δ[i]? i) δ := by rw [eq_R, res_v]
theorem ne_v2 : neD δ d (.var i) = neR (res δ d) (cellOf δ[i]? i) δ := by rw [ne_R, res_v]
theorem res_LI : res δ (LI l) = LI l := by simp only [LI, res, resA_ints]
theorem res_nil : res δ (.lst []) = .lst [] := by simp only [res, resA]
theorem res_non : res δ .non = .non := rfl
theorem res_int {x : Int} : res δ (.int x) = .int x := rfl
theorem res_str {w : Str} : res δ (.str w) = .str w := rfl
theorem Good.res (h : Good d) : res δ d = d := by
  obtain ⟨n, b, hn, hb, g⟩ := h
  obtain ⟨p, g⟩ := g.gp
  exact g.res δ
theorem eqR_li : eqR (LI l) (LI r) δ = .ok (.bl (decide (l = r))) δ := by
  have := eq_li (δ := δ) (a := l) (b := r)
  rw [eq_R, res_LI, res_LI] at this
  exact this
theorem neR_li : neR (LI l) (LI r) δ = .ok (.bl (!decide (l = r))) δ := by
  have := ne_li (δ := δ) (a := l) (b := r)
  rw [ne_R, res_LI, res_LI] at this
  exact this
theorem eqR_nil : eqR (.lst (l.map .int)) (.lst []) δ = .ok (.bl l.isEmpty) δ := by
  have := eqR_li (δ := δ) (l := l) (r := [])
  refine this.trans ?_
  cases l <;> rfl
theorem neR_nil : neR (.lst (l.map .int)) (.lst []) δ = .ok (.bl (!l.isEmpty)) δ := by
  have := neR_li (δ := δ) (l := l) (r := [])
  refine this.trans ?_
  cases l <;> rfl
/-- a list of places -/
abbrev LN (l : List Nat) : D := .lst (l.map fun n : Nat => D.int (n : Int))
theorem ln_li {l : List Nat} : LN l = LI (l.map fun n : Nat => (n : Int)) := by rw [LN, LI, List.map_map]; rfl
theorem eqR_nilN {l : List Nat} : eqR (.lst (l.map fun n : Nat => D.int (n : Int))) (.lst []) δ = .ok (.bl l.isEmpty) δ := by
  have := eqR_nil (δ := δ) (l := l.map fun n : Nat => (n : Int))
  rw [List.map_map] at this
  refine this.trans ?_
  cases l <;> rfl
theorem neR_nilN {l : List Nat} : neR (.lst (l.map fun n : Nat => D.int (n : Int))) (.lst []) δ = .ok (.bl (!l.isEmpty)) δ := by
  have := neR_nil (δ := δ) (l := l.map fun n : Nat => (n : Int))
  rw [List.map_map] at this
  refine this.trans ?_
  cases l <;> rfl
theorem ln_snoc {l : List Nat} {d : Nat} : l.map (fun n : Nat => D.int (n : Int)) ++ [D.int (d : Int)] = (l ++ [d]).map (fun n : Nat => D.int (n : Int)) := by rw [List.map_append]; rfl
theorem Good.eqR (h : Good d) : DL.eqR d d δ = .ok (.bl true) δ := by
  obtain ⟨n, b, hn, hb, g⟩ := h
  obtain ⟨p, g⟩ := g.gp
  have hs : SeqAt.shaped p = true := by
    unfold SeqAt.shaped
    rw [g.lay, decide_eq_true (Nat.le_trans g.dep hn)]
    rfl
  unfold DL.eqR
  simp only [g.py, hs, Bool.and_self, if_true, eqv_refl p g.lay]
theorem Good.neR (h : Good d) : DL.neR d d δ = .ok (.bl false) δ := by
  obtain ⟨n, b, hn, hb, g⟩ := h
  obtain ⟨p, g⟩ := g.gp
  have hs : SeqAt.shaped p = true := by
    unfold SeqAt.shaped
    rw [g.lay, decide_eq_true (Nat.le_trans g.dep hn)]
    rfl
  unfold DL.neR
  simp only [g.py, hs, Bool.and_self, if_true, eqv_refl p g.lay, Bool.not_true]
theorem Good.eq_ (h : Good d) : eqD δ d d = .ok (.bl true) δ := by rw [eq_R, h.res, h.eqR]
theorem Good.ne_ (h : Good d) : neD δ d d = .ok (.bl false) δ := by rw [ne_R, h.res, h.neR]
/-! slices -/
theorem cut_take {α : Type} {enc : α → D} {l : List α} {k : Int} {p : Nat} (h : k = p) (h2 : p ≤ l.length) : cutD (l.map enc) none (some k) = (l.take p).map enc := by
  unfold cutD
  rw [h, List.length_map, sIx_nat']
  rw [show HT.sIx l.length 0 none = 0 from rfl, List.drop_zero, ← List.map_take, show min p l.length - 0 = p by omega]
theorem cut_drop {α : Type} {enc : α → D} {l : List α} {k : Int} {p : Nat} (h : k = p) (h2 : p ≤ l.length) : cutD (l.map enc) (some k) none = (l.drop p).map enc := by
  unfold cutD
  rw [h, List.length_map, sIx_nat']
  rw [show HT.sIx l.length l.length none = l.length from rfl, ← List.map_drop, List.take_of_length_le (by rw [List.length_map, List.length_drop]; omega), show min p l.length = p by omega]
theorem cut_mid {α : Type} {enc : α → D} {l : List α} {a b : Int} {p q : Nat} (h : a = p) (h1 : b = q) (h2 : q ≤ l.length) (h3 : p ≤ q) : cutD (l.map enc) (some a) (some b) = ((l.drop p).take (q - p)).map enc := by
  unfold cutD
  rw [h, h1, List.length_map, sIx_nat', sIx_nat', ← List.map_drop, ← List.map_take, show min p l.length = p by omega, show min q l.length - p = q - p by omega]
/-! frames -/
theorem ex_fz {d : D} : (∃ o : Option D, some (SV.fz d) = o.map SV.fz) = True := eq_true ⟨some d, rfl⟩
theorem ex_map {o : Option D} : (∃ o' : Option D, o.map SV.fz = o'.map SV.fz) = True := eq_true ⟨o, rfl⟩
theorem ex_no : (∃ o : Option D, (none : Option SV) = o.map SV.fz) = True := eq_true ⟨none, rfl⟩
/-- a slot that may be taken -/
def Fs (s : Option SV) : Prop := frS (some s) = true
theorem fs_none : Fs none = True := eq_true rfl
theorem fs_mu {d : D} : Fs (some (.cl .mu d)) = True := eq_true rfl
theorem fs_ro {d : D} : Fs (some (.cl .ro d)) = True := eq_true rfl
theorem fs_fz {d : D} : Fs (some (.fz d)) = True := eq_true rfl
theorem ex_sl {s : Option SV} (h : Fs s) : (∃ s', Fs s' ∧ s = s') = True := eq_true ⟨s, h, rfl⟩
theorem ex_mu {d : D} : (∃ s', Fs s' ∧ some (SV.cl .mu d) = s') = True := eq_true ⟨some (SV.cl .mu d), (rfl : frS _ = true), rfl⟩
theorem ex_ro {d : D} : (∃ s', Fs s' ∧ some (SV.cl .ro d) = s') = True := eq_true ⟨some (SV.cl .ro d), (rfl : frS _ = true), rfl⟩
theorem ex_nn : (∃ s', Fs s' ∧ none = s') = True := eq_true ⟨none, (rfl : frS _ = true), rfl⟩
theorem ex_cf {d : D} : (∃ s', Fs s' ∧ some (SV.fz d) = s') = True := eq_true ⟨some (SV.fz d), (rfl : frS _ = true), rfl⟩
section
variable {P : Prop}
theorem ex_P2 {s : Option SV} (h : Fs s) : (∃ s', Fs s' ∧ P ∧ s = s') = P := propext ⟨fun ⟨_, _, p, _⟩ => p, fun p => ⟨s, h, p, rfl⟩⟩
theorem ex_P3 {s : Option SV} (h : Fs s) : (∃ s', Fs s' ∧ s = s' ∧ P) = P := propext ⟨fun ⟨_, _, _, p⟩ => p, fun p => ⟨s, h, rfl, p⟩⟩
theorem ex_mu2 {d : D} : (∃ s', Fs s' ∧ P ∧ some (SV.cl .mu d) = s') = P := ex_P2 (rfl : frS _ = true)
theorem ex_mu3 {d : D} : (∃ s', Fs s' ∧ some (SV.cl .mu d) = s' ∧ P) = P := ex_P3 (rfl : frS _ = true)
theorem ex_ro2 {d : D} : (∃ s', Fs s' ∧ P ∧ some (SV.cl .ro d) = s') = P := ex_P2 (rfl : frS _ = true)
theorem ex_ro3 {d : D} : (∃ s', Fs s' ∧ some (SV.cl .ro d) = s' ∧ P) = P := ex_P3 (rfl : frS _ = true)
theorem ex_cf2 {d : D} : (∃ s', Fs s' ∧ P ∧ some (SV.fz d) = s') = P := ex_P2 (rfl : frS _ = true)
theorem ex_cf3 {d : D} : (∃ s', Fs s' ∧ some (SV.fz d) = s' ∧ P) = P := ex_P3 (rfl : frS _ = true)
theorem ex_nn2 : (∃ s', Fs s' ∧ P ∧ none = s') = P := ex_P2 (rfl : frS _ = true)
theorem ex_nn3 : (∃ s', Fs s' ∧ none = s' ∧ P) = P := ex_P3 (rfl : frS _ = true)
end
theorem frS_Fs {s : Option SV} (h : Fs s) : frS (some s) = true := h
theorem max_m {x y : Int} : max2D δ [.int x, .int y] = .ok (.int (max x y)) δ := by
  show RE.ok (.int (if y > x then y else x)) δ = _
  congr 2
  split <;> omega
theorem min_m {x y : Int} : min2D δ [.int x, .int y] = .ok (.int (min x y)) δ := by
  show RE.ok (.int (if y < x then y else x)) δ = _
  congr 2
  split <;> omega
theorem abs_m {x : Int} : absD δ [.int x] = .ok (.int (x.natAbs : Int)) δ := by
  show RE.ok (.int (if x < 0 then -x else x)) δ = _
  congr 2
  split <;> omega
/-! what is good -/
theorem good_int {x : Int} (h : -(2 ^ 250) < x ∧ x < 2 ^ 250) : Good (.int x) := ⟨0, 260, by decide, by decide, .int h (Nat.le_refl _)⟩
theorem good_non : Good .non := ⟨0, 10, by decide, by decide, .non (Nat.le_refl _)⟩
theorem good_bl {v : Bool} : Good (.bl v) := ⟨0, 10, by decide, by decide, .bl v (Nat.le_refl _)⟩
theorem gd_LI (h : ∀ x ∈ l, -(2 ^ 250) < x ∧ x < 2 ^ 250) {B : Nat} (hl : l.length * 262 + 10 ≤ B) : GD 1 B (LI l) := .lst (b := 260) (fun d hd => by
  obtain ⟨x, hx, rfl⟩ := List.mem_map.mp hd
  exact .int (h x hx) (Nat.le_refl _)) (by rw [List.length_map]; omega)
theorem good_LI (h : ∀ x ∈ l, -(2 ^ 250) < x ∧ x < 2 ^ 250) (hl : l.length ≤ 10000) : Good (LI l) := ⟨1, _, by decide, by omega, gd_LI h (Nat.le_refl _)⟩
theorem good_LN {l : List Nat} (h : ∀ x ∈ l, x < 2 ^ 250) (hl : l.length ≤ 10000) : Good (LN l) := by
  rw [ln_li]
  refine good_LI (l := l.map fun n : Nat => (n : Int)) (fun y hy => ?_) (by rw [List.length_map]; exact hl)
  obtain ⟨d, hd, rfl⟩ := List.mem_map.mp hy
  have := h d hd
  omega
theorem good_LL {ls : List (List Int)} (h : ∀ l ∈ ls, l.length ≤ 100 ∧ ∀ x ∈ l, -(2 ^ 250) < x ∧ x < 2 ^ 250) (hl : ls.length ≤ 600) : Good (.lst (ls.map LI)) := ⟨2, 600 * (26210 + 2) + 10, by decide, by decide, .lst (b := 26210) (fun d hd => by
  obtain ⟨x, hx, rfl⟩ := List.mem_map.mp hd
  have := (h x hx).1
  exact gd_LI (h x hx).2 (by omega)) (by rw [List.length_map]; omega)⟩
/-- few good atoms -/
theorem good_tup {ds : List D} (h : ∀ d ∈ ds, GD 3 100000 d) (hl : ds.length ≤ 100) : Good (.tup ds) := ⟨4, _, by decide, by omega, .tup h (Nat.le_refl _)⟩
theorem good_lst {ds : List D} (h : ∀ d ∈ ds, GD 3 100000 d) (hl : ds.length ≤ 100) : Good (.lst ds) := ⟨4, _, by decide, by omega, .lst h (Nat.le_refl _)⟩
end DL

/-! WN: more rules of the machine. -/
/-! a word that stands in a tuple of words, or not -/
namespace DL
open PySem PySem.Spec PyProof.Rows L2
def strsOf : List D → Option (List Str)
  | [] => some []
  | .str s :: r => (strsOf r).map (s :: ·)
  | _ :: _ => none
def ninT (δ : FS) (a b : D) : RE := match top δ a, top δ b with
  | .str s, .tup ds => (match strsOf ds with | some ss => .ok (.bl (!L2.inV (.str s) (ss.map V.str))) δ | none => .bad)
  | _, _ => .bad
section
variable [KL] {L : List Nat} {k : Kd} {K : PySem.W.Frag}
theorem strs_rep {H : Hp} {C : Nat → Option Addr} {M : Addr → Prop} : ∀ {ds : List D} {vs : List V} {ss : List Str}, RepAll H C M vs ds → strsOf ds = some ss → vs = ss.map V.str
  | [], _, _, r, e => by
    cases r
    cases e
    rfl
  | d :: ds, _, _, r, e => by
    cases r with
    | cons r s =>
      cases d with
      | str x =>
        cases q : strsOf ds with
        | none => unfold strsOf at e; rw [q] at e; cases e
        | some ss =>
          unfold strsOf at e
          rw [q] at e
          cases e
          cases r
          rw [strs_rep s q]
          rfl
      | _ => cases e
theorem ninT_ok : OpD L .any .any k (rIn K true) ninT := by
  intro W F δ σ H Q x y a b R ra ka rb kb P
  unfold ninT at P
  split at P
  · rename_i s ds ea eb
    split at P
    · rename_i ss es
      obtain ⟨p, us, rfl, h1, r1, _⟩ := R.tup rb (k := .any) trivial eb
      have := strs_rep r1 es
      subst this
      rw [R.str ra ea]
      exact ⟨p, _, rfl, .inr (.inl h1), rfl, by rw [List.all_map]; exact List.all_eq_true.mpr fun _ _ => rfl, EPost.give P R (.bl _) (KOk.mk R fun _ => .bl _)⟩
    · exact P.elim
  · exact P.elim
end
end DL
/-! a def that is never asked -/
namespace DL
open PySem PySem.Spec PyProof.Rows L2
theorem fnG_bad [KL] {P : Program} {w : World} {K : PySem.W.Frag} {mg : Str → Option Value} {base : Heap} {k : Nat} {f : Addr} {fd : FuncData} {ps : List Str} {b : Nat} : FnG P w K mg base k f fd ps b (fun _ => .bad) :=
  ⟨fun A outer s H args us vs Q E room en bnd rv sp => by
    obtain ⟨vl, fr, ds, eH, eb, rel, post⟩ := sp
    exact post.elim⟩
end DL
/-! int.bit_length; isinstance with two types -/
namespace DL
open PySem PySem.Spec PyProof.Rows L2
def bitD (δ : FS) (d : D) : RE := match top δ d with
  | .int i => .ok (.int (Builtin.Int.intBits i : Nat)) δ
  | _ => .bad
def gBits (g : GE) : GE := fun δ => (g δ).bind fun d δ1 => bitD δ1 d
def isa2 (T U : Ty) (d : D) (δ : FS) : RE := match isa T (top δ d), isa U (top δ d), tyOf (top δ d) with
  | some a, some b, some _ => .ok (.bl (a || b)) δ
  | _, _, _ => .bad
def gIsi2 (T U : Ty) (g : GE) : GE := fun δ => (g δ).bind fun d δ1 => isa2 T U d δ1
section
variable [KL] {X : Cx} {W : WO} {L : List Nat} {k : Kd} {e : Expr} {te : TE} {ge : GE} {K : PySem.W.Frag} {p p2 pos apos : Pos}
theorem e_bits (he : DE X W L .any e te ge) (hbase : attributeBase e "bit_length" X.env (eval e X.env) = eval e X.env := by rfl) (hline : (apos.endLine == pos.line) = true := by rfl) :
    DE X W L k (.Call (.Attribute e "bit_length" apos) [] [] pos) (tBits te) (gBits ge) :=
  ⟨pe_bits he.pe hbase hline, fun F δ σ H Q R P => he.ev.seq R P fun d δ1 v H1 G P1 => by
    unfold bitD at P1
    split at P1
    · rename_i i e
      exact ⟨i, G.R.int G.r e, EPost.give P1 G.R (.int _) (KOk.mk G.R fun _ => .int _)⟩
    · exact P1.elim⟩
theorem e_isi2 (kl : KLOk K) {q1 q2 : Pos} {x1 : Nat} {x y : Str} {T U : Ty} (hg : Gl X "isinstance") (hm : X.mg "isinstance" = none) (hgT : Gl X x) (hmT : X.mg x = none) (hv : bootBuiltins x = some (.type T.name)) (hgU : Gl X y) (hmU : X.mg y = none) (hvU : bootBuiltins y = some (.type U.name)) (he : DE X W L .any e te ge)
    (hnT : x ≠ "__name__" := by decide) (hdT : (x == ("__debug__" : Str)) = false := by decide) (hnU : y ≠ "__name__" := by decide) (hdU : (y == ("__debug__" : Str)) = false := by decide)
    (hs : starEach [e, .Tuple [.Name x q1, .Name y q2] x1 p] X.env = (false, eval e X.env) :: starEach [.Tuple [.Name x q1, .Name y q2] x1 p] X.env := by rfl)
    (hs2 : starEach [.Tuple [.Name x q1, .Name y q2] x1 p] X.env = (false, eval (.Tuple [.Name x q1, .Name y q2] x1 p) X.env) :: starEach [] X.env := by rfl)
    (hs3 : starEach [.Name x q1, .Name y q2] X.env = (false, eval (.Name x q1) X.env) :: starEach [.Name y q2] X.env := by rfl)
    (hs4 : starEach [.Name y q2] X.env = (false, eval (.Name y q2) X.env) :: starEach [] X.env := by rfl)
    (hpl : (backTo pos (starEach [.Tuple [.Name x q1, .Name y q2] x1 p] X.env)).any (·.1) = false := by rfl) (hK : X.K = K := by rfl) :
    DE X W L k (.Call (.Name "isinstance" p2) [e, .Tuple [.Name x q1, .Name y q2] x1 p] [] pos) (tCB (rIsiT K) (tCons te (tCons (tTup (tCons (tC (.ty T.name)) (tCons (tC (.ty U.name)) tNil))) tNil))) (gIsi2 T U ge) := by
  subst hK
  haveI := kl
  exact
  ⟨pe_callB call_isiT hg hm (by decide +kernel) (pa_cons he.pe (pa_cons (pe_tup (pa_cons (pe_bltn hgT hmT hv rfl hnT hdT) (pa_cons (pe_bltn hgU hmU hvU rfl hnU hdU) pa_nil hs4) hs3)) pa_nil hs2) hs) (by decide) (by decide) hs hpl, fun F δ σ H Q R P => he.ev.seq R P fun d δ1 v H1 G P1 => by
    unfold isa2 at P1
    split at P1
    · rename_i a b t0 ea eb et0
      have hx : ∀ n fs, top δ1 d ≠ .exc n fs := fun n fs q => by rw [q] at et0; cases et0
      obtain ⟨t, et, ek⟩ := isa_ok hx ea
      obtain ⟨t2, et2, ek2⟩ := isa_ok hx eb
      rw [et] at et2
      cases et2
      refine ⟨by rw [sizeLine_eq, List.length_cons, List.length_singleton]; decide, fun p hp => ⟨v, p, _, _, _, a || b, rfl, upd_same, .cons (.ty _) (.cons (.ty _) .nil), tyx_of (G.R.laid hp) (rep_upd hp G.r) et, ?_, P1 _ _ (G.R.laid hp) (Stp.refl.laid hp) (.bl _) (KOk.mk G.R fun _ => .bl _)⟩⟩
      refine kitAny_cons (kit_ty ek) (fun za => ?_) (fun za => by rw [za]; rfl)
      refine kitAny_cons (kit_ty ek2) (fun zb => ?_) (fun zb => by rw [zb]; cases a <;> rfl)
      rw [za, zb]
      exact kitAny_nil
    · exact P1.elim⟩
end
end DL
/-! how many different whole numbers a list holds -/
namespace DL
open PySem PySem.Spec PyProof.Rows L2
def metN (ns : List Int) : List Int := firstMet (fun i => ns.getD i 0) ns.length
def tLenMet (K : PySem.W.Frag) (ta : TE) : TE := fun σ H Q =>
  ta σ H fun x H1 => ∃ (b : Addr) (ns : List Int),
    x = .ref b ∧ SqL K H1 b (ns.map V.int) ∧ ns.length ≤ 4000 ∧
    Q (.int ((metN ns).length : Nat)) H1
theorem pe_lenMet {X : Cx} {e0 : Expr} {ta : TE} {u1 u2 u3 u4 : Pos}
    (gl : Gl X "len") (ml : X.mg "len" = none)
    (gs : Gl X "set") (ms : X.mg "set" = none)
    (pe : PE X e0 ta) (calm : X.calm = true := by rfl)
    (one : starEach [e0] X.env = (false, eval e0 X.env) :: starEach [] X.env := by rfl) :
    PE X (.Call (.Name "len" u1) [.Call (.Name "set" u2) [e0] [] u3] [] u4) (tLenMet X.K ta) := by
  refine ⟨fun pins s σ H Q inv want => Call_ (ld_blt inv gl ml boot_len ?_)⟩
  refine callWith_builtin1 (args_cons ?_ rfl) rfl rfl
  refine Call_ (ld_blt inv gs ms boot_set ?_)
  refine callWith_type1 (args_cons (thn (pe.run pins s σ H _ inv want) fun v s1 ⟨x, H1, inv1, rv, q1⟩ => args_nil ?_) one) one rfl
  obtain ⟨b, ns, rfl, sq, le, q2⟩ := q1
  cases rv
  obtain ⟨us, vs, pl, _⟩ := inv1.list sq
  have size : us.toArray.size = ns.length := by
    rw [List.size_toArray]
    exact (vs.length).symm.trans (List.length_map _)
  have few := firstMet_length_le (fun i => ns.getD i 0) ns.length
  refine call_set_list (inv1.ok.hd calm) pl.isList
    (by simpa using RZ.intsAre_vals vs) (by rw [size]; unfold scanBound; omega)
    fun h2 k2 made kept => args_nil ?_
  rw [size] at made
  obtain ⟨o, es, ep, t, ho, hex, hd, _, _, _, hf, hn⟩ := made
  have inv2 : Inv X pins σ H1 { s1 with heap := h2, toks := k2 } :=
    inv1.kept fun c u z => kept c u (Heap.lt_size z) z
  refine call_len_set ho hex hd hf ?_ ⟨.int ((metN ns).length : Nat), H1, inv2.tok _, ⟨_, by rw [hn]; rfl⟩, q2⟩
  rw [hn]
  omega
section
variable [KL] {X : Cx} {W : WO} {L : List Nat} {k : Kd} {a : Expr} {ta : TE} {ga : GE} {K : PySem.W.Frag} {p p2 q pos : Pos}
def gLenMet (g : GE) : GE := fun δ => (g δ).bind fun d δ1 => match top δ1 d with
  | .lst xs => (match intsOf xs with
    | some ns => if ns.length ≤ 4000 then .ok (.int ((metN ns).length : Nat)) δ1 else .bad
    | none => .bad)
  | _ => .bad
theorem e_lenMet (hc : X.calm = true) (hg : Gl X "len") (hm : X.mg "len" = none) (hg2 : Gl X "set") (hm2 : X.mg "set" = none) (ha : DE X W L .any a ta ga)
    (na : starEach [a] X.env = (false, eval a X.env) :: starEach [] X.env := by rfl) (hK : X.K = K := by rfl) : DE X W L k (.Call (.Name "len" p) [.Call (.Name "set" p2) [a] [] q] [] pos) (tLenMet K ta) (gLenMet ga) := by
  subst hK
  exact ⟨pe_lenMet hg hm hg2 hm2 ha.pe hc na, fun F δ σ H Q R P => ha.ev.seq R P fun d δ1 v H1 G P1 => by
    split at P1
    · rename_i xs e
      split at P1
      · rename_i ns en
        split at P1
        · rename_i hn
          obtain ⟨l, us, rfl, h1, r1, _⟩ := G.R.lst G.r (k := .any) trivial e
          rw [intsOf_rep r1 en] at h1
          exact ⟨l, ns, rfl, .inl h1, hn, EPost.give P1 G.R (.int _) (KOk.mk G.R fun _ => .int _)⟩
        · exact P1.elim
      · exact P1.elim
    · exact P1.elim⟩
end
end DL
namespace DL
open PySem PySem.Spec PyProof.Rows L2
/-- a, b, .. = a list of that length -/
def gtLst (n : Nat) (r : GTs) : GT := fun d δ => match d with
  | .lst ds => if ds.length = n then r ds δ else none
  | _ => none
theorem gt_lst {n : Nat} {r : GTs} {ds : List D} {δ : FS} : gtLst n r (.lst ds) δ = if ds.length = n then r ds δ else none := rfl
section
variable [KL] {L : List Nat} {X : Cx} {pos : Pos} {K : PySem.W.Frag}
theorem dg_lst {es : List Expr} {kk : Nat} {t : TGs} {g : GTs} {n : Nat} (hc : X.calm = true) (h : DGs X L es t g) (hn : (assignEach es X.env).length = n := by rfl) (hst : (assignEach es X.env).findIdx? (·.1) = none := by rfl) : DG X L (.Tuple es kk pos) (L2.gLst X.K n t) (gtLst n g) :=
  ⟨pg_lst hc h.pg hn hst, fun F δ σ H v d Q R r kd P => by
    unfold gtLst at P
    cases d with
    | lst ds =>
      cases r with
      | lst h1 n1 r1 => cases kd with
        | lst k1 =>
          by_cases z : ds.length = n
          · simp only [if_pos z] at P
            exact ⟨_, _, rfl, .inl h1, by rw [r1.length]; exact z, h.ev F δ σ H _ ds Q R r1 k1 P⟩
          · simp only [if_neg z] at P
    | _ => exact P.elim⟩
theorem g_lst {es : List Expr} {kk : Nat} {t : TGs} {g : GTs} {n : Nat} (hc : X.calm = true) (h : DGs X L es t g) (hn : (assignEach es X.env).length = n := by rfl) (hst : (assignEach es X.env).findIdx? (·.1) = none := by rfl) (hK : X.K = K := by rfl) : DG X L (.Tuple es kk pos) (L2.gLst K n t) (gtLst n g) := by
  subst hK
  exact dg_lst hc h hn hst
end
/-! a cell, or None -/
section
variable [KL] {W : WO} {F : Fr} {L : List Nat} {δ : FS} {σ : St} {H : Hp} {X : Cx} {pos : Pos}
theorem Rel.setN {i : Nat} (R : Rel F L δ σ H) (hf : freeSlot δ i = true) (hL : i ∉ L) : Rel F L (δ.set i (some (.fz .non))) (σ.set i (some .non)) H := by
  have iδ := freeSlot_lt hf
  have iσ : i < σ.length := by rw [← R.len]; exact iδ
  have cs : ∀ {j m c}, j ≠ i → (IsC (δ.set i (some (.fz .non))) j m c ↔ IsC δ j m c) := fun {j m c} q => by
    show (δ.set i _)[j]? = _ ↔ _
    rw [List.getElem?_set_ne (Ne.symm q)]
  have fs : ∀ {j c}, j ≠ i → (IsF (δ.set i (some (.fz .non))) j c ↔ IsF δ j c) := fun {j c} q => by
    show (δ.set i _)[j]? = _ ↔ _
    rw [List.getElem?_set_ne (Ne.symm q)]
  have as : ∀ {j x}, j ≠ i → (At (σ.set i (some V.non)) j x ↔ At σ j x) := fun {j x} q => by
    show (σ.set i _)[j]? = _ ↔ _
    rw [List.getElem?_set_ne (Ne.symm q)]
  have ci : IsF (δ.set i (some (.fz .non))) i .non := List.getElem?_set_self iδ
  have ai : At (σ.set i (some V.non)) i .non := List.getElem?_set_self iσ
  have cn : ∀ {m c}, ¬ IsC (δ.set i (some (.fz .non))) i m c := fun {m c} e => by
    have e := Option.some.inj (Option.some.inj (ci.symm.trans e))
    cases e
  have mM : ∀ a, MA F (δ.set i (some (.fz .non))) (σ.set i (some V.non)) a → MA F δ σ a := fun a h => by
    rcases h with h | ⟨j, m, c, e, n, ea⟩
    · exact .inl h
    · by_cases q : j = i
      · subst q
        exact (cn e).elim
      · exact .inr ⟨j, m, c, (cs q).mp e, n, (as q).mp ea⟩
  have cC : ∀ j ∈ L, ∀ a, cA δ σ j = some a → cA (δ.set i (some (.fz .non))) (σ.set i (some V.non)) j = some a := fun j hj a e => by
    have q : j ≠ i := fun q => hL (q ▸ hj)
    rw [cA_some] at e ⊢
    obtain ⟨⟨m, c, e1⟩, e2⟩ := e
    exact ⟨⟨m, c, (cs q).mpr e1⟩, (as q).mpr e2⟩
  have mono : ∀ {v c}, VOk L c → RepH F δ σ H v c → RepH F (δ.set i (some (.fz .non))) (σ.set i (some V.non)) H v c := fun {v c} kc r =>
    r.monoL (fun _ _ h _ => h) cC (fun a _ n q => n (mM a q)) kc
  have monoO : ∀ {u c}, VOk [] c → ObjD H (cA δ σ) (MA F δ σ) u c → ObjD H (cA (δ.set i (some (.fz .non))) (σ.set i (some V.non))) (MA F (δ.set i (some (.fz .non))) (σ.set i (some V.non))) u c := fun {u c} kc r =>
    r.monoL (L := []) (fun _ _ h _ => h) (fun j hj => absurd hj List.not_mem_nil) (fun a _ n q => n (mM a q)) kc
  refine ⟨by rw [List.length_set, List.length_set]; exact R.len, fun j c e => ?_, fun j c e => ?_, fun j m c e => ?_, fun j m c e => ?_, fun j l m c m' c' a e1 e2 e3 e4 => ?_, R.keep, R.avt, R.bt, fun j a hb => ?_, fun j m c a e hm ea => ?_⟩
  · by_cases q : j = i
    · subst q
      have e := Option.some.inj (Option.some.inj (ci.symm.trans e))
      cases e
      exact ⟨.non, ai, .non⟩
    · obtain ⟨v, ev, r⟩ := R.slot j c ((fs q).mp e)
      exact ⟨v, (as q).mpr ev, mono (R.vok j c ((fs q).mp e)) r⟩
  · by_cases q : j = i
    · subst q
      have e := Option.some.inj (Option.some.inj (ci.symm.trans e))
      cases e
      exact .non
    · exact R.vok j c ((fs q).mp e)
  · by_cases q : j = i
    · subst q
      exact (cn e).elim
    · obtain ⟨a, u, ea, hu, ob', z1, z2⟩ := R.cell j m c ((cs q).mp e)
      exact ⟨a, u, (as q).mpr ea, hu, monoO (R.cok j m c ((cs q).mp e)) ob', z1, z2⟩
  · by_cases q : j = i
    · subst q
      exact (cn e).elim
    · exact R.cok j m c ((cs q).mp e)
  · by_cases q : j = i
    · subst q
      exact (cn e1).elim
    · by_cases q' : l = i
      · subst q'
        exact (cn e2).elim
      · exact R.dist j l m c m' c' a ((cs q).mp e1) ((cs q').mp e2) ((as q).mp e3) ((as q').mp e4)
  · obtain ⟨c, e, ea⟩ := R.bor j a hb
    have q : j ≠ i := fun q => freeSlot_no hf c (q ▸ e)
    exact ⟨c, (cs q).mpr e, (as q).mpr ea⟩
  · by_cases q : j = i
    · subst q
      exact (cn e).elim
    · exact R.avm j m c a ((cs q).mp e) hm ((as q).mp ea)
theorem SStp.setN {i : Nat} (R : Rel F L δ σ H) (hf : freeSlot δ i = true) (hL : i ∉ L) : SStp L δ σ H (δ.set i (some (.fz .non))) (σ.set i (some .non)) H := by
  have iδ := freeSlot_lt hf
  refine ⟨fun a h => ?_, fun _ _ h _ => h, fun j hj a e => ?_, fun _ h => h⟩
  · obtain ⟨j, m, c, e, n, ea⟩ := h
    by_cases q : j = i
    · subst q
      have e : (δ.set j (some (.fz .non)))[j]? = _ := e
      rw [List.getElem?_set_self iδ] at e
      cases e
    · have e : (δ.set i _)[j]? = _ := e
      have ea : (σ.set i _)[j]? = _ := ea
      rw [List.getElem?_set_ne (Ne.symm q)] at e ea
      exact .inl ⟨j, m, c, e, n, ea⟩
  · have q : j ≠ i := fun q => hL (q ▸ hj)
    rw [cA_some] at e ⊢
    obtain ⟨⟨m, c, e1⟩, e2⟩ := e
    refine ⟨⟨m, c, ?_⟩, ?_⟩
    · show (δ.set i _)[j]? = _
      rw [List.getElem?_set_ne (Ne.symm q)]; exact e1
    · show (σ.set i _)[j]? = _
      rw [List.getElem?_set_ne (Ne.symm q)]; exact e2
end
/-! an expression that leaves a cell as it was: the cell is locked while it is walked, and free again behind it -/
def flD : D → Bool
  | .non => true | .bl _ => true | .int _ => true | .str _ => true | _ => false
def flC : Option SV → Bool
  | some (.cl _ (.lst ds)) => ds.all flD
  | some (.cl _ _) => false
  | _ => true
def Unl (i : Nat) (δ δ1 : FS) (ds : List D) : Prop := ds.all flD = true ∧ δ.all flC = true ∧ ∃ c, δ[i]? = some (some (SV.cl .mu c)) ∧ δ1 = δ.set i (some (SV.cl .ro c))
open Classical in
noncomputable def ulk (i : Nat) (δ : FS) (r : RE) : RE := match r with
  | .own (.lst ds) δ1 => if Unl i δ δ1 ds then .own (.lst ds) δ else .own (.lst ds) δ1
  | r => r
noncomputable def gUlk (i : Nat) (g : GE) : GE := fun δ => ulk i δ (g δ)
section
variable [KL] {W : WO} {F : Fr} {L : List Nat} {δ : FS} {σ : St} {H : Hp} {X : Cx} {k : Kd}
theorem flA : ∀ {vs : List V} {ds : List D} {C C' : Nat → Option Addr} {M M' : Addr → Prop}, ds.all flD = true → RepAll H C M vs ds → RepAll H C' M' vs ds
  | _, _, _, _, _, _, _, .nil => .nil
  | _, _, _, _, _, _, h, .cons r s => by
    rw [List.all_cons, Bool.and_eq_true] at h
    refine .cons ?_ (flA h.2 s)
    cases r with
    | non => exact .non
    | bl b => exact .bl b
    | int i => exact .int i
    | str x => exact .str x
    | _ => exact nomatch h.1
theorem flVA : ∀ {ds : List D} {L : List Nat}, ds.all flD = true → VOkA L ds
  | [], _, _ => .nil
  | d :: ds, _, h => by
    rw [List.all_cons, Bool.and_eq_true] at h
    refine .cons ?_ (flVA h.2)
    cases d with
    | non => exact .non
    | bl b => exact .bl b
    | int i => exact .int i
    | str x => exact .str x
    | _ => exact nomatch h.1
theorem flO {o : HO} {d : D} {C C' : Nat → Option Addr} {M M' : Addr → Prop} {m : Md} (h : flC (some (.cl m d)) = true) (r : ObjD H C M o d) : ObjD H C' M' o d := by
  cases d with
  | lst ds =>
    cases o with
    | lst vs => exact flA h r
    | _ => exact r.elim
  | _ => exact nomatch h
theorem Rel.unlock {i : Nat} {c : D} {H1 : Hp} (R : Rel F L δ σ H) (e : IsC δ i .mu c) (hf : δ.all flC = true) (R1 : Rel F L (δ.set i (some (.cl .ro c))) σ H1) (s1 : Stp δ σ H (δ.set i (some (.cl .ro c))) H1) : Rel F L δ σ H1 := by
  have iδ : i < δ.length := (List.getElem?_eq_some_iff.mp e).1
  have fl : ∀ {j m d}, IsC δ j m d → flC (some (.cl m d)) = true := fun {j m d} q => List.all_eq_true.mp hf _ (List.mem_of_getElem? q)
  have ci : IsC (δ.set i (some (.cl .ro c))) i .ro c := List.getElem?_set_self iδ
  refine ⟨R.len, fun j d q => ?_, R.vok, fun j m d q => ?_, R.cok, R.dist, R1.keep, R1.avt, R1.bt, R.bor, R.avm⟩
  · obtain ⟨v, ea, r⟩ := R.slot j d q
    exact ⟨v, ea, r.mono (fun b o hb n => s1.hp b o hb fun z => n (.inr z)) (fun _ _ h => h) (fun _ _ n => n)⟩
  · obtain ⟨a, o, ea, ho, ob, z1, z2⟩ := R.cell j m d q
    have q1 : ∃ m1, IsC (δ.set i (some (.cl .ro c))) j m1 d := by
      by_cases z : j = i
      · subst z
        have := Option.some.inj (Option.some.inj (e.symm.trans q))
        cases this
        exact ⟨_, ci⟩
      · refine ⟨m, ?_⟩
        show (δ.set i _)[j]? = _
        rw [List.getElem?_set_ne (Ne.symm z)]
        exact q
    obtain ⟨m1, q1⟩ := q1
    obtain ⟨a1, o1, ea1, ho1, ob1, _, _⟩ := R1.cell j m1 d q1
    have := V.ref.inj (Option.some.inj (Option.some.inj (ea.symm.trans ea1)))
    subst this
    exact ⟨a, o1, ea, ho1, flO (fl q) ob1, z1, z2⟩
theorem ev_ulk {i : Nat} {te : TE} {g : GE} (he : Ev W L k te g) : Ev W L k te (gUlk i g) := fun F δ σ H Q R P => by
  refine he F δ σ H Q R ?_
  unfold gUlk ulk at P
  cases q : g δ with
  | own d δ1 =>
    rw [q] at P
    cases d with
    | lst ds =>
      simp only at P
      split at P
      · rename_i h
        obtain ⟨h1, h2, c, e, rfl⟩ := h
        intro p H1 o R1 s1 hp ob k1
        refine P p H1 o (R.unlock e h2 R1 s1) ⟨rfl, fun _ => Iff.rfl, fun _ h => h, s1.hp, s1.th⟩ hp ?_ (KOk.mk R fun _ => .lst (flVA h1))
        exact flO (m := .mu) h1 ob
      · exact P
    | _ => exact P
  | ok d δ1 => rw [q] at P; exact P
  | exn x δ1 => rw [q] at P; exact P
  | bad => rw [q] at P; exact P
  | ownT _ _ _ _ => rw [q] at P; exact P
theorem de_ulk {i : Nat} {e : Expr} {te : TE} {g : GE} (h : DE X W L k e te g) : DE X W L k e te (gUlk i g) := ⟨h.pe, ev_ulk h.ev⟩
end
section
variable [KL] {W : WO} {F : Fr} {L : List Nat} {δ : FS} {σ : St} {H : Hp} {X : Cx} {pos : Pos}
/-- x = e, e a new list, x's own from now on, or None -/
def gSetO (i : Nat) (g : GE) : GS := fun δ => match g δ with
  | .own d δ1 => if freeSlot δ1 i then .nx (δ1.set i (some (.cl .mu d))) else .bad
  | .ok .non δ1 => if freeSlot δ1 i then .nx (δ1.set i (some (.fz .non))) else .bad
  | .exn x δ1 => .exn x δ1
  | _ => .bad
theorem evs_setO {i : Nat} {te : TE} {ge : GE} (hL : L = []) (he : Ev W L .val te ge) : EvS W L (tAsg te (gName i)) (gSetO i ge) := fun F δ σ H D R P => by
  unfold gSetO at P
  cases q : ge δ with
  | own d δ1 =>
    refine evs_setC hL he F δ σ H D R ?_
    unfold gSetC
    rw [q] at P ⊢
    exact P
  | exn x δ1 =>
    refine evs_setC hL he F δ σ H D R ?_
    unfold gSetC
    rw [q] at P ⊢
    exact P
  | bad => rw [q] at P; exact P.elim
  | ownT _ _ _ _ => rw [q] at P; exact P.elim
  | ok d δ1 =>
    rw [q] at P
    refine he F δ σ H _ R ?_
    rw [q]
    cases d with
    | non =>
      intro v H1 R1 s1 r1 k1
      simp only at P
      split at P
      · rename_i hf
        cases r1
        exact P _ _ (R1.setN hf (by rw [hL]; exact List.not_mem_nil)) (s1.s.trans (SStp.setN R1 hf (by rw [hL]; exact List.not_mem_nil)))
      · exact P.elim
    | _ => exact P.elim
theorem ds_setO {i : Nat} {x : Str} {e : Expr} {te : TE} {ge : GE} {pos' : Pos} (hL : L = []) (hN : X.N.Nodup) (hi : X.N[i]? = some x) (hx : Loc X.env.scope x) (he : DE X W L .val e te ge) (hs : swapsWith e (some (.Name x pos')) pos.line X.env = pure false := by rfl) (hf : X.fn x = true ∨ X.env.scope.names.lookup x = some .local := by first | exact .inl rfl | exact .inr rfl | assumption) :
    DS X W L (.Assign [.Name x pos'] e pos) (tAsg te (gName i)) (gSetO i ge) := ⟨ps_set hN hi hx he.pe hs hf, evs_setO hL he.ev⟩
end
end DL
namespace DL
open PySem PySem.Spec L2
section
variable {δ : FS} {a b c : GE} {s t : GS} {g h : GB} {ga gr : GA} {i j n m : Nat} {d e : D} {ds xs ys : List D} {x y z : Int} {v : Bool} {Q : RE → Prop} {QS : O → Prop} {ex : Xn}
/-! len(set(..)) of any whole numbers -/
def lmS (s : D) (δ : FS) (Q : RE → Prop) : Prop := Q (match s with
  | .lst xs => (match intsOf xs with
    | some ns => if ns.length ≤ 4000 then .ok (.int ((metN ns).length : Nat)) δ else .bad
    | none => .bad)
  | _ => .bad)
def kLm (Q : RE → Prop) (r : Fx (RE) Q) : Prop := Q (r.bind fun d δ1 => match top δ1 d with
  | .lst xs => (match intsOf xs with
    | some ns => if ns.length ≤ 4000 then .ok (.int ((metN ns).length : Nat)) δ1 else .bad
    | none => .bad)
  | _ => .bad)
theorem r_lm : RnE Q (gLenMet a δ) = RnE (kLm Q) (a δ) := rfl
theorem kLm_ok : kLm Q (.ok d δ) = lmS (top δ d) δ Q := rfl
theorem kLm_own : kLm Q (.own d δ) = lmS (top δ d) δ Q := rfl
theorem lmS_l {ns : List Int} (h2 : ns.length ≤ 4000) : lmS (.lst (ns.map .int)) δ Q = Q (.ok (.int ((metN ns).length : Nat)) δ) := by
  unfold lmS
  simp only [ints_map, if_pos h2]
theorem metN_one {ns : List Int} {c : Int} (h : ∀ x ∈ ns, x = c) (h0 : 0 < ns.length) : (metN ns).length = 1 := by
  have key : ∀ i, 0 < i → i ≤ ns.length → PyProof.Rows.firstMet (fun i => ns.getD i 0) i = [c] := by
    intro i
    induction i with
    | zero => intro h; omega
    | succ i ih =>
      intro _ hi
      have e : ns.getD i 0 = c := by
        rw [List.getD_eq_getElem?_getD, List.getElem?_eq_getElem (by omega)]
        exact h _ (List.getElem_mem _)
      rw [PyProof.Rows.firstMet_succ, e]
      by_cases z : i = 0
      · subst z
        rfl
      · rw [ih (by omega) (by omega)]
        unfold PyProof.Rows.step_dedup
        simp
  unfold metN
  rw [key ns.length h0 (Nat.le_refl _)]
  rfl
theorem met_at {ns : List Int} : ∀ i, i ≤ ns.length → (PyProof.Rows.firstMet (fun i => ns.getD i 0) i).length ≤ i ∧ ((PyProof.Rows.firstMet (fun i => ns.getD i 0) i).length = i → PyProof.Rows.firstMet (fun i => ns.getD i 0) i = ns.take i ∧ (ns.take i).Nodup)
  | 0, _ => ⟨Nat.le_refl _, fun _ => ⟨rfl, List.nodup_nil⟩⟩
  | i + 1, h => by
    obtain ⟨h1, h2⟩ := met_at (ns := ns) i (by omega)
    have e : ns.getD i 0 = ns[i] := by rw [List.getD_eq_getElem?_getD, List.getElem?_eq_getElem (by omega)]; rfl
    rw [PyProof.Rows.firstMet_succ, e]
    unfold PyProof.Rows.step_dedup
    split
    · exact ⟨by omega, fun q => by omega⟩
    · rename_i hc
      refine ⟨by rw [List.length_append, List.length_singleton]; omega, fun q => ?_⟩
      rw [List.length_append, List.length_singleton] at q
      obtain ⟨h3, h4⟩ := h2 (by omega)
      rw [h3] at hc ⊢
      rw [List.take_succ_eq_append_getElem (by omega)]
      refine ⟨rfl, ?_⟩
      rw [List.nodup_append]
      refine ⟨h4, by simp, fun x hx y hy q => ?_⟩
      rw [List.mem_singleton.mp hy] at q
      rw [q] at hx
      exact hc (by simpa using hx)
theorem metN_len {ns : List Int} : (metN ns).length = ns.length ↔ ns.Nodup := by
  constructor
  · intro h
    have := (met_at (ns := ns) ns.length (Nat.le_refl _)).2 h
    rw [List.take_length] at this
    exact this.2
  · intro h
    have key : ∀ i, i ≤ ns.length → PyProof.Rows.firstMet (fun i => ns.getD i 0) i = ns.take i := by
      intro i
      induction i with
      | zero => intro _; rfl
      | succ i ih =>
        intro hi
        have e : ns.getD i 0 = ns[i] := by rw [List.getD_eq_getElem?_getD, List.getElem?_eq_getElem (by omega)]; rfl
        rw [PyProof.Rows.firstMet_succ, e, ih (by omega), List.take_succ_eq_append_getElem (by omega)]
        have h2 : (ns.take (i + 1)).Nodup := h.sublist (List.take_sublist _ _)
        rw [List.take_succ_eq_append_getElem (by omega), List.nodup_append] at h2
        unfold PyProof.Rows.step_dedup
        split
        · rename_i hc
          exact absurd rfl (h2.2.2 ns[i] (by simpa using hc) ns[i] (List.mem_singleton.mpr rfl))
        · rfl
    unfold metN
    rw [key ns.length (Nat.le_refl _), List.take_length]
/-! bit_length, isinstance with two types -/
def kBits (Q : RE → Prop) (r : Fx (RE) Q) : Prop := Q (r.bind fun d δ1 => bitD δ1 d)
theorem r_bits : RnE Q (gBits a δ) = RnE (kBits Q) (a δ) := rfl
theorem kBits_ok : kBits Q (.ok (.int x) δ) = Q (.ok (.int (PySem.Builtin.Int.intBits x : Nat)) δ) := rfl
def kIsi2 (T U : Ty) (Q : RE → Prop) (r : Fx (RE) Q) : Prop := Q (r.bind fun d δ1 => isa2 T U d δ1)
theorem r_isi2 {T U : Ty} : RnE Q (gIsi2 T U a δ) = RnE (kIsi2 T U Q) (a δ) := rfl
theorem kIsi2_ok {T U : Ty} : kIsi2 T U Q (.ok d δ) = RnE Q (isa2 T U d δ) := rfl
theorem isa2_lst : isa2 .list .tuple (.lst ds) δ = .ok (.bl true) δ := rfl
theorem isa2_tup : isa2 .list .tuple (.tup ds) δ = .ok (.bl true) δ := rfl
theorem isa2_int : isa2 .list .tuple (.int x) δ = .ok (.bl false) δ := rfl
theorem isa2_bl : isa2 .list .tuple (.bl v) δ = .ok (.bl false) δ := rfl
theorem isa2_non : isa2 .list .tuple .non δ = .ok (.bl false) δ := rfl
theorem isa2_str {sx : Str} : isa2 .list .tuple (.str sx) δ = .ok (.bl false) δ := rfl
/-! a cell free again -/
noncomputable def kUlk (i : Nat) (δ : FS) (Q : RE → Prop) (r : Fx (RE) Q) : Prop := Q (ulk i δ r)
theorem r_ulk : RnE Q (gUlk i a δ) = RnE (kUlk i δ Q) (a δ) := rfl
theorem kUlk_ok {δ1 : FS} : kUlk i δ1 Q (.ok d δ) = Q (.ok d δ) := rfl
theorem kUlk_at {c : D} {δ1 : FS} (h1 : ds.all flD = true) (h2 : δ.all flC = true) (h3 : δ[i]? = some (some (SV.cl .mu c))) (h4 : δ1 = δ.set i (some (SV.cl .ro c))) : kUlk i δ Q (.own (.lst ds) δ1) = Q (.own (.lst ds) δ) := by
  unfold kUlk ulk
  simp only
  rw [if_pos ⟨h1, h2, c, h3, h4⟩]
/-! x = a new list or None -/
def setOK (i : Nat) (r : RE) : O := match r with
  | .own d δ1 => if freeSlot δ1 i then .nx (δ1.set i (some (.cl .mu d))) else .bad
  | .ok .non δ1 => if freeSlot δ1 i then .nx (δ1.set i (some (.fz .non))) else .bad
  | .exn x δ1 => .exn x δ1
  | _ => .bad
def kSetO (i : Nat) (Q : O → Prop) (r : Fx (RE) Q) : Prop := Q (setOK i r)
theorem r_setO : RnS QS (gSetO i a δ) = RnE (kSetO i QS) (a δ) := by
  unfold RnS RnE kSetO gSetO setOK
  cases a δ <;> rfl
theorem kSetO_own : kSetO i QS (.own d δ) = if freeSlot δ i = true then QS (.nx (δ.set i (some (.cl .mu d)))) else QS .bad := by
  unfold kSetO setOK
  simp only
  split <;> rfl
theorem kSetO_non : kSetO i QS (.ok .non δ) = if freeSlot δ i = true then QS (.nx (δ.set i (some (.fz .non)))) else QS .bad := by
  unfold kSetO setOK
  simp only
  split <;> rfl
theorem kSetO_exn : kSetO i QS (.exn ex δ) = QS (.exn ex δ) := rfl
/-! any number of values at once -/
def PtN (Q : O → Prop) (cs : List Bool) (is : List Nat) (ds : List D) (δ : FS) : Prop := Q (match putN cs is ds δ with | some δ2 => .nx δ2 | none => .bad)
def PkN (Q : O → Prop) (cs' : List Bool) (gs : List GE) (done : List D) (cs : List Bool) (is : List Nat) (δ : FS) : Prop := match pickN cs' gs δ with
  | some (ds, δ1) => PtN Q cs is (done ++ ds) δ1
  | none => Q .bad
def kPk (Q : O → Prop) (c : Bool) (cs' : List Bool) (gs : List GE) (done : List D) (cs : List Bool) (is : List Nat) (r : Fx (Fx RE Q) gs) : Prop := match RE.pick c r with
  | some (d, δ) => PkN Q cs' gs (done ++ [d]) cs is δ
  | none => Q .bad
variable {cs cs' : List Bool} {is : List Nat} {gs : List GE} {done : List D}
theorem r_parN : RnS QS (gParN cs is gs δ) = PkN QS cs gs [] cs is δ := by
  unfold RnS gParN PkN PtN
  cases pickN cs gs δ with
  | none => rfl
  | some p => rfl
theorem PkN_nil : PkN QS [] [] done cs is δ = PtN QS cs is done δ := by
  unfold PkN pickN
  simp only [List.append_nil]
theorem PkN_cons {k : Bool} : PkN QS (k :: cs') (a :: gs) done cs is δ = RnE (kPk QS k cs' gs done cs is) (a δ) := by
  unfold PkN RnE kPk
  rw [pickN]
  cases RE.pick k (a δ) with
  | none => rfl
  | some p =>
    obtain ⟨d, δ1⟩ := p
    simp only [PkN]
    cases pickN cs' gs δ1 with
    | none => rfl
    | some p2 => simp only [List.append_assoc, List.cons_append, List.nil_append]
theorem kPk_ok : kPk QS false cs' gs done cs is (.ok d δ) = PkN QS cs' gs (done ++ [d]) cs is δ := rfl
theorem kPk_own {k : Bool} : kPk QS k cs' gs done cs is (.own d δ) = PkN QS cs' gs (done ++ [d]) cs is δ := rfl
theorem PtN_nil : PtN QS [] [] [] δ = QS (.nx δ) := rfl
theorem PtN_t : PtN QS (true :: cs) (i :: is) (d :: ds) δ = if freeSlot δ i = true then PtN QS cs is ds (δ.set i (some (.cl .mu d))) else QS .bad := by
  unfold PtN
  rw [putN, putS]
  simp only [if_true]
  cases freeSlot δ i <;> rfl
theorem PtN_f : PtN QS (false :: cs) (i :: is) (d :: ds) δ = if notCell δ i = true then PtN QS cs is ds (δ.set i (some (.fz d))) else QS .bad := by
  unfold PtN
  rw [putN, putS]
  simp only [Bool.false_eq_true, if_false]
  cases notCell δ i <;> rfl
/-! x[i] += e -/
theorem addI_ii : addI δ (.int x) (.int y) = .ok (.int (x + y)) δ := rfl
theorem putIx_e : putIx i x d δ = setS δ[i]? i d x δ := by unfold putIx setS; rw [mutL_get]; try rfl
def itmS (s : Option (Option SV)) (k : Int) : Option Int := match mutS s with
  | some (_, ds) => (match L2.atI ds k with
    | some (.int a) => some a
    | _ => none)
  | none => none
theorem itm_e : itmAt i x δ = itmS δ[i]? x := by unfold itmAt itmS; rw [mutL_get]; try rfl
theorem itmS_l {l : List Int} {md : Md} (hm : md = .mu ∨ md = .bo) (h : 0 ≤ x ∧ x < l.length) : itmS (some (some (.cl md (.lst (l.map .int))))) x = some l[x.toNat]! := by
  obtain ⟨p, rfl⟩ : ∃ p : Nat, x = p := ⟨x.toNat, by omega⟩
  have hp : p < l.length := by omega
  have e : L2.atI (l.map D.int) (p : Int) = some (D.int l[p]!) := by
    rw [atI_nat (by rw [List.length_map]; exact hp), List.getElem?_map, List.getElem?_eq_getElem hp, getElem!_pos l p hp]
    rfl
  unfold itmS mutS
  rcases hm with rfl | rfl <;> simp [e]
theorem itmS_mu {l : List Int} (h : 0 ≤ x ∧ x < l.length) : itmS (some (some (.cl .mu (.lst (l.map .int))))) x = some l[x.toNat]! := itmS_l (.inl rfl) h
theorem itmS_bo {l : List Int} (h : 0 ≤ x ∧ x < l.length) : itmS (some (some (.cl .bo (.lst (l.map .int))))) x = some l[x.toNat]! := itmS_l (.inr rfl) h
variable {op : Int → Int → Int}
def axE (i : Nat) (op : Int → Int → Int) (k a : Int) (e : D) (δ : FS) : O := match top δ e with
  | .int b => putIx i k (.int (op a b)) δ
  | _ => .bad
def axM (i : Nat) (op : Int → Int → Int) (ge : GE) (k : Int) (o : Option Int) (δ : FS) : O := match o with
  | some a => (ge δ).bindS fun e δ2 => axE i op k a e δ2
  | none => .bad
def axI (i : Nat) (op : Int → Int → Int) (ge : GE) (j : D) (δ : FS) : O := match top δ j with
  | .int k => axM i op ge k (itmAt i k δ) δ
  | _ => .bad
def kAx1 (i : Nat) (op : Int → Int → Int) (ge : GE) (Q : O → Prop) (r : Fx (Fx RE ge) Q) : Prop := Q (RE.bindS r fun j δ1 => axI i op ge j δ1)
def kAx3 (i : Nat) (op : Int → Int → Int) (k a : Int) (Q : O → Prop) (r : Fx RE Q) : Prop := Q (RE.bindS r fun e δ2 => axE i op k a e δ2)
theorem r_augIx : RnS QS (gAugIx i op a b δ) = if isL δ i = true then RnE (kAx1 i op b QS) (a δ) else QS .bad := by
  unfold RnS gAugIx RnE kAx1
  split <;> first | rfl | (congr 2; funext j δ1; unfold axI axM axE; first | rfl | (cases top δ1 j <;> rfl))
theorem kAx1_ok : kAx1 i op b QS (.ok (.int x) δ) = RnS QS (axM i op b x (itmS δ[i]? x) δ) := by rw [← itm_e]; rfl
theorem axM_s : RnS QS (axM i op b x (some y) δ) = RnE (kAx3 i op x y QS) (b δ) := rfl
theorem kAx3_ok : kAx3 i op x y QS (.ok (.int z) δ) = RnS QS (setS δ[i]? i (.int (op y z)) x δ) := by rw [← putIx_e]; rfl
/-! a cell's list as a value -/
def fzO (Q : RE → Prop) (o : Option (List D × FS)) : Prop := Q (match o with | some (ds, δ1) => .ok (.lst ds) δ1 | none => .bad)
theorem r_fz : RnE Q (gFz i δ) = fzO Q (frzS δ[i]? i δ) := rfl
theorem fzO_s : fzO Q (some (ds, δ)) = Q (.ok (.lst ds) δ) := rfl
theorem isortP {l : List Int} : (isort l).Perm l := haveI : KL := ⟨fun _ _ => False, fun _ => none⟩; isort_perm l
theorem lsS_n {l : List Nat} (h : l.Nodup) (h2 : l.length ≤ 4000) : lsS (.lst (l.map fun n : Nat => D.int (n : Int))) δ Q = Q (.ok (.int (l.length : Nat)) δ) := by
  have e : (l.map fun n : Nat => D.int (n : Int)) = (l.map fun n : Nat => (n : Int)).map D.int := by rw [List.map_map]; rfl
  rw [e, lsS_l (List.Pairwise.map _ (fun a b q e => q (by omega)) h) (by rw [List.length_map]; exact h2), List.length_map]
/-! is -/
theorem isN_non : isD δ .non .non = .ok (.bl true) δ := rfl
theorem isnN_non : isnD δ .non .non = .ok (.bl false) δ := rfl
theorem isN_tup : isD δ (.tup ds) .non = .ok (.bl false) δ := rfl
theorem isnN_tup : isnD δ (.tup ds) .non = .ok (.bl true) δ := rfl
theorem isN_lst : isD δ (.lst ds) .non = .ok (.bl false) δ := rfl
theorem isnN_lst : isnD δ (.lst ds) .non = .ok (.bl true) δ := rfl
theorem isN_int : isD δ (.int x) .non = .ok (.bl false) δ := rfl
theorem isnN_int : isnD δ (.int x) .non = .ok (.bl true) δ := rfl
theorem isN_str {sx : Str} : isD δ (.str sx) .non = .ok (.bl false) δ := rfl
theorem isnN_str {sx : Str} : isnD δ (.str sx) .non = .ok (.bl true) δ := rfl
theorem isN_bl : isD δ (.bl v) .non = .ok (.bl false) δ := rfl
theorem isnN_bl : isnD δ (.bl v) .non = .ok (.bl true) δ := rfl
theorem isB {v2 : Bool} : isD δ (.bl v) (.bl v2) = .ok (.bl (decide (v = v2))) δ := rfl
theorem isnB {v2 : Bool} : isnD δ (.bl v) (.bl v2) = .ok (.bl (!decide (v = v2))) δ := rfl
theorem psortP {l : List (Int × Int)} : (psort l).Perm l := haveI : KL := ⟨fun _ _ => False, fun _ => none⟩; psort_perm l
theorem psortS {l : List (Int × Int)} : (psort l).Pairwise pLe := haveI : KL := ⟨fun _ _ => False, fun _ => none⟩; psort_sorted l
/-! pairs sorted -/
theorem pairs_map : ∀ ps : List (Int × Int), pairsOf (ps.map pD) = some ps
  | [] => rfl
  | p :: r => by rw [List.map_cons, pairsOf, pairs_map r]; rfl
theorem sortP_l {ps : List (Int × Int)} : sortedPD δ [.lst (ps.map pD)] = .own (.lst ((psort ps).map pD)) δ := by
  show (match pairsOf (ps.map pD) with | some ps => RE.own (.lst ((psort ps).map pD)) δ | none => .bad) = _
  rw [pairs_map]
/-! slices with a step -/
def s3d (l u st : Option Int) (d : D) (δ : FS) : RE := match d with
  | .lst ds => if st = some 0 then .bad else .own (.lst (permL (sliceIx ds.length l u st) ds)) δ
  | _ => .bad
def kS3c (d : D) (l u : Option Int) (Q : RE → Prop) (r : Fx RL Q) : Prop := Q (gOk r fun st δ4 => s3d l u st (top δ4 d) δ4)
def kS3b (d : D) (l : Option Int) (st : FS → RL) (Q : RE → Prop) (r : Fx RL Q) : Prop := Q (gOk r fun u δ3 => gOk (st δ3) fun st δ4 => s3d l u st (top δ4 d) δ4)
def kS3a (d : D) (hi st : FS → RL) (Q : RE → Prop) (r : Fx RL Q) : Prop := Q (gOk r fun l δ2 => gOk (hi δ2) fun u δ3 => gOk (st δ3) fun st δ4 => s3d l u st (top δ4 d) δ4)
def kS30 (lo hi st : FS → RL) (Q : RE → Prop) (r : Fx RE Q) : Prop := Q (RE.bind r fun d δ1 => gOk (lo δ1) fun l δ2 => gOk (hi δ2) fun u δ3 => gOk (st δ3) fun st δ4 => s3d l u st (top δ4 d) δ4)
variable {lo hi st : FS → RL} {l u : Option Int}
theorem r_sl3 : RnE Q (gSl3 a lo hi st δ) = RnE (kS30 lo hi st Q) (a δ) := by
  unfold RnE kS30 gSl3
  first | rfl | (congr 2)
theorem kS30_ok : kS30 lo hi st Q (.ok d δ) = RnL (kS3a d hi st Q) (lo δ) := rfl
theorem kS30_own : kS30 lo hi st Q (.own d δ) = RnL (kS3a d hi st Q) (lo δ) := rfl
theorem kS3a_no : kS3a d hi st Q (.ok [] δ) = RnL (kS3b d none st Q) (hi δ) := rfl
theorem kS3a_at : kS3a d hi st Q (.ok [.int x] δ) = RnL (kS3b d (some x) st Q) (hi δ) := rfl
theorem kS3b_no : kS3b d l st Q (.ok [] δ) = RnL (kS3c d l none Q) (st δ) := rfl
theorem kS3b_at : kS3b d l st Q (.ok [.int x] δ) = RnL (kS3c d l (some x) Q) (st δ) := rfl
theorem kS3c_no : kS3c d l u Q (.ok [] δ) = RnE Q (s3d l u none (top δ d) δ) := rfl
theorem kS3c_at : kS3c d l u Q (.ok [.int x] δ) = RnE Q (s3d l u (some x) (top δ d) δ) := rfl
theorem s3d_i (h : x ≠ 0) : s3d l u (some x) (.lst ds) δ = .own (.lst (permL (sliceIx ds.length l u (some x)) ds)) δ := by
  show (if _ then _ else _) = _
  rw [if_neg (by simpa using h)]
/-- every k-th item from place r on -/
def stp (n r k : Nat) : List Nat := (List.range ((n + k - 1 - r) / k)).map fun t => r + t * k
theorem sliceIx_step {n r k : Nat} (hr : r ≤ n) (hk : 0 < k) : sliceIx n (some (r : Int)) none (some (k : Int)) = stp n r k := by
  have hb : sliceBounds (some (r : Int)) none (some (k : Int)) n = ((r : Int), (n : Int), (k : Int)) := by
    unfold sliceBounds
    have h1 : (k : Int) > 0 := by omega
    have h2 : ¬ ((r : Int) < 0) := by omega
    simp only [Option.getD_some, h1, if_true, h2, if_false]
    refine Prod.ext ?_ rfl
    show max 0 (min (r : Int) n) = r
    omega
  unfold sliceIx
  rw [hb]
  unfold sliceRange stp
  have h1 : (k : Int) > 0 := by omega
  simp only [h1, if_true]
  have hc : (if (r : Int) < (n : Int) then ((n : Int) - r + k - 1) / k else 0).toNat = (n + k - 1 - r) / k := by
    by_cases q : r < n
    · rw [if_pos (by omega), show ((n : Int) - r + k - 1) = ((n + k - 1 - r : Nat) : Int) by omega, ← Int.natCast_ediv, Int.toNat_natCast]
    · rw [if_neg (by omega), Nat.div_eq_of_lt (by omega)]
      rfl
  rw [hc]
  refine List.map_congr_left fun t _ => ?_
  rw [show (r : Int) + k * t = ((r + t * k : Nat) : Int) by rw [Nat.mul_comm t k]; push_cast; rfl, Int.toNat_natCast]
theorem stp_lt {n r k : Nat} (hk : 0 < k) : ∀ i ∈ stp n r k, i < n ∧ i % k = r % k := fun i hi => by
  obtain ⟨t, ht, rfl⟩ := List.mem_map.mp hi
  have ht := List.mem_range.mp ht
  refine ⟨?_, Nat.add_mul_mod_self_right r t k⟩
  have h1 : (t + 1) * k ≤ n + k - 1 - r := Nat.le_trans (Nat.mul_le_mul_right k (Nat.succ_le_of_lt ht)) (Nat.div_mul_le_self _ _)
  rw [Nat.add_mul] at h1
  omega
theorem stp_mem {n r k i : Nat} (hk : 0 < k) (hr : r < k) (hi : i < n) (hm : i % k = r) : i ∈ stp n r k := by
  have e := Nat.div_add_mod i k
  rw [hm] at e
  refine List.mem_map.mpr ⟨i / k, List.mem_range.mpr ?_, by rw [Nat.mul_comm (i / k) k]; omega⟩
  refine (Nat.le_div_iff_mul_le hk).mpr ?_
  rw [Nat.succ_mul, Nat.mul_comm (i / k) k]
  omega
theorem permL_enc {α : Type} [Inhabited α] {enc : α → D} {l : List α} : ∀ {ix : List Nat}, (∀ i ∈ ix, i < l.length) → permL ix (l.map enc) = (ix.map fun i => l[i]!).map enc
  | [], _ => rfl
  | i :: r, h => by
    have hi := h i List.mem_cons_self
    rw [permL_cons, permL_enc (ix := r) fun x hx => h x (List.mem_cons_of_mem _ hx), List.getElem?_map, List.getElem?_eq_getElem hi]
    simp only [Option.map_some, permC_s, List.map_cons, getElem!_pos l i hi]
theorem r_dic0 : RnE Q (gDic0 δ) = Q (.own (.dic []) δ) := rfl
theorem r_excV {sx : Str} : RnE Q (gExcV sx δ) = Q (.ok (.exc sx []) δ) := rfl
theorem top_exc {sx : Str} {fs : List (Str × D)} : top δ (.exc sx fs) = .exc sx fs := rfl
theorem lent_exc {sx : Str} {fs : List (Str × D)} : lentV n j (.exc sx fs :: ds) = lentV n (j + 1) ds := rfl
theorem isi_int_exc {sx : Str} {fs : List (Str × D)} : isiK .int (.exc sx fs) δ = .ok (.bl false) δ := rfl
theorem isi_bool_exc {sx : Str} {fs : List (Str × D)} : isiK .bool (.exc sx fs) δ = .ok (.bl false) δ := rfl
theorem isi_str_exc {sx : Str} {fs : List (Str × D)} : isiK .str (.exc sx fs) δ = .ok (.bl false) δ := rfl
theorem isi_list_exc {sx : Str} {fs : List (Str × D)} : isiK .list (.exc sx fs) δ = .ok (.bl false) δ := rfl
theorem isi_tuple_exc {sx : Str} {fs : List (Str × D)} : isiK .tuple (.exc sx fs) δ = .ok (.bl false) δ := rfl
theorem isi_dict_exc {sx : Str} {fs : List (Str × D)} : isiK .dict (.exc sx fs) δ = .ok (.bl false) δ := rfl
end
end DL

/-! WL: frames whose values may name cells. -/
namespace DL
open PySem PySem.Spec PyProof.Rows L2
mutual
def noV : D → Bool
  | .non => true | .bl _ => true | .int _ => true | .str _ => true | .scr _ => true
  | .lst ds => noVA ds
  | .tup ds => noVA ds
  | _ => false
def noVA : List D → Bool
  | [] => true
  | d :: ds => noV d && noVA ds
end
def noVS : Option SV → Bool
  | some (.fz d) => noV d
  | _ => true
section
variable [KL]
mutual
theorem noV_ok {L : List Nat} : ∀ {d : D}, noV d = true → VOk L d
  | .non, _ => .non
  | .bl b, _ => .bl b
  | .int i, _ => .int i
  | .str x, _ => .str x
  | .scr ns, _ => .scr ns
  | .lst ds, h => .lst (noVA_ok h)
  | .tup ds, h => .tup (noVA_ok h)
  | .var _, h => nomatch h
  | .dic _, h => nomatch h
  | .exc _ _, h => nomatch h
  | .obj _ _, h => nomatch h
theorem noVA_ok {L : List Nat} : ∀ {ds : List D}, noVA ds = true → VOkA L ds
  | [], _ => .nil
  | d :: ds, h => by
    have h : (noV d && noVA ds) = true := h
    rw [Bool.and_eq_true] at h
    exact .cons (noV_ok h.1) (noVA_ok h.2)
end
mutual
theorem vok_weak {L : List Nat} : ∀ {d : D}, VOk [] d → VOk L d
  | _, .non => .non
  | _, .bl b => .bl b
  | _, .int i => .int i
  | _, .str x => .str x
  | _, .scr ns => .scr ns
  | _, .exc c => .exc c
  | _, .lst k => .lst (voka_weak k)
  | _, .tup k => .tup (voka_weak k)
  | _, .dic k => .dic (voka_weak k)
theorem voka_weak {L : List Nat} : ∀ {ds : List D}, VOkA [] ds → VOkA L ds
  | _, .nil => .nil
  | _, .cons a b => .cons (vok_weak a) (voka_weak b)
end
variable {W : WO} {F : Fr} {L : List Nat} {k : Kd} {δ δ' : FS} {σ σ' : St} {H H' : Hp}
theorem Rel.weakL (R : Rel F [] δ σ H) : Rel F L δ σ H := ⟨R.len, R.slot, fun i d e => vok_weak (R.vok i d e), R.cell, R.cok, R.dist, R.keep, R.avt, R.bt, R.bor, R.avm⟩
theorem Rel.strongL (R : Rel F L δ σ H) (h : δ.all noVS = true) : Rel F [] δ σ H := ⟨R.len, R.slot, fun i d e => noV_ok (List.all_eq_true.mp h _ (List.mem_of_getElem? e)), R.cell, R.cok, R.dist, R.keep, R.avt, R.bt, R.bor, R.avm⟩
theorem Rel.fendL {b : Nat} (R : Rel F L δ σ H) (hb : ∀ i a, (i, a) ∈ F.bor → i = b) : FEnd F H (contB b δ) := by
  refine ⟨R.keep, fun i a h => ?_, fun x hx => ?_⟩
  · have q := hb i a h
    subst q
    obtain ⟨d, e, ea⟩ := R.bor i a h
    obtain ⟨a', o, ea', ho, ob, _⟩ := R.cell i _ d e
    cases Option.some.inj (Option.some.inj (ea.symm.trans ea'))
    have ec : contB i δ = d := by unfold contB; rw [e]
    rw [ec]
    have mb : ∀ x, MB F x → MA F δ σ x := fun x h => h.imp id fun ⟨j, hj⟩ => by
      obtain ⟨c, e, ea⟩ := R.bor j x hj
      exact ⟨j, .bo, c, e, (fun z => nomatch z), ea⟩
    exact ⟨o, ho, ob.monoL (L := []) (fun _ _ h _ => h) (fun j hj => absurd hj List.not_mem_nil) (fun x _ n z => n (mb x z)) (R.cok i _ d e), R.cok i _ d e⟩
  · by_cases q : F.inB x
    · exact R.bt x q
    · cases e : F.H0 x with
      | none => exact absurd e hx
      | some o => rw [R.keep x o q e]; exact fun z => nomatch z
/-! a def whose frame has names -/
def chkL : RF → RF
  | .ok d e => if noV d then .ok d e else .bad
  | .own d e => if noV d then .own d e else .bad
  | .ownT _ _ _ _ => .bad
  | r => r
def runFL (b n : Nat) (g : GS) (ds : List D) : RF := chkL (runF b n g ds)
theorem body_postL {b n : Nat} {g : GS} {ds : List D} {vs : List V} {Q : VK} {E : XK} (hb : ∀ i a, (i, a) ∈ F.bor → i = b) (P : FPost F Q E (runFL b n g ds)) :
    SPost (wE E) F L (pars b ds ++ List.replicate (n - ds.length) none) (vs.map some ++ List.replicate (n - vs.length) none) H { nx := fun _ H' => Q .non H', rt := Q } (g (pars b ds ++ List.replicate (n - ds.length) none)) := by
  have mb : ∀ {δ : FS} {σ : St} {H : Hp}, Rel F L δ σ H → ∀ x, MB F x → MA F δ σ x := fun R x h => h.imp id fun ⟨j, hj⟩ => by
    obtain ⟨c, e, ea⟩ := R.bor j x hj
    exact ⟨j, .bo, c, e, (fun z => nomatch z), ea⟩
  unfold runFL runF chkL at P
  cases q : g (pars b ds ++ List.replicate (n - ds.length) none) with
  | nx δ =>
    rw [q] at P
    exact fun σ' H' R s => P .non H' (R.fendL hb) .non .non
  | ret d δ =>
    rw [q] at P
    simp only at P
    intro v σ' H' R r k
    split at P
    · rename_i hv
      exact P v H' (R.fendL hb) (r.monoL (L := []) (fun _ _ h _ => h) (fun j hj => absurd hj List.not_mem_nil) (fun x _ n z => n (mb R x z)) (noV_ok hv)) (noV_ok hv)
    · exact P.elim
  | retO d δ =>
    rw [q] at P
    simp only at P
    intro p o σ' H' R hp ob k
    split at P
    · rename_i hv
      exact P p o H' (R.fendL hb) hp (ob.monoL (L := []) (fun _ _ h _ => h) (fun j hj => absurd hj List.not_mem_nil) (fun x _ n z => n (mb R x z)) (noV_ok hv)) (noV_ok hv)
    · exact P.elim
  | exn x δ =>
    rw [q] at P
    exact fun σ' H' cls dd R s xr => P H' cls dd (R.fendL hb) xr
  | retT _ _ _ _ => rw [q] at P; exact P.elim
  | bk δ => rw [q] at P; exact P.elim
  | ct δ => rw [q] at P; exact P.elim
  | bad => rw [q] at P; exact P.elim
end
section
variable [KL]
variable {P : Program} {w : World} {K : PySem.W.Frag} {mg : Str → Option Value} {base : Heap} {x qual : Str} {params : Arguments} {body : List Stmt} {scope : Scope} {dvs : List V} {kws : List (Str × V)} {f : Addr} {fd : FuncData} {L : List Nat}
theorem fnG_ofL {N ps : List Str} {k b : Nat} {g : GS} (F : FunD K x qual params body scope dvs kws f fd) (S : FnScope N ps scope)
    (hg : ∀ (cd : Value) (A : Around) (outer : List Env) (s : Shared) (H : Hp) (E : XK), RoomG k (A.deeper (envOfC qual scope s.heap.objs.size f cd)) →
      ∃ t, DSs (cxOf (L2N.CX P w) P w K mg base N qual scope f cd A outer s H E) (wE E) L body t g) : FnG P w K mg base (k + 1) f fd ps b (runFL b N.length g) := by
  obtain ⟨c1, c2, c3, c4, c5, c6, c7, cd, c9, c10, rfl, look, codes, _, _⟩ := F.ex
  refine ⟨fun A outer st H args us vs Q E room en bnd rv sp => ?_⟩
  obtain ⟨vl, fr, ds, eH, eb, rel, post⟩ := sp
  have kin := en.mod.kin.keeps fun y oy ey => (en.bs y oy ey).1
  have nol := en.mod.nolimit.keeps fun y oy ey => (en.bs y oy ey).1
  have loc : ∀ y ∈ ps.zip us, scope.names.lookup y.1 = some .local ∨ (scope.names.lookup y.1 = some .cell ∧ ((cellsFrom (st.heap.objs.size + 1) scope.names []).lookup y.1).isSome = true) := by
    rintro ⟨nm, vv⟩ hmem
    have := S.par nm (List.of_mem_zip hmem).1
    exact this.imp id fun z => ⟨z, PySem.W.cellsFrom_some _ _ _ (.inl z)⟩
  refine codeAny_call_function room.rm.depth (kin _ _ look) rfl S.co S.gen rfl (PySem.W.codeRec_of kin codes) (bnd _ _ _ _ ?_)
  refine wpAny_newFunctionEnv_cells S.kind loc fun env henv st1 call => ?_
  subst henv
  refine ⟨nol.keeps call.toInCall.keep, codeAny_func ?_⟩
  obtain ⟨t, ht⟩ := hg cd A outer st H E (room.deeper _)
  have inv : Inv (cxOf (L2N.CX P w) P w K mg base N qual scope f cd A outer st H E) [] (start N vs) H st1 := inv_start S room.rm.hd en vl rv call
  have hlen : ds.length = vs.length := by
    have := rel.len
    rw [pars_length, List.length_map] at this
    exact this
  have rel2 := (rel.pad (N.length - vs.length)).weakL (L := L)
  have wish := ht.ev fr _ _ H { nx := fun _ H' => Q .non H', rt := Q } rel2 (by
    have z := body_postL (L := L) (H := H) (n := N.length) (g := g) (vs := vs) eb post
    rw [hlen] at z
    exact z)
  refine wpAny_mono (ht.ps.run [] st1 (start N vs) H _ inv wish) (fun flow st2 hs => ?_) fun ex st2 hs => hs
  have done : ∀ {σ' : St} {H' : Hp} {v : V} {u : Value}, Inv (cxOf (L2N.CX P w) P w K mg base N qual scope f cd A outer st H E) [] σ' H' st2 → RelV v u → Q v H' → CE outer P w H st Q u st2 :=
    fun {σ' H' v u} J r' q => ⟨v, H', J.os, J.bare, J.base, J.hok, r', q⟩
  cases flow with
  | brk => exact hs.elim fun _ z => z.elim fun _ z => z.2.elim
  | cont => exact hs.elim fun _ z => z.elim fun _ z => z.2.elim
  | next =>
    obtain ⟨_, _, J, q⟩ := hs
    exact done (v := .non) (u := .none) J rfl q
  | ret u =>
    obtain ⟨_, _, _, J, r', q⟩ := hs
    exact done J r' q
end
section
variable [KL] {W : WO} {F : Fr} {L : List Nat} {k : Kd} {δ δ' : FS} {σ σ' : St} {H H' : Hp} {X : Cx} {pos : Pos}
/-- x = a new list, no value names a cell so far, x was no cell -/
def gSetCL (i : Nat) (g : GE) : GS := fun δ => match g δ with
  | .own d δ1 => if freeSlot δ1 i && notCell δ1 i && δ1.all noVS && noV d then .nx (δ1.set i (some (.cl .mu d))) else .bad
  | .exn x δ1 => .exn x δ1
  | _ => .bad
theorem cA_none {i : Nat} {a : Addr} (hn : notCell δ i = true) (e : cA δ σ i = some a) : False := by
  obtain ⟨⟨m, d, q⟩, _⟩ := cA_some.mp e
  unfold notCell at hn
  rw [q] at hn
  cases hn
theorem evs_setCL {i : Nat} {te : TE} {ge : GE} (he : Ev W L .val te ge) : EvS W L (tAsg te (gName i)) (gSetCL i ge) := fun F δ σ H D R P => by
  refine he F δ σ H _ R ?_
  unfold gSetCL at P
  cases q : ge δ with
  | own d δ1 =>
    rw [q] at P
    simp only at P
    intro p H1 o R1 s1 hp ob k1
    split at P
    · rename_i hf
      rw [Bool.and_eq_true, Bool.and_eq_true, Bool.and_eq_true] at hf
      obtain ⟨⟨⟨hf, hn⟩, hv⟩, hd⟩ := hf
      have R1' := R1.strongL hv
      have hm := R1.fresh hp
      have h0 : F.H0 p = none := by
        cases e : F.H0 p with
        | none => rfl
        | some u =>
          by_cases z : F.inB p
          · exact absurd hp (R1.bt p z)
          · have := R1.keep p u z e
            rw [hp] at this
            cases this
      have hc : ∀ j m c, IsC δ1 j m c → ¬ At σ j (.ref p) := fun j m c e ea => by
        obtain ⟨a, u, ea', hu, _⟩ := R1.cell j m c e
        cases Option.some.inj (Option.some.inj (ea.symm.trans ea'))
        rw [hp] at hu
        cases hu
      have ob' : ObjD (upd H1 p o) (cA δ1 σ) (MA (F.and p) δ1 σ) o d := by
        refine ob.mono (fun a u e _ => by rw [upd_ne (ne_of_none e hp)]; exact e) (fun _ _ h => h) fun a h n z => ?_
        rcases MA_and.mp z with z | z
        · exact n z
        · subst z; exact h hp
      have iσ : i < σ.length := by rw [← R1.len]; exact freeSlot_lt hf
      have hp0 : H p = none := by
        cases e : H p with
        | none => rfl
        | some u => exact absurd hp (s1.th p (by rw [e]; exact fun z => nomatch z))
      have th : ∀ b, H1 b ≠ none → upd H1 p o b ≠ none := fun b h => by
        by_cases z : b = p
        · rw [z, upd_same]; exact fun z => nomatch z
        · rw [upd_ne z]; exact h
      have s2 : SStp [] δ1 σ H1 (δ1.set i (some (.cl .mu d))) (σ.set i (some (.ref p))) (upd H1 p o) := SStp.setC List.not_mem_nil hf iσ hp (fun b u e _ => by rw [upd_ne (ne_of_none e hp)]; exact e) th
      have s3 : SStp L δ1 σ H1 (δ1.set i (some (.cl .mu d))) (σ.set i (some (.ref p))) (upd H1 p o) := ⟨s2.mu, s2.hp, fun j _ a e => by
        have z : j ≠ i := fun z => cA_none hn (z ▸ e)
        rw [cA_some] at e ⊢
        obtain ⟨⟨m, c, e1⟩, e2⟩ := e
        refine ⟨⟨m, c, ?_⟩, ?_⟩
        · show (δ1.set i _)[j]? = _
          rw [List.getElem?_set_ne (Ne.symm z)]; exact e1
        · show (σ.set i _)[j]? = _
          rw [List.getElem?_set_ne (Ne.symm z)]; exact e2, s2.th⟩
      exact P _ _ (((R1'.and hp).setC hf List.not_mem_nil h0 (fun z => hm (.inl z)) upd_same (fun z => hm (.inr z)) hc ob' (noV_ok hd)).weakL) (s1.s.trans s3)
    · exact P.elim
  | ownT _ _ _ _ => rw [q] at P; exact P.elim
  | ok d δ1 => rw [q] at P; exact P.elim
  | exn x δ1 =>
    rw [q] at P
    cases W with
    | none => exact P
    | some W => exact fun H1 cls dd R1 s1 xr => P σ H1 cls dd R1 s1.s xr
  | bad => rw [q] at P; exact P.elim
theorem ds_setCL {i : Nat} {x : Str} {e : Expr} {te : TE} {ge : GE} {pos' : Pos} (hN : X.N.Nodup) (hi : X.N[i]? = some x) (hx : Loc X.env.scope x) (he : DE X W L .val e te ge) (hs : swapsWith e (some (.Name x pos')) pos.line X.env = pure false := by rfl) (hf : X.fn x = true ∨ X.env.scope.names.lookup x = some .local := by first | exact .inl rfl | exact .inr rfl | assumption) :
    DS X W L (.Assign [.Name x pos'] e pos) (tAsg te (gName i)) (gSetCL i ge) := ⟨ps_set hN hi hx he.pe hs hf, evs_setCL he.ev⟩
/-- append, where values may name cells: the item names none -/
def gAppL (i : Nat) (g : GE) : GE := fun δ => if isL δ i then (g δ).bind fun d δ1 => match mutL δ1 i with
  | some (m, ds) => if ds.length < 16777216 ∧ noV d = true then .ok .non (δ1.set i (some (.cl m (.lst (ds ++ [d]))))) else .bad
  | none => .bad else .bad
theorem ev_appL {K : PySem.W.Frag} {i : Nat} {te : TE} {ge : GE} (he : Ev W L .val te ge) : Ev W L k (tBM K "list" rAppend (tVar i) (tCons te tNil)) (gAppL i ge) := fun F δ σ H Q R P => by
  unfold gAppL at P
  split at P
  · rename_i hl
    obtain ⟨m0, ds0, e0⟩ := isL_some hl
    obtain ⟨a, us0, ea, ha, _, _⟩ := R.cellL e0
    refine ⟨.ref a, ea, .inl ⟨rfl, _, .inl (.inl ha)⟩, he.seq R P fun d δ1 v H1 G P1 => ?_⟩
    split at P1
    · rename_i m ds e
      split at P1
      · rename_i z
        obtain ⟨ec, hm⟩ := mutL_some e
        obtain ⟨a', us, ea', ha', r, kc⟩ := G.R.cellL ec
        cases Option.some.inj (Option.some.inj (ea.symm.trans ea'))
        obtain ⟨R2, s2⟩ := G.R.put ec hm ea (o' := .lst (us ++ [v])) (c' := .lst (ds ++ [d])) (r.append (.cons G.r .nil)) (.lst (kc.append (.cons (noV_ok z.2) .nil)))
        exact ⟨a, us, v, rfl, rfl, ha', by rw [r.length, sizeLine_eq]; exact z.1, P1 .non _ R2 s2 .non (KOk.mk R2 fun _ => .non)⟩
      · exact P1.elim
    · exact P1.elim
  · exact P.elim
theorem k_appendL {K : PySem.W.Frag} {o e : Expr} {te : TE} {ge : GE} {apos : Pos} {i : Nat} (ho : PE X o (tVar i)) (he : DE X W L .val e te ge) (hbase : attributeBase o "append" X.env (eval o X.env) = eval o X.env := by rfl)
    (hfew : ((backTo pos (starEach [e] X.env)).all (fun x => !x.1) && (backToKw pos (keywordEach [] X.env)).all (fun x => x.1.isSome) && decide ([e].length + ([] : List Keyword).length + (if ([] : List Keyword).isEmpty then 0 else 1) < 30)) = true := by rfl)
    (hline : (apos.endLine == pos.line) = true := by rfl) (hs : starEach [e] X.env = (false, eval e X.env) :: starEach [] X.env := by rfl) (hK : X.K = K := by rfl) :
    DE X W L k (.Call (.Attribute o "append" apos) [e] [] pos) (tBM K "list" rAppend (tVar i) (tCons te tNil)) (gAppL i ge) := by
  subst hK
  exact ⟨pe_bm PySem.F.plainAttrs_list PySem.F.slot_list_append PySem.F.type_list_append mt_append ho (pa_cons he.pe pa_nil hs) hbase hfew hline hs, ev_appL he.ev⟩
/-! an expression behind which the list that it walked is free again, whichever it was -/
def UnlV (δ δ1 : FS) (ds : List D) : Prop := ds.all flD = true ∧ δ.all flC = true ∧ ∃ i c, δ[i]? = some (some (SV.cl .mu c)) ∧ δ1 = δ.set i (some (SV.cl .ro c))
open Classical in
noncomputable def ulkV (δ : FS) (r : RE) : RE := match r with
  | .own (.lst ds) δ1 => if UnlV δ δ1 ds then .own (.lst ds) δ else .own (.lst ds) δ1
  | r => r
noncomputable def gUlkV (g : GE) : GE := fun δ => ulkV δ (g δ)
theorem ev_ulkV {te : TE} {g : GE} (he : Ev W L k te g) : Ev W L k te (gUlkV g) := fun F δ σ H Q R P => by
  refine he F δ σ H Q R ?_
  unfold gUlkV ulkV at P
  cases q : g δ with
  | own d δ1 =>
    rw [q] at P
    cases d with
    | lst ds =>
      simp only at P
      split at P
      · rename_i h
        obtain ⟨h1, h2, i, c, e, rfl⟩ := h
        intro p H1 o R1 s1 hp ob k1
        refine P p H1 o (R.unlock e h2 R1 s1) ⟨rfl, fun _ => Iff.rfl, fun _ h => h, s1.hp, s1.th⟩ hp ?_ (KOk.mk R fun _ => .lst (flVA h1))
        exact flO (m := .mu) h1 ob
      · exact P
    | _ => exact P
  | ok d δ1 => rw [q] at P; exact P
  | exn x δ1 => rw [q] at P; exact P
  | bad => rw [q] at P; exact P
  | ownT _ _ _ _ => rw [q] at P; exact P
theorem de_ulkV {e : Expr} {te : TE} {g : GE} (h : DE X W L k e te g) : DE X W L k e te (gUlkV g) := ⟨h.pe, ev_ulkV h.ev⟩
end
end DL

/-! WL2: calls in frames whose values may name cells: the slots that name cells are set aside. -/
namespace DL
open PySem PySem.Spec PyProof.Rows L2
def strS (s : Option SV) : Option SV := if noVS s then s else none
def strp (δ : FS) : FS := δ.map strS
section
variable [KL] {W : WO} {F : Fr} {L : List Nat} {k : Kd} {δ δ' : FS} {σ σ' : St} {H H' : Hp}
theorem strp_get {i : Nat} : (strp δ)[i]? = δ[i]?.map strS := by unfold strp; rw [List.getElem?_map]
theorem strp_c {i : Nat} {m : Md} {d : D} : IsC (strp δ) i m d ↔ IsC δ i m d := by
  show (strp δ)[i]? = _ ↔ δ[i]? = _
  rw [strp_get]
  cases e : δ[i]? with
  | none => exact Iff.rfl
  | some s =>
    rw [Option.map_some]
    constructor
    · intro h
      have h := Option.some.inj h
      unfold strS at h
      split at h
      · rw [h]
      · cases h
    · intro h
      have h := Option.some.inj h
      subst h
      rfl
theorem strp_f {i : Nat} {d : D} (h : IsF (strp δ) i d) : IsF δ i d ∧ noV d = true := by
  have h : (strp δ)[i]? = _ := h
  rw [strp_get] at h
  cases e : δ[i]? with
  | none => rw [e] at h; cases h
  | some s =>
    rw [e, Option.map_some] at h
    have h := Option.some.inj h
    unfold strS at h
    split at h
    · rename_i z
      subst h
      exact ⟨e, z⟩
    · cases h
theorem strp_cA : cA (strp δ) σ = cA δ σ := by
  funext i
  have key : ∀ a, cA (strp δ) σ i = some a ↔ cA δ σ i = some a := fun a => by
    rw [cA_some, cA_some]
    exact and_congr ⟨fun ⟨m, d, e⟩ => ⟨m, d, strp_c.mp e⟩, fun ⟨m, d, e⟩ => ⟨m, d, strp_c.mpr e⟩⟩ Iff.rfl
  cases e : cA δ σ i with
  | some a => exact (key a).mpr e
  | none =>
    cases e2 : cA (strp δ) σ i with
    | none => rfl
    | some a => rw [(key a).mp e2] at e; cases e
theorem strp_Mu {a : Addr} : MuA (strp δ) σ a ↔ MuA δ σ a := ⟨fun ⟨i, m, d, e, n, x⟩ => ⟨i, m, d, strp_c.mp e, n, x⟩, fun ⟨i, m, d, e, n, x⟩ => ⟨i, m, d, strp_c.mpr e, n, x⟩⟩
theorem strp_MA : MA F (strp δ) σ = MA F δ σ := funext fun a => propext (or_congr Iff.rfl strp_Mu)
theorem Rel.strp (R : Rel F L δ σ H) : Rel F [] (DL.strp δ) σ H := by
  refine ⟨by unfold DL.strp; rw [List.length_map]; exact R.len, fun i d e => ?_, fun i d e => noV_ok (strp_f e).2, fun i m d e => ?_, fun i m d e => R.cok i m d (strp_c.mp e), fun i j m d m' d' a e1 e2 => R.dist i j m d m' d' a (strp_c.mp e1) (strp_c.mp e2), R.keep, R.avt, R.bt, fun i a h => ?_, fun i m d a e => R.avm i m d a (strp_c.mp e)⟩
  · rw [strp_cA, strp_MA]
    exact R.slot i d (strp_f e).1
  · rw [strp_cA, strp_MA]
    exact R.cell i m d (strp_c.mp e)
  · obtain ⟨d, e, x⟩ := R.bor i a h
    exact ⟨d, strp_c.mpr e, x⟩
theorem Rel.unstrp (R : Rel F L δ σ H) (R' : Rel F [] (DL.strp δ) σ H') (s : Stp (DL.strp δ) σ H (DL.strp δ) H') : Rel F L δ σ H' := by
  refine ⟨R.len, fun i d e => ?_, R.vok, fun i m d e => ?_, R.cok, R.dist, R'.keep, R'.avt, R'.bt, R.bor, R.avm⟩
  · obtain ⟨v, ea, r⟩ := R.slot i d e
    exact ⟨v, ea, r.mono (fun b o hb n => s.hp b o hb fun z => n (.inr (strp_Mu.mp z))) (fun _ _ h => h) (fun _ _ n => n)⟩
  · have := R'.cell i m d (strp_c.mpr e)
    rw [strp_cA, strp_MA] at this
    exact this
theorem top_strp {d : D} : top (strp δ) d = top δ d := by
  cases d with
  | var i =>
    rw [top_v, top_v, strp_get]
    cases e : δ[i]? with
    | none => rfl
    | some s =>
      rw [Option.map_some]
      cases s with
      | none => rfl
      | some v =>
        cases v with
        | cl m c => rfl
        | fz c =>
          unfold strS
          split <;> rfl
  | _ => rfl
open Classical in
noncomputable def unstrp (δ : FS) (r : RE) : RE := match r with
  | .ok d δ2 => if δ2 = strp δ ∧ noV d = true then .ok d δ else .bad
  | .own d δ2 => if δ2 = strp δ ∧ noV d = true then .own d δ else .bad
  | _ => .bad
noncomputable def appL (b : Nat) (fD : List D → RF) (δ : FS) (ds : List D) : RE := if ds.all (fun d => noV (top δ d)) = true then unstrp δ (appF b fD (strp δ) ds) else .bad
theorem appL_ok {n b : Nat} {fD : List D → RF} {Q : VK} {vs : List V} {ds : List D} (R : Rel F L δ σ H) (r : RepHA F δ σ H vs ds) (hn : vs.length = n) (P : EPost W F L k δ σ H Q (appL b fD δ ds)) : spD b n fD vs H Q (EW W σ) := by
  unfold appL at P
  split at P
  · rename_i hv
    refine appF_ok (k := k) R.strp (by unfold RepHA; rw [strp_cA, strp_MA]; exact r) (fun d hd => ?_) hn ?_
    · show VOk [] (top (strp δ) d)
      rw [top_strp]
      exact noV_ok (List.all_eq_true.mp hv d hd)
    · cases q : appF b fD (strp δ) ds with
      | ok d δ2 =>
        rw [q] at P
        unfold unstrp at P
        simp only at P
        split at P
        · rename_i h
          obtain ⟨rfl, hd⟩ := h
          intro v H1 R1 s1 r1 k1
          rw [strp_cA, strp_MA] at r1
          exact P v H1 (R.unstrp R1 s1) ⟨rfl, fun _ => Iff.rfl, fun _ h => h, fun b o hb n => s1.hp b o hb fun z => n (strp_Mu.mp z), s1.th⟩ r1 (KOk.mk (R.unstrp R1 s1) fun _ => noV_ok hd)
        · exact P.elim
      | own d δ2 =>
        rw [q] at P
        unfold unstrp at P
        simp only at P
        split at P
        · rename_i h
          obtain ⟨rfl, hd⟩ := h
          intro p H1 o R1 s1 hp ob k1
          rw [strp_cA, strp_MA] at ob
          exact P p H1 o (R.unstrp R1 s1) ⟨rfl, fun _ => Iff.rfl, fun _ h => h, fun b o hb n => s1.hp b o hb fun z => n (strp_Mu.mp z), s1.th⟩ hp ob (KOk.mk (R.unstrp R1 s1) fun _ => noV_ok hd)
        · exact P.elim
      | ownT _ _ _ _ => rw [q] at P; exact P.elim
      | exn x δ2 => rw [q] at P; exact P.elim
      | bad => rw [q] at P; exact P.elim
  · exact P.elim
noncomputable def gFnL (b n : Nat) (fD : List D → RF) (ga : GA) : GE := fun δ => (ga δ).bind fun ds δ1 => if ds.length = n then appL b fD δ1 ds else .bad
noncomputable def gFnKL (b n m : Nat) (pm : List Nat) (fD : List D → RF) (ga : GA) : GE := fun δ => (ga δ).bind fun ds δ1 => if ds.length = m ∧ (permL pm ds).length = n then appL b fD δ1 (permL pm ds) else .bad
section
variable {X : Cx} {j : Kd} {lv b : Nat} {f : Addr} {fd : FuncData} {ps ks : List Str} {fD : List D → RF} {x : Str} {p pos : Pos} {e : Expr} {es : List Expr} {kws : List Keyword} {t tk : TA} {ga : GA} {pm : List Nat}
theorem ev_callGL {n : Nat} (ha : EvA W L .itm t ga) : Ev W L k (tCallG W b n fD t) (gFnL b n fD ga) := fun F δ σ H Q R P =>
  ha F δ σ H _ R (APost.bind P fun ds δ1 vs H1 G P1 => by
    split at P1
    · rename_i hn
      exact appL_ok (k := k) G.R G.r (by rw [G.r.length]; exact hn) P1
    · exact P1.elim)
theorem ev_callGKL {n m : Nat} (ha : EvA W L .itm t ga) : Ev W L k (tCallGK W b n m pm fD t) (gFnKL b n m pm fD ga) := fun F δ σ H Q R P =>
  ha F δ σ H _ R (APost.bind P fun ds δ1 vs H1 G P1 => by
    split at P1
    · rename_i hn
      have r2 := permL_rep G.r pm
      exact ⟨by rw [G.r.length]; exact hn.1, appL_ok (k := k) G.R r2 (by rw [r2.length]; exact hn.2) P1⟩
    · exact P1.elim)
theorem de_callL {n : Nat} (F : Def X.prog X.w X.K X.mg X.base lv x ps b fD f fd) (hr : RoomG lv X.A) (hg : Gl X x) (tk : Tk X W) (ha : DA X W L .itm (e :: es) t ga) (hn : ps.length = n := by rfl) (hdb : (x == ("__debug__" : Str)) = false := by decide)
    (he : starEach (e :: es) X.env = (false, eval e X.env) :: starEach es X.env := by rfl) (hpl : (backTo pos (starEach es X.env)).any (·.1) = false := by rfl) : DE X W L k (.Call (.Name x p) (e :: es) [] pos) (tCallG W b n fD t) (gFnL b n fD ga) := by
  subst hn
  exact ⟨pe_callG F hr hg tk ha.pa hdb he hpl, ev_callGL ha.ev⟩
structure DKL (X : Cx) (W : WO) (L : List Nat) (kws : List Keyword) (t : TA) (g : GA) : Prop where
  pk : PK X kws t
  ev : EvA W L .itm t g
theorem dkL_nil : DKL X W L [] tNil gNil := ⟨pk_nil, (da_nil (X := X) (L := L) (k := .itm)).ev⟩
theorem evA_consL {te : TE} {g : GE} (ha : Ev W L .itm te g) (hr : EvA W L .itm t ga) : EvA W L .itm (tCons te t) (gCons g ga) := fun F δ σ H Q R P =>
  ha F δ σ H _ R (EPost.bindL P fun d δ1 v H1 G1 P1 => hr F δ1 σ H1 _ G1.R (APost.bindL P1 fun ds δ2 vs H2 G2 P2 => by
    have G := G1.shift G2.s G2.R
    exact APost.give P2 G2.R (.cons G.r G2.r) fun x hx => by
      rcases List.mem_cons.mp hx with rfl | hx
      · exact G.k
      · exact G2.k x hx))
theorem dkL_cons {te : TE} {g : GE} {nm : Option Str} {kpos : Pos} (ha : DE X W L .itm e te g) (hr : DKL X W L kws t ga) : DKL X W L (⟨nm, e, kpos⟩ :: kws) (tCons te t) (gCons g ga) := ⟨pk_cons ha.pe hr.pk, evA_consL ha.ev hr.ev⟩
theorem de_callKL {n m : Nat} (F : Def X.prog X.w X.K X.mg X.base lv x ps b fD f fd) (hB : BKw fd ps ks pm) (hr : RoomG lv X.A) (hg : Gl X x) (tk : Tk X W) (hkw : DKL X W L kws t ga) (hn : ps.length = n := by rfl) (hm : ks.length = m := by rfl) (hall : (backToKw pos (keywordEach kws X.env)).all (·.1.isSome) = true := by rfl)
    (hks : (backToKw pos (keywordEach kws X.env)).filterMap (·.1) = ks := by rfl) (hdb : (x == ("__debug__" : Str)) = false := by decide)
    (hpl : ((backTo pos (starEach [] X.env)).any (·.1) || (backToKw pos (keywordEach kws X.env)).any (·.1.isNone)) = false := by rfl) : DE X W L k (.Call (.Name x p) [] kws pos) (tCallGK W b n m pm fD t) (gFnKL b n m pm fD ga) := by
  subst hn hm
  exact ⟨pe_callGK F hB hr hg tk hkw.pk hall hks hdb hpl, ev_callGKL hkw.ev⟩
end
end
end DL

/-! WT: tuples with a new list in them. -/
namespace DL
open PySem PySem.Spec PyProof.Rows L2
section
variable [KL] {W : WO} {F : Fr} {L : List Nat} {k : Kd} {δ δ' : FS} {σ σ' : St} {H H' : Hp} {X : Cx} {pos : Pos}
/-- (e, x), e a new list, x a value by its name -/
def gTupB (g : GE) (i : Nat) : GE := fun δ => match g δ with
  | .own (.lst ds) δ1 => (match δ1[i]? with
    | some (some (.fz d)) => .ownT [] ds [d] δ1
    | _ => .bad)
  | _ => .bad
theorem ev_tupB {i : Nat} {te : TE} {g : GE} (he : Ev W L .val te g) : Ev W L k (tTup (tCons te (tCons (tVar i) tNil))) (gTupB g i) := fun F δ σ H Q R P => by
  refine he F δ σ H _ R ?_
  unfold gTupB at P
  cases q : g δ with
  | own d δ1 =>
    rw [q] at P
    cases d with
    | lst ds =>
      simp only at P
      split at P
      · rename_i d e
        intro p H1 o R1 s1 hp ob k1
        cases o with
        | lst us =>
          obtain ⟨v, ev, rv⟩ := R1.slot i d e
          refine ⟨v, ev, ?_⟩
          refine ⟨by rw [sizeLine_eq]; simp, fun t ht => ?_⟩
          have hn : t ≠ p := fun z => by rw [z, upd_same] at ht; cases ht
          have ht1 : H1 t = none := by rw [upd_ne hn] at ht; exact ht
          have kd : VOkA L ds := by
            cases (show VOk L (.lst ds) from k1) with
            | lst z => exact z
          exact P t p H1 us [] [v] R1 s1 ht1 hp hn .nil ob (.cons rv .nil) fun _ => ⟨.nil, kd, .cons (R1.vok i d e) .nil⟩
        | _ => exact ob.elim
      · exact P.elim
    | _ => exact P.elim
  | ok d δ1 => rw [q] at P; exact P.elim
  | exn x δ1 => rw [q] at P; exact P.elim
  | bad => rw [q] at P; exact P.elim
  | ownT _ _ _ _ => rw [q] at P; exact P.elim
theorem de_tupB {i x1 : Nat} {e : Expr} {y : Str} {p : Pos} {te : TE} {g : GE} (he : DE X W L .val e te g) (hv : PE X (.Name y p) (tVar i)) (hs : starEach [e, .Name y p] X.env = (false, eval e X.env) :: starEach [.Name y p] X.env := by rfl) (hs2 : starEach [.Name y p] X.env = (false, eval (.Name y p) X.env) :: starEach [] X.env := by rfl) :
    DE X W L k (.Tuple [e, .Name y p] x1 pos) (tTup (tCons te (tCons (tVar i) tNil))) (gTupB g i) := ⟨pe_tup (pa_cons he.pe (pa_cons hv pa_nil hs2) hs), ev_tupB he.ev⟩
/-- x, y = e: x's list is x's own from now on -/
def gAsgT (i j : Nat) (g : GE) : GS := fun δ => match g δ with
  | .ownT [] ds [d] δ1 => if freeSlot δ1 i && notCell δ1 j && decide (i ≠ j) then .nx ((δ1.set i (some (.cl .mu (.lst ds)))).set j (some (.fz d))) else .bad
  | .ok (.tup [e, d]) δ1 => if notCell δ1 i && notCell δ1 j then .nx ((δ1.set i (some (.fz e))).set j (some (.fz d))) else .bad
  | .exn x δ1 => .exn x δ1
  | _ => .bad
theorem evs_asgT {i j : Nat} {K : PySem.W.Frag} {te : TE} {g : GE} (hL : L = []) (he : Ev W L .val te g) : EvS W L (tAsg te (L2.gTup K 2 (L2.gCons (gName i) (L2.gCons (gName j) L2.gNil)))) (gAsgT i j g) := fun F δ σ H D R P => by
  refine he F δ σ H _ R ?_
  unfold gAsgT at P
  cases q : g δ with
  | ownT xs ds ys δ1 =>
    rw [q] at P
    match xs, ys, P with
    | [], [d], P =>
      simp only at P
      split at P
      · rename_i hf
        rw [Bool.and_eq_true, Bool.and_eq_true] at hf
        obtain ⟨⟨hf, hj⟩, hij⟩ := hf
        have hij : i ≠ j := of_decide_eq_true hij
        intro t p H1 us vs zs R1 s1 ht hp hn r1 r2 r3 k1
        cases r1
        cases r3 with
        | @cons v _ _ _ rv rn =>
          cases rn
          obtain ⟨_, kd, ky⟩ := k1 (fun z => nomatch z)
          have kv : VOk L d := by cases ky with | cons z _ => exact z
          have hm := R1.fresh hp
          have h0 : F.H0 p = none := by
            cases e : F.H0 p with
            | none => rfl
            | some u =>
              by_cases z : F.inB p
              · exact absurd hp (R1.bt p z)
              · have := R1.keep p u z e
                rw [hp] at this
                cases this
          have hc : ∀ j m c, IsC δ1 j m c → ¬ At σ j (.ref p) := fun j m c e ea => by
            obtain ⟨a, u, ea', hu, _⟩ := R1.cell j m c e
            cases Option.some.inj (Option.some.inj (ea.symm.trans ea'))
            rw [hp] at hu
            cases hu
          have ob : ObjD H1 (cA δ1 σ) (MA F δ1 σ) (.lst us) (.lst ds) := r2
          have ob' : ObjD (upd H1 p (.lst us)) (cA δ1 σ) (MA (F.and p) δ1 σ) (.lst us) (.lst ds) := by
            refine ob.mono (fun a u e _ => by rw [upd_ne (ne_of_none e hp)]; exact e) (fun _ _ h => h) fun a h n z => ?_
            rcases MA_and.mp z with z | z
            · exact n z
            · subst z; exact h hp
          have iσ : i < σ.length := by rw [← R1.len]; exact freeSlot_lt hf
          have R2 : Rel F L (δ1.set i (some (.cl .mu (.lst ds)))) (σ.set i (some (.ref p))) (upd H1 p (.lst us)) := (R1.and hp).setC hf (by rw [hL]; exact List.not_mem_nil) h0 (fun z => hm (.inl z)) upd_same (fun z => hm (.inr z)) hc ob' (by rw [← hL]; exact .lst kd)
          have sC : SStp L δ1 σ H1 (δ1.set i (some (.cl .mu (.lst ds)))) (σ.set i (some (.ref p))) (upd H1 p (.lst us)) := SStp.setC (by rw [hL]; exact List.not_mem_nil) hf iσ hp (fun b u e _ => by rw [upd_ne (ne_of_none e hp)]; exact e) fun b h => (by
            by_cases z : b = p
            · rw [z, upd_same]; exact fun z => nomatch z
            · rw [upd_ne z]; exact h)
          have ht2 : (upd H1 p (.lst us)) t = none := by rw [upd_ne hn]; exact ht
          have R3 : Rel F L (δ1.set i (some (.cl .mu (.lst ds)))) (σ.set i (some (.ref p))) (upd (upd H1 p (.lst us)) t (.tup ([] ++ .ref p :: [v]))) := R2.laid ht2
          have s3 : SStp L δ σ H (δ1.set i (some (.cl .mu (.lst ds)))) (σ.set i (some (.ref p))) (upd (upd H1 p (.lst us)) t (.tup ([] ++ .ref p :: [v]))) := (s1.s.trans sC).laid ht2
          have rv3 := ((sC.laid (o := .tup ([] ++ .ref p :: [v])) ht2).rep kv rv)
          have nj : notCell (δ1.set i (some (.cl .mu (.lst ds)))) j = true := by
            unfold notCell at hj ⊢
            rw [List.getElem?_set_ne hij]
            exact hj
          refine ⟨t, [.ref p, v], rfl, .inl (.inl upd_same), rfl, .ref p, [v], rfl, ?_⟩
          refine ⟨v, [], rfl, rfl, ?_⟩
          exact P _ _ (R3.setF nj (fun _ _ q => nomatch q) fun d' q => by cases q; exact ⟨v, rfl, rv3, kv⟩) (s3.trans (SStp.setF nj fun _ _ q => nomatch q))
      · exact P.elim
    | [], [], P => exact P.elim
    | [], _ :: _ :: _, P => exact P.elim
    | _ :: _, _, P => exact P.elim
  | ok d δ1 =>
    rw [q] at P
    cases d with
    | tup es =>
      match es, P with
      | [e, d], P =>
        simp only at P
        split at P
        · rename_i hf
          rw [Bool.and_eq_true] at hf
          obtain ⟨hi, hj⟩ := hf
          intro v H1 R1 s1 r1 k1
          cases r1 with
          | @tup a us _ h1 n r =>
            cases (show VOk L (.tup [e, d]) from k1) with
            | tup kk =>
              cases r with
              | @cons x _ _ _ rx rr =>
                cases rr with
                | @cons y _ _ _ ry rn =>
                  cases rn
                  have ke : VOk L e := by cases kk with | cons z _ => exact z
                  have kd : VOk L d := by cases kk with | cons _ z => cases z with | cons z _ => exact z
                  have R2 := R1.setF (s := some (.fz e)) (v := some x) hi (fun _ _ q => nomatch q) fun d' q => by cases q; exact ⟨x, rfl, rx, ke⟩
                  have s2 : SStp L δ1 σ H1 (δ1.set i (some (.fz e))) (σ.set i (some x)) H1 := SStp.setF hi fun _ _ q => nomatch q
                  have nj : notCell (δ1.set i (some (.fz e))) j = true := notCell_set hj fun _ _ q => nomatch q
                  have R3 := R2.setF (s := some (.fz d)) (v := some y) nj (fun _ _ q => nomatch q) fun d' q => by cases q; exact ⟨y, rfl, s2.rep kd ry, kd⟩
                  refine ⟨a, [x, y], rfl, .inl h1, rfl, x, [y], rfl, y, [], rfl, rfl, ?_⟩
                  exact P _ _ R3 ((s1.s.trans s2).trans (SStp.setF nj fun _ _ q => nomatch q))
        · exact P.elim
      | [], P => exact P.elim
      | [_], P => exact P.elim
      | _ :: _ :: _ :: _, P => exact P.elim
    | _ => exact P.elim
  | own d δ1 => rw [q] at P; exact P.elim
  | exn x δ1 =>
    rw [q] at P
    cases W with
    | none => exact P
    | some W => exact fun H1 cls dd R1 s1 xr => P σ H1 cls dd R1 s1.s xr
  | bad => rw [q] at P; exact P.elim
theorem ds_asgT {i j : Nat} {K : PySem.W.Frag} {tg e : Expr} {gt : GT} {te : TE} {ge : GE} (hL : L = []) (he : DE X W L .val e te ge) (hg : DG X L tg (L2.gTup K 2 (L2.gCons (gName i) (L2.gCons (gName j) L2.gNil))) gt) (hs : swapsWithSole [tg] e pos.line X.env = pure false := by rfl) (hw : swappedStores [tg] e X.env = pure none := by rfl)
    (h1 : (assignEach [tg] X.env).map (·.2) = [assign tg X.env] := by rfl) : DS X W L (.Assign [tg] e pos) (tAsg te (L2.gTup K 2 (L2.gCons (gName i) (L2.gCons (gName j) L2.gNil)))) (gAsgT i j ge) := ⟨ps_asg he.pe hg.pg hs hw h1, evs_asgT hL he.ev⟩
end
section
variable {δ : FS} {a : GE} {i j : Nat} {d e : D} {ds xs ys : List D} {Q : RE → Prop} {QS : O → Prop} {ex : Xn}
def tbS (ds : List D) (δ : FS) (o : Option (Option SV)) : RE := match o with
  | some (some (.fz d)) => .ownT [] ds [d] δ
  | _ => .bad
def tbK (i : Nat) (r : RE) : RE := match r with
  | .own (.lst ds) δ1 => tbS ds δ1 δ1[i]?
  | _ => .bad
def kTupB (i : Nat) (Q : RE → Prop) (r : Fx (RE) Q) : Prop := Q (tbK i r)
theorem r_tupB : RnE Q (gTupB a i δ) = RnE (kTupB i Q) (a δ) := by
  unfold RnE kTupB
  congr 1
theorem kTupB_own : kTupB i Q (.own (.lst ds) δ) = RnE Q (tbS ds δ δ[i]?) := rfl
theorem tbS_fz : tbS ds δ (some (some (.fz d))) = .ownT [] ds [d] δ := rfl
def atK (i j : Nat) (r : RE) : O := match r with
  | .ownT [] ds [d] δ1 => if freeSlot δ1 i && notCell δ1 j && decide (i ≠ j) then .nx ((δ1.set i (some (.cl .mu (.lst ds)))).set j (some (.fz d))) else .bad
  | .ok (.tup [e, d]) δ1 => if notCell δ1 i && notCell δ1 j then .nx ((δ1.set i (some (.fz e))).set j (some (.fz d))) else .bad
  | .exn x δ1 => .exn x δ1
  | _ => .bad
def kAsgT (i j : Nat) (Q : O → Prop) (r : Fx (RE) Q) : Prop := Q (atK i j r)
theorem r_asgT : RnS QS (gAsgT i j a δ) = RnE (kAsgT i j QS) (a δ) := rfl
theorem kAsgT_T : kAsgT i j QS (.ownT [] ds [d] δ) = if (freeSlot δ i && notCell δ j && decide (i ≠ j)) = true then QS (.nx ((δ.set i (some (.cl .mu (.lst ds)))).set j (some (.fz d)))) else QS .bad := by
  show QS (if _ then _ else _) = _
  split <;> rfl
theorem kAsgT_ok : kAsgT i j QS (.ok (.tup [e, d]) δ) = if (notCell δ i && notCell δ j) = true then QS (.nx ((δ.set i (some (.fz e))).set j (some (.fz d)))) else QS .bad := by
  show QS (if _ then _ else _) = _
  split <;> rfl
end
end DL

namespace G
open PySem PySem.Spec DL
noncomputable section
def g_is_integer : GS := gRet (gAndV (gIsi .int (gV 0)) (gNotV (gIsi .bool (gV 0))))
def f_is_integer : List D → RF := runF 99 1 g_is_integer
def g_are_integers : GS := gRet (gAndV (gIsi .list (gV 0)) (gCall allD (gCons (gLc (gSeqI (gV 0)) (gtName 1) (gYes) (gFn 99 1 f_is_integer (gCons (gV 1) (gNil))) [1]) (gNil))))
def f_are_integers : List D → RF := runF 99 2 g_are_integers
def g_need_ring_length : GS := gIf (gNot (gB (gChain leD leD (gC (.int 1)) (gV 0) (gCall min2D (gCons (gC (.int 8)) (gCons (gV 1) (gNil))))))) (gNever) (gNx)
def f_need_ring_length : List D → RF := runF 99 2 g_need_ring_length
def g_is_ring_list : GS := gRet (gAndV (gIsi .list (gV 0)) (gAndV (gChain leD leD (gC (.int 1)) (gCall lenD (gCons (gV 0) (gNil))) (gC (.int 60))) (gFn 99 1 f_are_integers (gCons (gV 0) (gNil)))))
def f_is_ring_list : List D → RF := runF 99 1 g_is_ring_list
def g_need_ring : GS := gSeq (gIf (gNot (gTru (gFn 99 1 f_is_ring_list (gCons (gV 0) (gNil))))) (gNever) (gNx)) (gDrop (gFn 99 2 f_need_ring_length (gCons (gV 1) (gCons (gCall lenD (gCons (gV 0) (gNil))) (gNil)))))
def f_need_ring : List D → RF := runF 99 2 g_need_ring
def g_ring_sums : GS := gSeq (gIf (gNot (gTru (gFn 99 1 f_is_ring_list (gCons (gV 0) (gNil))))) (gNever) (gNx)) (gSeq (gDrop (gFn 99 2 f_need_ring_length (gCons (gV 1) (gCons (gCall lenD (gCons (gV 0) (gNil))) (gNil))))) (gSeq (gSet 2 (gBin addD (gV 0) (gV 0))) (gRet (gLc (gRng1 (gCons (gCall lenD (gCons (gV 0) (gNil))) (gNil))) (gtName 3) (gYes) (gCall sumD (gCons (gSl (gV 2) (gPart (gV 3)) (gPart (gBin addD (gV 3) (gV 1)))) (gNil))) [3]))))
def f_ring_sums : List D → RF := runF 99 4 g_ring_sums
def g_ring_class : GS := gSeq (gSetC 3 (gLst (gCons (gV 2) (gCons (gBin modD (gBin addD (gV 2) (gV 1)) (gV 0)) (gNil))))) (gSeq (gWhile (gB (gBin neD (gBin ixD (gVc 3) (gUn negD (gC (.int 1)))) (gV 2))) (gDrop (gApp 3 (gBin modD (gBin addD (gBin ixD (gVc 3) (gUn negD (gC (.int 1)))) (gV 1)) (gV 0))))) (gRetC 3))
def f_ring_class : List D → RF := runF 99 4 g_ring_class
def g_class_steps : GS := gSeq (gSetC 2 (gLst (gCons (gC (.int 0)) (gNil)))) (gSeq (gFor (gSeqI (gSl (gV 1) (gNoP) (gPart (gUn negD (gC (.int 1)))))) (gtName 3) (gDrop (gApp 2 (gBin subD (gBin addD (gBin ixD (gVc 2) (gUn negD (gC (.int 1)))) (gBin ixD (gV 0) (gBin modD (gBin addD (gV 3) (gC (.int 1))) (gCall lenD (gCons (gV 0) (gNil)))))) (gBin ixD (gV 0) (gV 3)))))) (gRetC 2))
def f_class_steps : List D → RF := runF 99 4 g_class_steps
def g_ring_share : GS := gRet (gBin fdivD (gV 0) (gBin subD (gCall lenD (gCons (gFn 99 3 f_ring_class (gCons (gV 0) (gCons (gV 1) (gCons (gC (.int 0)) (gNil))))) (gNil))) (gC (.int 1))))
def f_ring_share : List D → RF := runF 99 2 g_ring_share
def g_ring_story : GS := gSeq (gSet 2 (gCall lenD (gCons (gV 0) (gNil)))) (gSeq (gSet 3 (gFn 99 2 f_ring_share (gCons (gV 2) (gCons (gV 1) (gNil))))) (gSeq (gSetC 4 (gBin mulD (gLst (gCons (gC (.int 0)) (gNil))) (gV 2))) (gSeq (gFor (gRng1 (gCons (gV 3) (gNil))) (gtName 5) (gSeq (gSet 8 (gFn 99 3 f_ring_class (gCons (gV 2) (gCons (gV 1) (gCons (gV 5) (gNil)))))) (gSeq (gSet 9 (gFn 99 2 f_class_steps (gCons (gV 0) (gCons (gV 8) (gNil))))) (gSeq (gIf (gB (gBin neD (gBin ixD (gV 9) (gUn negD (gC (.int 1)))) (gC (.int 0)))) (gRet (gTup (gCons (gC (.str "ring")) (gCons (gV 8) (gNil))))) (gNx)) (gFor (gZip (gCons (gSl (gV 8) (gNoP) (gPart (gUn negD (gC (.int 1))))) (gCons (gV 9) (gNil)))) (gtTup 2 (gtCons (gtName 10) (gtCons (gtName 11) (gtNil)))) (gSetIx 4 (gV 10) (gV 11))))))) (gSeq (gSet 6 (gBin subD (gBin ixD (gV 0) (gC (.int 0))) (gCall sumD (gCons (gSl (gVc 4) (gNoP) (gPart (gV 1))) (gNil))))) (gSeq (gIf (gB (gBin neD (gBin modD (gV 6) (gBin fdivD (gV 1) (gV 3))) (gC (.int 0)))) (gRet (gTup (gCons (gC (.str "parts")) (gCons (gLst (gNil)) (gNil))))) (gNx)) (gSeq (gSet 7 (gBin fdivD (gV 6) (gBin fdivD (gV 1) (gV 3)))) (gRet (gTupB (gLc (gRng1 (gCons (gBin addD (gBin subD (gV 2) (gV 3)) (gC (.int 1))) (gNil))) (gtName 10) (gYes) (gBin addD (gV 7) (gCall sumD (gCons (gSl (gVc 4) (gPart (gV 10)) (gPart (gBin addD (gV 10) (gV 3)))) (gNil)))) [10]) 3))))))))
def f_ring_story : List D → RF := runF 99 12 g_ring_story
def g_ring_line : GS := gSeq (gDrop (gFn 99 2 f_need_ring (gCons (gV 0) (gCons (gV 1) (gNil))))) (gSeq (gAsgT 2 3 (gFn 99 2 f_ring_story (gCons (gV 0) (gCons (gV 1) (gNil))))) (gSeq (gIf (gTru (gIsi .str (gVc 2))) (gNever) (gNx)) (gRetC 2)))
def f_ring_line : List D → RF := runF 99 4 g_ring_line
def g_law_bag : GS := gSeq (gSet 1 (gC (.int 157))) (gSeq (gFor (gSeqI (gSl (gV 0) (gNoP) (gPart (gC (.int 63))))) (gtName 2) (gSet 1 (gBin modD (gCall intD (gCons (gBin addD (gBin addD (gBin mulD (gV 1) (gC (.int 48271))) (gBin modD (gCall intD (gCons (gV 2) (gNil))) (gC (.int 2147483629)))) (gC (.int 1))) (gNil))) (gC (.int 2147483647))))) (gRet (gLst (gCons (gLc (gSeqI (gSl (gV 0) (gNoP) (gPart (gC (.int 63))))) (gtName 2) (gYes) (gBin modD (gCall intD (gCons (gCall absD (gCons (gV 2) (gNil))) (gNil))) (gBin powD (gBin powD (gC (.int 10)) (gC (.int 60))) (gC (.int 10)))) [2]) (gCons (gC (.int 0)) (gCons (gC (.int 0)) (gCons (gV 1) (gCons (gC (.int 0)) (gNil)))))))))
def f_law_bag : List D → RF := runF 99 3 g_law_bag
def g_law_stirred : GS := gSeq (gSet 2 (gC (.int 0))) (gSeq (gFor (gRng1 (gCons (gBin addD (gC (.int 1)) (gBin fdivD (gBits (gV 1)) (gC (.int 27)))) (gNil))) (gtName 3) (gSeq (gSetIx 0 (gC (.int 4)) (gBin addD (gBin ixD (gVc 0) (gC (.int 4))) (gC (.int 1)))) (gSeq (gSet 4 (gBin addD (gBin addD (gBin addD (gBin powD (gBin ixD (gVc 0) (gC (.int 3))) (gC (.int 3))) (gBin mulD (gC (.int 69621)) (gBin ixD (gVc 0) (gC (.int 3))))) (gBin mulD (gC (.int 1031)) (gBin ixD (gVc 0) (gC (.int 4))))) (gC (.int 1)))) (gSeq (gSetIx 0 (gC (.int 3)) (gBin modD (gCall intD (gCons (gV 4) (gNil))) (gC (.int 2147483647)))) (gSet 2 (gBin addD (gBin mulD (gV 2) (gC (.int 134217728))) (gBin fdivD (gBin ixD (gVc 0) (gC (.int 3))) (gC (.int 16))))))))) (gRet (gBin modD (gCall intD (gCons (gV 2) (gNil))) (gV 1))))
def f_law_stirred : List D → RF := runF 0 5 g_law_stirred
def g_law_draw : GS := gSeq (gIf (gAnd (gB (gBin eqD (gBin ixD (gVc 0) (gC (.int 2))) (gC (.int 0)))) (gB (gBin ltD (gBin ixD (gVc 0) (gC (.int 1))) (gCall lenD (gCons (gBin ixD (gVc 0) (gC (.int 0))) (gNil)))))) (gSeq (gSetIx 0 (gC (.int 2)) (gBin ixD (gBin ixD (gVc 0) (gC (.int 0))) (gBin ixD (gVc 0) (gC (.int 1))))) (gSetIx 0 (gC (.int 1)) (gBin addD (gBin ixD (gVc 0) (gC (.int 1))) (gC (.int 1))))) (gIf (gB (gBin eqD (gBin ixD (gVc 0) (gC (.int 2))) (gC (.int 0)))) (gRet (gFn 0 2 f_law_stirred (gCons (gVc 0) (gCons (gV 1) (gNil))))) (gNx))) (gSeq (gSet 2 (gBin modD (gCall intD (gCons (gBin ixD (gVc 0) (gC (.int 2))) (gNil))) (gV 1))) (gSeq (gSetIx 0 (gC (.int 2)) (gBin fdivD (gBin ixD (gVc 0) (gC (.int 2))) (gV 1))) (gRet (gV 2))))
def f_law_draw : List D → RF := runF 0 3 g_law_draw
def g_law_alike (rec : List D → RF) : GS := gSeq (gIf (gTru (gIsi2 .list .tuple (gV 1))) (gSeq (gIf (gOr (gNot (gTru (gIsi2 .list .tuple (gV 0)))) (gB (gBin neD (gIsi .list (gV 0)) (gIsi .list (gV 1))))) (gRet (gC (.bl false))) (gNx)) (gSeq (gIf (gB (gBin neD (gCall lenD (gCons (gV 0) (gNil))) (gCall lenD (gCons (gV 1) (gNil))))) (gRet (gC (.bl false))) (gNx)) (gRet (gCall allD (gCons (gLc (gRng1 (gCons (gCall lenD (gCons (gV 1) (gNil))) (gNil))) (gtName 2) (gYes) (gFn 99 2 rec (gCons (gBin ixD (gV 0) (gV 2)) (gCons (gBin ixD (gV 1) (gV 2)) (gNil)))) [2]) (gNil)))))) (gNx)) (gSeq (gIf (gOr (gB (gBin neD (gIsi .bool (gV 0)) (gIsi .bool (gV 1)))) (gB (gBin neD (gIsi .int (gV 0)) (gIsi .int (gV 1))))) (gRet (gC (.bl false))) (gNx)) (gRet (gAndV (gBin eqD (gIsi .str (gV 0)) (gIsi .str (gV 1))) (gBin eqD (gV 0) (gV 1)))))
def r_law_alike : Nat → List D → RF
  | 0 => fun _ => .bad
  | n + 1 => runF 99 3 (g_law_alike (r_law_alike n))
def f_law_alike : List D → RF := r_law_alike 20
def g_law_told : GS := gRet (gLc (gRng1 (gCons (gBin addD (gBin subD (gCall lenD (gCons (gV 0) (gNil))) (gV 1)) (gC (.int 1))) (gNil))) (gtName 2) (gYes) (gCall sumD (gCons (gSl (gV 0) (gPart (gV 2)) (gPart (gBin addD (gV 2) (gV 1)))) (gNil))) [2])
def f_law_told : List D → RF := runF 99 3 g_law_told
def g_law_days_k41 : GS := gSeq (gSet 3 (gFn 0 2 f_law_draw (gCons (gVc 0) (gCons (gC (.int 4)) (gNil))))) (gSeq (gIf (gB (gBin eqD (gV 3) (gC (.int 0)))) (gRet (gLc (gRng1 (gCons (gV 1) (gNil))) (gtName 4) (gYes) (gBin mulD (gV 2) (gFn 0 2 f_law_draw (gCons (gVc 0) (gCons (gC (.int 2)) (gNil))))) [4])) (gNx)) (gRet (gLc (gRng1 (gCons (gV 1) (gNil))) (gtName 4) (gYes) (gFn 0 2 f_law_draw (gCons (gVc 0) (gCons (gBin addD (gV 2) (gC (.int 1))) (gNil)))) [4])))
def f_law_days_k41 : List D → RF := runF 0 5 g_law_days_k41
def g_law_shared : GS := gSeq (gWhile (gB (gBin gtD (gV 1) (gC (.int 0)))) (gPar2F 0 1 (gCons (gV 1) (gCons (gBin modD (gCall intD (gCons (gV 0) (gNil))) (gV 1)) (gNil))))) (gRet (gV 0))
def f_law_shared : List D → RF := runF 99 2 g_law_shared
def g_law_ways_k41 : GS := gSeq (gSet 3 (gLst (gCons (gLst (gNil)) (gNil)))) (gSeq (gFor (gRng1 (gCons (gV 1) (gNil))) (gtName 4) (gSeq (gSet 7 (gLst (gNil))) (gSeq (gFor (gSeqI (gV 3)) (gtName 6) (gSet 7 (gBin addD (gV 7) (gLc (gRng1 (gCons (gBin addD (gV 2) (gC (.int 1))) (gNil))) (gtName 9) (gYes) (gBin addD (gV 6) (gLst (gCons (gV 9) (gNil)))) [9])))) (gSet 3 (gV 7))))) (gSeq (gSetC 5 (gLst (gNil))) (gSeq (gFor (gSeqI (gV 3)) (gtName 6) (gIf (gB (gBin eqD (gCall sumD (gCons (gV 6) (gNil))) (gBin ixD (gV 0) (gC (.int 0))))) (gSeq (gFor (gRng2 (gCons (gC (.int 1)) (gCons (gCall lenD (gCons (gV 0) (gNil))) (gNil)))) (gtName 8) (gSet 6 (gBin addD (gV 6) (gLst (gCons (gBin subD (gBin addD (gBin ixD (gV 6) (gBin subD (gV 8) (gC (.int 1)))) (gBin ixD (gV 0) (gV 8))) (gBin ixD (gV 0) (gBin subD (gV 8) (gC (.int 1))))) (gNil)))))) (gIf (gAnd (gB (gBin geD (gCall minD (gCons (gV 6) (gNil))) (gC (.int 0)))) (gB (gBin leD (gCall maxD (gCons (gV 6) (gNil))) (gV 2)))) (gDrop (gApp 5 (gV 6))) (gNx))) (gNx))) (gRetC 5))))
def f_law_ways_k41 : List D → RF := runF 99 10 g_law_ways_k41
def g_law_ring : GS := gRet (gLc (gRng1 (gCons (gCall lenD (gCons (gV 0) (gNil))) (gNil))) (gtName 2) (gYes) (gCall sumD (gCons (gSl (gBin mulD (gV 0) (gC (.int 9))) (gPart (gV 2)) (gPart (gBin addD (gV 2) (gV 1)))) (gNil))) [2])
def f_law_ring : List D → RF := runF 99 3 g_law_ring
def g_law_open : GS := gSeq (gSet 2 (gCall lenD (gCons (gV 0) (gNil)))) (gSeq (gSetC 3 (gBin mulD (gLst (gCons (gC .non) (gNil))) (gV 2))) (gSeq (gFor (gRng1 (gCons (gFn 99 2 f_law_shared (gCons (gV 2) (gCons (gV 1) (gNil)))) (gNil))) (gtName 4) (gSeq (gPar2F 6 7 (gCons (gV 4) (gCons (gC (.int 0)) (gNil)))) (gSeq (gWhile (gB (gBin isD (gBin ixD (gVc 3) (gV 6)) (gC .non))) (gSeq (gSetIx 3 (gV 6) (gV 7)) (gSeq (gSet 7 (gBin subD (gBin addD (gV 7) (gBin ixD (gV 0) (gBin modD (gCall intD (gCons (gBin addD (gV 6) (gC (.int 1))) (gNil))) (gV 2)))) (gBin ixD (gV 0) (gV 6)))) (gSet 6 (gBin modD (gCall intD (gCons (gBin addD (gV 6) (gV 1)) (gNil))) (gV 2)))))) (gIf (gB (gBin neD (gV 7) (gC (.int 0)))) (gRet (gC (.str "ring"))) (gNx))))) (gSeq (gSet 5 (gBin subD (gBin ixD (gV 0) (gC (.int 0))) (gCall sumD (gCons (gSl (gVc 3) (gNoP) (gPart (gV 1))) (gNil))))) (gRet (gIte (gB (gBin neD (gBin modD (gCall intD (gCons (gV 5) (gNil))) (gBin fdivD (gV 1) (gFn 99 2 f_law_shared (gCons (gV 2) (gCons (gV 1) (gNil)))))) (gC (.int 0)))) (gC (.str "parts")) (gC (.str "")))))))
def f_law_open : List D → RF := runF 99 8 g_law_open
def c_law_k41_1 : GE := gLst (gCons (gFn 99 2 f_ring_line (gCons (gLst (gCons (gC (.int 3)) (gCons (gC (.int 5)) (gCons (gC (.int 7)) (gCons (gC (.int 5)) (gNil)))))) (gCons (gC (.int 2)) (gNil)))) (gCons (gFn 99 2 f_ring_line (gCons (gLst (gCons (gC (.int 3)) (gCons (gC (.int 5)) (gCons (gC (.int 7)) (gCons (gC (.int 9)) (gCons (gC (.int 6)) (gNil))))))) (gCons (gC (.int 2)) (gNil)))) (gCons (gFn 99 2 f_ring_sums (gCons (gLst (gCons (gC (.int 1)) (gCons (gC (.int 2)) (gCons (gC (.int 3)) (gCons (gC (.int 4)) (gCons (gC (.int 5)) (gNil))))))) (gCons (gC (.int 2)) (gNil)))) (gNil))))
def c_law_k41_2 : GE := gLst (gCons (gFn 99 2 f_ring_line (gCons (gLst (gCons (gC (.int 7)) (gNil))) (gCons (gC (.int 1)) (gNil)))) (gCons (gFn 99 2 f_ring_line (gCons (gLst (gCons (gC (.int 4)) (gCons (gC (.int 4)) (gCons (gC (.int 4)) (gNil))))) (gCons (gC (.int 3)) (gNil)))) (gCons (gFn 99 2 f_ring_line (gCons (gFn 99 2 f_ring_sums (gCons (gBin mulD (gLst (gCons (gBin subD (gBin powD (gC (.int 10)) (gC (.int 30))) (gC (.int 1))) (gNil))) (gC (.int 8))) (gCons (gC (.int 7)) (gNil)))) (gCons (gC (.int 7)) (gNil)))) (gNil))))
def c_law_k41_3 : GE := gFn 99 2 f_law_alike (gCons (gFn 99 2 f_ring_line (gCons (gFn 99 2 f_ring_sums (gCons (gBin mulD (gLst (gCons (gBin subD (gC (.int 1)) (gBin powD (gC (.int 10)) (gC (.int 30)))) (gNil))) (gC (.int 9))) (gCons (gC (.int 6)) (gNil)))) (gCons (gC (.int 6)) (gNil)))) (gCons (gBin mulD (gLst (gCons (gBin subD (gC (.int 3)) (gBin mulD (gC (.int 3)) (gBin powD (gC (.int 10)) (gC (.int 30))))) (gNil))) (gC (.int 7))) (gNil)))
def g_law_k41 : GS := gSeq (gSetC 1 (gFn 99 1 f_law_bag (gCons (gV 0) (gNil)))) (gSeq (gFor (gRng1 (gCons (gC (.int 10)) (gNil))) (gtName 2) (gSeq (gSet 5 (gBin ixD (gLst (gCons (gBin addD (gC (.int 1)) (gFn 0 2 f_law_draw (gCons (gVc 1) (gCons (gC (.int 9)) (gNil))))) (gCons (gBin addD (gC (.int 1)) (gFn 0 2 f_law_draw (gCons (gVc 1) (gCons (gC (.int 60)) (gNil))))) (gNil)))) (gFn 0 2 f_law_draw (gCons (gVc 1) (gCons (gC (.int 2)) (gNil)))))) (gSeq (gAsg (gtTup 2 (gtCons (gtName 7) (gtCons (gtName 8) (gtNil)))) (gTup (gCons (gBin addD (gC (.int 1)) (gFn 0 2 f_law_draw (gCons (gVc 1) (gCons (gCall min2D (gCons (gC (.int 8)) (gCons (gV 5) (gNil)))) (gNil))))) (gCons (gBin ixD (gLst (gCons (gC (.int 3)) (gCons (gC (.int 99)) (gCons (gBin powD (gC (.int 10)) (gC (.int 28))) (gNil))))) (gFn 0 2 f_law_draw (gCons (gVc 1) (gCons (gC (.int 3)) (gNil))))) (gNil))))) (gSeq (gSet 6 (gLc (gSeqI (gFn 0 3 f_law_days_k41 (gCons (gVc 1) (gCons (gV 5) (gCons (gV 8) (gNil)))))) (gtName 12) (gYes) (gBin subD (gV 12) (gBin fdivD (gBin mulD (gFn 0 2 f_law_draw (gCons (gVc 1) (gCons (gC (.int 2)) (gNil)))) (gV 8)) (gC (.int 2)))) [12])) (gSeq (gPar2F 9 4 (gCons (gCall listD (gCons (gV 6) (gNil))) (gCons (gFn 99 2 f_law_ring (gCons (gV 6) (gCons (gV 7) (gNil)))) (gNil)))) (gSeq (gSetC 3 (gFnK 99 2 2 [1, 0] f_ring_sums (gCons (gV 7) (gCons (gV 6) (gNil))))) (gSeq (gIf (gOr (gNot (gTru (gFn 99 2 f_law_alike (gCons (gVc 3) (gCons (gV 4) (gNil)))))) (gB (gBin neD (gV 6) (gV 9)))) (gRet (gC (.bl false))) (gNx)) (gSeq (gDrop (gApp 3 (gC (.int 0)))) (gSeq (gIf (gB (gBin neD (gFn 99 2 f_ring_sums (gCons (gV 6) (gCons (gV 7) (gNil)))) (gV 4))) (gRet (gC (.bl false))) (gNx)) (gSeq (gPar2F 10 11 (gCons (gFn 99 2 f_law_told (gCons (gV 6) (gCons (gFn 99 2 f_law_shared (gCons (gV 5) (gCons (gV 7) (gNil)))) (gNil)))) (gCons (gCall listD (gCons (gV 4) (gNil))) (gNil)))) (gSeq (gSetC 3 (gFnK 99 2 2 [1, 0] f_ring_line (gCons (gV 7) (gCons (gV 4) (gNil))))) (gSeq (gIf (gOr (gNot (gTru (gFn 99 2 f_law_alike (gCons (gVc 3) (gCons (gV 10) (gNil)))))) (gB (gBin neD (gV 4) (gV 11)))) (gRet (gC (.bl false))) (gNx)) (gSeq (gDrop (gApp 3 (gC (.int 0)))) (gIf (gB (gBin neD (gFn 99 2 f_ring_line (gCons (gV 4) (gCons (gV 7) (gNil)))) (gV 10))) (gRet (gC (.bl false))) (gNx))))))))))))))) (gSeq (gSetC 3 (c_law_k41_1)) (gSeq (gSetC 3 (gBin addD (gVc 3) (c_law_k41_2))) (gSeq (gSet 4 (gLst (gCons (gLst (gCons (gC (.int 3)) (gCons (gC (.int 5)) (gCons (gC (.int 7)) (gNil))))) (gCons (gLst (gCons (gC (.int 1)) (gCons (gC (.int 2)) (gCons (gC (.int 3)) (gCons (gC (.int 4)) (gCons (gC (.int 5)) (gNil))))))) (gCons (gLst (gCons (gC (.int 3)) (gCons (gC (.int 5)) (gCons (gC (.int 7)) (gCons (gC (.int 9)) (gCons (gC (.int 6)) (gNil))))))) (gCons (gLst (gCons (gC (.int 7)) (gNil))) (gCons (gLst (gCons (gC (.int 4)) (gNil))) (gCons (gBin mulD (gLst (gCons (gBin subD (gBin powD (gC (.int 10)) (gC (.int 30))) (gC (.int 1))) (gNil))) (gC (.int 8))) (gNil))))))))) (gSeq (gIf (gNot (gTru (gFn 99 2 f_law_alike (gCons (gVc 3) (gCons (gV 4) (gNil)))))) (gRet (gC (.bl false))) (gNx)) (gRet (c_law_k41_3)))))))
def f_law_k41 : List D → RF := runF 99 13 g_law_k41
def g_law_dip : GS := gSeq (gIf (gB (gBin gtD (gBin ixD (gVc 0) (gC (.int 0))) (gC (.int 0)))) (gSeq (gSet 3 (gBin modD (gCall intD (gCons (gBin ixD (gVc 0) (gC (.int 0))) (gNil))) (gV 1))) (gSeq (gSetIx 0 (gC (.int 0)) (gBin fdivD (gBin ixD (gVc 0) (gC (.int 0))) (gV 1))) (gRet (gV 3)))) (gNx)) (gSeq (gSetIx 0 (gC (.int 2)) (gBin addD (gBin ixD (gVc 0) (gC (.int 2))) (gC (.int 1)))) (gSeq (gSet 2 (gBin modD (gCall intD (gCons (gBin powD (gBin addD (gBin ixD (gVc 0) (gC (.int 1))) (gBin mulD (gC (.int 60000049)) (gBin ixD (gVc 0) (gC (.int 2))))) (gC (.int 3))) (gNil))) (gBin addD (gBin powD (gC (.int 10)) (gC (.int 47))) (gC (.int 91))))) (gSeq (gSet 2 (gBin modD (gCall intD (gCons (gBin powD (gBin addD (gV 2) (gBin mulD (gC (.int 35000021)) (gBin ixD (gVc 0) (gC (.int 2))))) (gC (.int 3))) (gNil))) (gBin addD (gBin powD (gC (.int 10)) (gC (.int 46))) (gC (.int 79))))) (gRet (gBin modD (gCall intD (gCons (gBin fdivD (gV 2) (gC (.int 1073741827))) (gNil))) (gV 1))))))
def f_law_dip : List D → RF := runF 0 4 g_law_dip
def g_law_jar : GS := gSeq (gSet 2 (gIte (gB (gBin ltD (gV 1) (gCall lenD (gCons (gV 0) (gNil))))) (gCall absD (gCons (gBin ixD (gV 0) (gV 1)) (gNil))) (gC (.int 0)))) (gRet (gLst (gCons (gCall max2D (gCons (gC (.int 0)) (gCons (gBin subD (gV 2) (gBin powD (gC (.int 10)) (gC (.int 18)))) (gNil)))) (gCons (gBin addD (gBin mulD (gBin modD (gCall intD (gCons (gV 2) (gNil))) (gBin addD (gBin powD (gC (.int 10)) (gC (.int 43))) (gC (.int 57)))) (gC (.int 101))) (gBin mulD (gC (.int 70001)) (gV 1))) (gCons (gC (.int 0)) (gNil))))))
def f_law_jar : List D → RF := runF 99 3 g_law_jar
def g_law_top : GS := gSeq (gSet 1 (gFn 0 2 f_law_dip (gCons (gVc 0) (gCons (gC (.int 3)) (gNil))))) (gSeq (gIf (gB (gBin eqD (gV 1) (gC (.int 2)))) (gRet (gBin subD (gBin subD (gBin powD (gC (.int 10)) (gC (.int 30))) (gC (.int 1))) (gFn 0 2 f_law_dip (gCons (gVc 0) (gCons (gBin powD (gC (.int 10)) (gC (.int 30))) (gNil)))))) (gNx)) (gRet (gFn 0 2 f_law_dip (gCons (gVc 0) (gCons (gBin ixD (gLst (gCons (gC (.int 4)) (gCons (gC (.int 30)) (gNil)))) (gV 1)) (gNil))))))
def f_law_top : List D → RF := runF 0 2 g_law_top
def g_law_high : GS := gSeq (gSet 2 (gFn 0 1 f_law_top (gCons (gVc 0) (gNil)))) (gRet (gIte (gB (gBin gtD (gV 2) (gBin powD (gC (.int 10)) (gC (.int 6))))) (gBin fdivD (gV 2) (gV 1)) (gV 2)))
def f_law_high : List D → RF := runF 0 3 g_law_high
def g_law_size : GS := gSeq (gSet 2 (gBin addD (gC (.int 1)) (gFn 0 2 f_law_dip (gCons (gVc 0) (gCons (gC (.int 8)) (gNil)))))) (gRet (gTup (gCons (gV 2) (gCons (gBin addD (gV 2) (gFn 0 2 f_law_dip (gCons (gVc 0) (gCons (gBin addD (gBin subD (gV 1) (gV 2)) (gC (.int 1))) (gNil))))) (gNil)))))
def f_law_size : List D → RF := runF 0 3 g_law_size
def g_law_days : GS := gSeq (gSet 3 (gFn 0 2 f_law_dip (gCons (gVc 0) (gCons (gC (.int 3)) (gNil))))) (gSeq (gSet 4 (gLc (gRng1 (gCons (gV 1) (gNil))) (gtName 5) (gYes) (gFn 0 2 f_law_dip (gCons (gVc 0) (gCons (gBin addD (gV 2) (gC (.int 1))) (gNil)))) [5])) (gSeq (gIf (gB (gBin eqD (gV 3) (gC (.int 0)))) (gSet 4 (gLc (gSeqI (gV 4)) (gtName 6) (gYes) (gBin ixD (gLst (gCons (gC (.int 0)) (gCons (gV 2) (gCons (gV 6) (gNil))))) (gFn 0 2 f_law_dip (gCons (gVc 0) (gCons (gC (.int 3)) (gNil))))) [6])) (gNx)) (gRet (gV 4))))
def f_law_days : List D → RF := runF 0 7 g_law_days
def g_is_sums : GS := gRet (gAndV (gIsi .list (gV 0)) (gAndV (gChain leD leD (gC (.int 1)) (gCall lenD (gCons (gV 0) (gNil))) (gC (.int 67))) (gFn 99 1 f_are_integers (gCons (gV 0) (gNil)))))
def f_is_sums : List D → RF := runF 99 1 g_is_sums
def g_need_length : GS := gIf (gNot (gB (gChain leD leD (gC (.int 1)) (gV 0) (gC (.int 8))))) (gNever) (gNx)
def f_need_length : List D → RF := runF 99 1 g_need_length
def g_need_sums : GS := gSeq (gIf (gNot (gTru (gFn 99 1 f_is_sums (gCons (gV 0) (gNil))))) (gNever) (gNx)) (gSeq (gDrop (gFn 99 1 f_need_length (gCons (gV 1) (gNil)))) (gIf (gB (gBin gtD (gBin subD (gBin addD (gCall lenD (gCons (gV 0) (gNil))) (gV 1)) (gC (.int 1))) (gC (.int 67)))) (gNever) (gNx)))
def f_need_sums : List D → RF := runF 99 2 g_need_sums
def g_need_day : GS := gIf (gNot (gB (gChain leD ltD (gC (.int 0)) (gV 0) (gV 1)))) (gNever) (gNx)
def f_need_day : List D → RF := runF 99 2 g_need_day
def g_day_count : GS := gRet (gBin subD (gBin addD (gCall lenD (gCons (gV 0) (gNil))) (gV 1)) (gC (.int 1)))
def f_day_count : List D → RF := runF 99 2 g_day_count
def g_offsets_in : GS := gSeq (gSetC 2 (gBin mulD (gLst (gCons (gC (.int 0)) (gNil))) (gV 1))) (gSeq (gFor (gRng1 (gCons (gBin subD (gCall lenD (gCons (gV 0) (gNil))) (gC (.int 1))) (gNil))) (gtName 3) (gDrop (gApp 2 (gBin subD (gBin addD (gBin ixD (gVc 2) (gV 3)) (gBin ixD (gV 0) (gBin addD (gV 3) (gC (.int 1))))) (gBin ixD (gV 0) (gV 3)))))) (gRetC 2))
def f_offsets_in : List D → RF := runF 99 4 g_offsets_in
def g_tie_between : GS := gSeq (gDrop (gFn 99 2 f_need_sums (gCons (gV 0) (gCons (gV 1) (gNil))))) (gSeq (gDrop (gFn 99 2 f_need_day (gCons (gV 2) (gCons (gFn 99 2 f_day_count (gCons (gV 0) (gCons (gV 1) (gNil)))) (gNil))))) (gSeq (gDrop (gFn 99 2 f_need_day (gCons (gV 3) (gCons (gFn 99 2 f_day_count (gCons (gV 0) (gCons (gV 1) (gNil)))) (gNil))))) (gSeq (gIf (gB (gBin neD (gBin modD (gBin subD (gV 3) (gV 2)) (gV 1)) (gC (.int 0)))) (gRet (gC .non)) (gNx)) (gSeq (gSet 4 (gFn 99 2 f_offsets_in (gCons (gV 0) (gCons (gV 1) (gNil))))) (gRet (gBin subD (gBin ixD (gV 4) (gV 3)) (gBin ixD (gV 4) (gV 2))))))))
def f_tie_between : List D → RF := runF 99 5 g_tie_between
def g_are_all_classes : GS := gSeq (gIf (gOr (gNot (gTru (gFn 99 1 f_are_integers (gCons (gV 0) (gNil))))) (gB (gBin neD (gCall lenD (gCons (gV 0) (gNil))) (gV 2)))) (gRet (gC (.bl false))) (gNx)) (gSeq (gIf (gNot (gTru (gCall allD (gCons (gLc (gSeqI (gV 0)) (gtName 3) (gYes) (gChain leD ltD (gC (.int 0)) (gV 3) (gFn 99 2 f_day_count (gCons (gV 1) (gCons (gV 2) (gNil))))) [3]) (gNil))))) (gRet (gC (.bl false))) (gNx)) (gRet (gBin eqD (gLenMet (gLc (gSeqI (gV 0)) (gtName 3) (gYes) (gBin modD (gV 3) (gV 2)) [3])) (gV 2))))
def f_are_all_classes : List D → RF := runF 99 4 g_are_all_classes
def g_total_in : GS := gSeq (gSet 3 (gFn 99 2 f_offsets_in (gCons (gV 0) (gCons (gV 1) (gNil))))) (gRet (gBin addD (gBin ixD (gV 0) (gC (.int 0))) (gCall sumD (gCons (gLc (gSeqI (gV 2)) (gtName 4) (gYes) (gBin ixD (gV 3) (gV 4)) [4]) (gNil)))))
def f_total_in : List D → RF := runF 99 5 g_total_in
def g_forced_total : GS := gSeq (gDrop (gFn 99 2 f_need_sums (gCons (gV 0) (gCons (gV 1) (gNil))))) (gSeq (gIf (gNot (gTru (gFn 99 3 f_are_all_classes (gCons (gV 2) (gCons (gV 0) (gCons (gV 1) (gNil))))))) (gNever) (gNx)) (gRet (gFn 99 3 f_total_in (gCons (gV 0) (gCons (gV 1) (gCons (gV 2) (gNil)))))))
def f_forced_total : List D → RF := runF 99 3 g_forced_total
def g_sums_of : GS := gSeq (gIf (gNot (gTru (gFn 99 1 f_is_sums (gCons (gV 0) (gNil))))) (gNever) (gNx)) (gSeq (gDrop (gFn 99 1 f_need_length (gCons (gV 1) (gNil)))) (gSeq (gIf (gB (gBin gtD (gV 1) (gCall lenD (gCons (gV 0) (gNil))))) (gNever) (gNx)) (gRet (gLc (gRng1 (gCons (gBin addD (gBin subD (gCall lenD (gCons (gV 0) (gNil))) (gV 1)) (gC (.int 1))) (gNil))) (gtName 2) (gYes) (gCall sumD (gCons (gSl (gV 0) (gPart (gV 2)) (gPart (gBin addD (gV 2) (gV 1)))) (gNil))) [2]))))
def f_sums_of : List D → RF := runF 99 3 g_sums_of
def g_days_of : GS := gSeq (gDrop (gFn 99 2 f_need_sums (gCons (gV 0) (gCons (gV 1) (gNil))))) (gRet (gFn 99 2 f_day_count (gCons (gV 0) (gCons (gV 1) (gNil)))))
def f_days_of : List D → RF := runF 99 2 g_days_of
end
end G

namespace G
open PySem PySem.Spec DL
local macro_rules
  | `(tactic| simp_arith [$ts,*]) => `(tactic| simp (maxSteps := 10000000) (disch := first | assumption | omega | (simp only [List.length_map, List.length_range, List.length_cons, List.length_nil, List.length_append, List.length_replicate, $ts,*]; omega)) only [re_ok_, re_own_, re_ownT_, rf_ownT_, rs_retT_, re_exn_, rb_ok_, rb_exn_, rl_ok_, rl_exn_, rs_nx_, rs_ret_, rs_retO_, rs_bk_, rs_ct_, rs_exn_, rf_ok_, rf_own_, rf_exn_, rt_some, r_bin, kBin1_ok, kBin1_own, kBin1_exn, kBin2_ok, kBin2_own, kBin1_ownT, kBin2_ownT, kBin2_exn, r_un, kUn_ok, kUn_own, kUn_exn, r_b, kB_ok, kB_own, kB_exn, r_tru, kTru_ok, kTru_own, kTru_exn, truB_int, truB_non, truB_lst, truB_tup, r_not, kNot_ok, kNot_exn, r_and, kAnd_ok, kAnd_exn, r_or, kOr_ok, kOr_exn, r_ite, kIte_ok, kIte_exn, r_andV, kAndV_ok, kAndV_exn, r_orV, kOrV_ok, kOrV_exn, r_notV, kNotV_ok, kNotV_exn, r_chain, kCh1_ok, kCh1_exn, kCh2_ok, kCh2_exn, kCh3_ok, kCh3_exn, kCh4_ok, kCh4_exn, r_cons, kCons1_ok, kCons1_own, kCons1_ownT, kCons1_exn, kCons2_ok, kCons2_exn, r_lst, kLst_ok, kLst_exn, r_tup, kTup_ok, kTup_exn, r_call, kCall_ok, kCall_exn, r_part, kPart_ok, kPart_exn, r_sl, kSl1_ok, kSl1_own, kSl1_exn, kSl2_no, kSl2_at, kSl3_no, kSl3_at, sl_v, sl_l, slV_l, r_rev, kRev_ok, kRev_own, revV_l, top_int, top_bl, top_str, top_non, top_lst, top_tup, top_dic, top_scr, len_var, lenS_l, len_t, sum_var, onS_l, max_var, min_var, max_l, min_l, sorted_var, sorted_l, any_l, list_var, listS_l, list_t, tuple_l, int_b, add_var, add_l, addV_l, addL_l, mul_l1, map_snoc, ixL_enc, ixL_encT, ixL_scr, ixLt0, ixLt1, r_seq, kSeq_nx, kSeq_ret, kSeq_retT, kSeq_retO, kSeq_bk, kSeq_ct, kSeq_exn, r_if, kIf_ok, kIf_exn, r_set, kSet_ok, kSet_own, kSet_ownT, kSet_exn, r_setC, kSetC_own, kSetC_exn, r_ret, kRet_ok, kRet_own, kRet_ownT, kRet_exn, r_drop, kDrop_ok, kDrop_own, kDrop_ownT, kDrop_exn, r_asg, kAsg_ok, kAsg_own, kAsg_ownT, kAsg_exn, aug_e, r_aug, kAug_ok, kAug_exn, r_setIx, kSx1_ok, kSx1_own, kSx1_exn, kSx2_ok, kSx2_exn, r_app, kApp_ok, kApp_own, kApp_exn, appS_bo, r_rng1, kRng1_ok, kRng1_exn, r_rng2, kRng2_ok, kRng2_exn, r_rng3, kRng3_ok, kRng3_exn, r_seqI, frz_v, frz_l, frzS_mu, frzS_ro, frO_s, kSeqI_l, kSeqI_t, kSeqI_ol, kSeqI_v, kSeqI_exn, r_enum, kEnum_ok, kEnum_exn, enO_s, r_zip, kZip_ok, kZip_exn, ziO1_s, ziO2_s, r_for, kFor_ok, kFor_exn, kTurn_s, kLoop_nx, kLoop_ct, kLoop_bk, kLoop_ret, kLoop_retT, kLoop_retO, kLoop_exn, kUnrT_s, kUnr_nx, kUnr_ct, kUnr_bk, kUnr_ret, kUnr_retT, kUnr_retO, kUnr_exn, kWt_ok, kWt_exn, kWb_nx, kWb_ct, kWb_bk, kWb_ret, kWb_retO, kWb_exn, r_lc, kLc_ok, kLc_exn, kLcT_s, kLcB_ok, kLcE_ok, kLcE_own, r_yes, kLcST_s, kLcSB_ok, kLcS_ok, kLcS_own, r_run, kFin_nx, kFin_ret, kFin_retT, kFin_retO, kFin_exn, r_fn, kFn_ok, kFn_exn, r_fnK, kFnK_ok, kFnK_exn, permC_s, permL_nil, permL_cons, bor_e, borS_n, borS_v, borM_mu, borM_bo, r_appF, kBor_s, clash_n, clash_s, clash_0, kEnd_ok, kEnd_own, kEnd_ownT, kLok_ownT, kEnd_exn0, kLok_ok, kLok_own, back_n, back_s, lock_nil, lock_cons, lockS_mu, lockS_ro, lent_nil, lent_var, lent_int, lent_bl, lent_str, lent_non, lent_lst, lent_tup, lent_scr, lent_dic, safe_non, safe_bl, safe_int, safe_str, safe_tup_, safe_lst_, safeA_nil, safeA_cons, safeI_non, safeI_lst, safeA_ints, contB_e, contS_fz, contS_n, r_isi, kIsi_ok, kIsi_own, kIsi_ownT, kIsi_exn, r_lstR, kLstR_ok, kLstR_exn, lstK1, lstK2, r_ls, kLs_ok, kLs_own, lsS_l, r_par2, kPar2_ok, kPar2_exn, r_par3, kPar3_ok, kPar3_exn, r_par, kPb_ok, kPb_own, kPc_ok, kPc_own, kPd_s, kPe_s, putS_t, putS_f, r_mov, movS_s, r_popAt, kPop_ok, kPop_exn, popAtS_mu, pop_e, safeI_jd, ixL_encN, r_while, kUnrT_s, res_v, eq_v1, ne_v1, eq_v2, ne_v2, res_LI, res_nil, res_non, res_int, res_str, eqR_li, neR_li, eqR_nil, neR_nil, eqR_nilN, neR_nilN, ln_snoc, gt_lst, Rel, SStp, Rel, r_lm, kLm_ok, kLm_own, lmS_l, r_bits, kBits_ok, r_isi2, kIsi2_ok, isa2_lst, isa2_tup, isa2_int, isa2_bl, isa2_non, isa2_str, r_ulk, kUlk_ok, r_setO, kSetO_own, kSetO_non, kSetO_exn, r_parN, PkN_nil, PkN_cons, kPk_ok, kPk_own, PtN_nil, PtN_t, PtN_f, addI_ii, putIx_e, itm_e, itmS_mu, itmS_bo, r_augIx, kAx1_ok, axM_s, kAx3_ok, r_fz, fzO_s, isN_non, isnN_non, isN_tup, isnN_tup, isN_lst, isnN_lst, isN_int, isnN_int, isN_str, isnN_str, isN_bl, isnN_bl, isB, isnB, sortP_l, r_sl3, kS30_ok, kS30_own, kS3a_no, kS3a_at, kS3b_no, kS3b_at, kS3c_no, kS3c_at, s3d_i, r_dic0, r_excV, top_exc, lent_exc, isi_int_exc, isi_bool_exc, isi_str_exc, isi_list_exc, isi_tuple_exc, isi_dict_exc, r_tupB, kTupB_own, tbS_fz, r_asgT, kAsgT_T, kAsgT_ok, e_c, e_v, e_vc, ofF_fz, ofS_fz, ofS_cl, e_nil, noP_e, s_nx, s_bk, s_ct, s_retN, retC_e, retS_mu, toB_bl, truB_bl, add_ii, sub_ii, neg_i, lt_ii, le_ii, gt_ii, ge_ii, mul_ii, fdiv_ii, mod_ii, pow_ii, abs_m, int_i, max_m, min_m, len_l, len_s, sum_l, all_l, ix_var, ix_lst, ix_tup, ix_scr, ixL0, ixL1, ixL2, nc_get, nc_fz, nc_none, nc_map, fr_get, fr_none, fr_fz, fr_mu, fr_ro, isL_get, isL_cl, co_cl, top_v, set_bo0, set_bo1, set_bo2, appS_mu, appS_bo, cont_cl, cont_no, pars_0, pars9_0, pars9_1, pars9_2, pars9_3, pars9_4, pars9_5, pars9_6, pars9_7, pars9_8, list_li, repr_v, reprX_li, repr_li, repr_int, neq_li, neq_sh, neq_shI, eq_li, eq_ii, ne_ii, gt_tup, gt_cons, gtB_s, gt_nil, gt_name, optO_s, rest_nil, rest_cons, wipe_nil, wipe_cons, lstK3, isi_int_non, isi_int_bl, isi_int_int, isi_int_str, isi_int_lst, isi_int_tup, isi_int_dic, isi_int_scr, isi_bool_non, isi_bool_bl, isi_bool_int, isi_bool_str, isi_bool_lst, isi_bool_tup, isi_bool_dic, isi_bool_scr, isi_str_non, isi_str_bl, isi_str_int, isi_str_str, isi_str_lst, isi_str_tup, isi_str_dic, isi_str_scr, isi_list_non, isi_list_bl, isi_list_int, isi_list_str, isi_list_lst, isi_list_tup, isi_list_dic, isi_list_scr, isi_tuple_non, isi_tuple_bl, isi_tuple_int, isi_tuple_str, isi_tuple_lst, isi_tuple_tup, isi_tuple_dic, isi_tuple_scr, isi_dict_non, isi_dict_bl, isi_dict_int, isi_dict_str, isi_dict_lst, isi_dict_tup, isi_dict_dic, isi_dict_scr, rng_len, List.replicate, List.map_cons, List.map_nil, List.length_cons, List.length_nil, List.length_map, List.length_range, List.length_append, List.getElem?_cons_zero, List.getElem?_cons_succ, List.getElem?_nil, List.getD_cons_zero, List.getD_cons_succ, List.set_cons_zero, List.set_cons_succ, List.set_nil, List.cons_append, List.nil_append, List.append_nil, List.all_cons, List.all_nil, List.isEmpty_cons, List.isEmpty_nil, List.contains_nil, Nat.reduceAdd, Nat.reduceSub, Nat.reduceLeDiff, Nat.reduceEqDiff, Nat.reduceLT, Bool.false_eq_true, reduceIte, decide_true, decide_false, if_true, if_false, Bool.not_true, Bool.not_false, Bool.and_true, Bool.true_and, Bool.and_false, Bool.false_and, Bool.or_true, Bool.true_or, Bool.or_false, Bool.false_or, Bool.and_self, and_self, true_and, and_true, decide_eq_true_eq, Bool.not_eq_true', decide_eq_false_iff_not, Bool.not_eq_eq_eq_not, Bool.not_not, Bool.and_eq_true, Bool.or_eq_true, bne_iff_ne, ne_eq, Option.map_some, Option.map_none, frS_Fs, if_pos, if_neg, decide_eq_true, decide_eq_false, not_false_eq_true, not_true_eq_false, Int.toNat_natCast, Int.reduceToNat, Int.toNat_add, toNat_subL, Int.toNat_emod, Int.toNat_one, Nat.reduceMul, Int.reduceNeg, $ts,*])
  | `(tactic| simp_arith only []) => `(tactic| (simp (disch := assumption) only [List.cons.injEq, exists_and_left, exists_and_right, ex_fz, ex_map, ex_no, ex_sl, ex_mu, ex_ro, ex_nn, ex_cf, ex_P2, ex_P3, ex_mu2, ex_mu3, ex_ro2, ex_ro3, ex_cf2, ex_cf3, ex_nn2, ex_nn3, and_self, and_true, true_and, Option.map_some, Option.map_none]) <;> rfl)
  | `(tactic| simp_arith!) => `(tactic| first | rfl | (simp only [LI, List.range_succ, List.map_append, List.map_cons, List.map_nil, Option.map_some, Option.map_none, List.append_assoc]; done) | (simp only [LI, List.range_succ, List.map_append, List.map_cons, List.map_nil, Option.map_some, Option.map_none, List.append_assoc]; rfl))
section
variable {Q : RF → Prop} {n : Nat} {j : Jr}
theorem dip {m : Int} (h : Jar n j) (hn : n < 100000000) (hm : 0 < m) (hm2 : m < 2 ^ 250) (K : ∀ r j', 0 ≤ r → r < m → Jar (n + 1) j' → Q (.ok (.int r) (jd j'))) : RnF Q (f_law_dip [jd j, .int m]) := by
  obtain ⟨a, b, c⟩ := j
  obtain ⟨h1, h2, h3, h4, h5⟩ := h
  simp only at h1 h2 h3 h4 h5
  have t3 : (3 : Int).toNat = 3 := rfl
  have t47 : (47 : Int).toNat = 47 := rfl
  have t46 : (46 : Int).toNat = 46 := rfl
  have g1 : 0 ≤ (b + 60000049 * (c + 1)) ^ 3 % (10 ^ 47 + 91) := Int.emod_nonneg _ (by decide)
  have g2 : (b + 60000049 * (c + 1)) ^ 3 % (10 ^ 47 + 91) < 10 ^ 47 + 91 := Int.emod_lt_of_pos _ (by decide)
  unfold f_law_dip g_law_dip jd
  rw [r_run]
  simp_arith []
  refine ite_two (fun ha => ?_) fun ha => ?_
  · exact K (a % m) ⟨a / m, b, c⟩ (Int.emod_nonneg _ (by omega)) (Int.emod_lt_of_pos _ hm) ⟨Int.ediv_nonneg h1 (by omega), h2, h3, h4, by show c ≤ _; omega⟩
  · exact K _ ⟨a, b, c + 1⟩ (Int.emod_nonneg _ (by omega)) (Int.emod_lt_of_pos _ hm) ⟨h1, h2, h3, by show 0 ≤ c + 1; omega, by show c + 1 ≤ _; omega⟩
theorem jar (ns : List Int) {k : Int} (hk : 0 ≤ k ∧ k ≤ 1000) (K : ∀ j, Jar 0 j → Q (.own (jd j) .non)) : RnF Q (f_law_jar [.scr ns, .int k]) := by
  have t18 : (18 : Int).toNat = 18 := rfl
  have t43 : (43 : Int).toNat = 43 := rfl
  have fin : ∀ x : Int, Q (.own (.lst [.int (max 0 (x - 10 ^ 18)), .int (x % (10 ^ 43 + 57) * 101 + 70001 * k), .int 0]) .non) := fun x => by
    have h1 : 0 ≤ x % (10 ^ 43 + 57) := Int.emod_nonneg _ (by decide)
    have h2 : x % (10 ^ 43 + 57) < 10 ^ 43 + 57 := Int.emod_lt_of_pos _ (by decide)
    refine K ⟨max 0 (x - 10 ^ 18), x % (10 ^ 43 + 57) * 101 + 70001 * k, 0⟩ ⟨?_, ?_, ?_, ?_, ?_⟩ <;> simp only <;> omega
  have b : ∀ x : Int, (-(2 ^ 250) : Int) < x % (10 ^ 43 + 57) ∧ x % (10 ^ 43 + 57) < 2 ^ 250 := fun x => by
    have h1 : 0 ≤ x % (10 ^ 43 + 57) := Int.emod_nonneg _ (by decide)
    have h2 : x % (10 ^ 43 + 57) < 10 ^ 43 + 57 := Int.emod_lt_of_pos _ (by decide)
    omega
  unfold f_law_jar g_law_jar
  rw [r_run]
  by_cases h : k < ns.length
  · have b1 := b (ns[k.toNat]!.natAbs : Int)
    simp_arith []
    exact fin _
  · have b1 := b 0
    simp_arith []
    exact fin 0
theorem top (h : Jar n j) (hn : n < 90000000) (K : ∀ t j', 0 ≤ t → t < 10 ^ 30 → Jar (n + 10) j' → Q (.ok (.int t) (jd j'))) : RnF Q (f_law_top [jd j]) := by
  have t30 : (30 : Int).toNat = 30 := rfl
  unfold f_law_top g_law_top
  rw [r_run]
  simp_arith []
  refine dip h (by omega) (by omega) (by omega) fun way j w0 w1 h => ?_
  simp_arith []
  refine ite_two (fun h2 => ?_) fun h2 => ?_
  · refine dip h (by omega) (by omega) (by omega) fun r j r0 r1 h => ?_
    simp_arith []
    exact K _ _ (by omega) (by omega) (h.mono (by omega))
  · have : way = 0 ∨ way = 1 := by omega
    rcases this with rfl | rfl <;>
    · simp_arith []
      refine dip h (by omega) (by omega) (by omega) fun r j r0 r1 h => ?_
      simp_arith []
      exact K _ _ (by omega) (by omega) (h.mono (by omega))
theorem high {p : Int} (h : Jar n j) (hn : n < 90000000) (hp : 0 < p ∧ p ≤ 1000) (K : ∀ t j', 0 ≤ t → t < 10 ^ 30 → t * p ≤ 10 ^ 30 + 10 ^ 9 → Jar (n + 10) j' → Q (.ok (.int t) (jd j'))) : RnF Q (f_law_high [jd j, .int p]) := by
  have t6 : (6 : Int).toNat = 6 := rfl
  unfold f_law_high g_law_high
  rw [r_run]
  simp_arith []
  refine top h hn fun t j h0 h1 hj => ?_
  simp_arith []
  refine ite_two (fun q => ?_) fun q => ?_
  · have := Int.ediv_le_self p h0
    have := Int.ediv_mul_le t (show p ≠ 0 by omega)
    exact K _ _ (Int.ediv_nonneg h0 (by omega)) (by omega) (by omega) hj
  · refine K _ _ h0 h1 ?_ hj
    have h2 : t * p ≤ 10 ^ 6 * 1000 := Int.mul_le_mul (by omega) hp.2 (by omega) (by omega)
    omega
theorem size {m : Int} (h : Jar n j) (hn : n < 90000000) (hm : 8 ≤ m ∧ m ≤ 1000) (K : ∀ (s r : Int) j', 1 ≤ s → s ≤ 8 → s ≤ r → r ≤ m → Jar (n + 10) j' → Q (.ok (.tup [.int s, .int r]) (jd j'))) : RnF Q (f_law_size [jd j, .int m]) := by
  unfold f_law_size g_law_size
  rw [r_run]
  simp_arith []
  refine dip h (by omega) (by omega) (by omega) fun s j s0 s1 h => ?_
  simp_arith []
  refine dip h (by omega) (by omega) (by omega) fun r j r0 r1 h => ?_
  simp_arith []
  exact K _ _ _ (by omega) (by omega) (by omega) (by omega) (h.mono (by omega))
theorem days {many top : Int} (h : Jar n j) (hn : n < 90000000) (hm : 0 ≤ many ∧ many ≤ 10000) (ht : 0 ≤ top ∧ top < 2 ^ 240) (K : ∀ (ns : List Int) j', (ns.length : Int) = many → (∀ x ∈ ns, 0 ≤ x ∧ x ≤ top) → Jar (n + 30000) j' → Q (.ok (LI ns) (jd j'))) : RnF Q (f_law_days [jd j, .int many, .int top]) := by
  unfold f_law_days g_law_days
  rw [r_run]
  simp_arith []
  refine dip h (by omega) (by omega) (by omega) fun way j w0 w1 h => ?_
  simp_arith []
  refine lc_stR (enc2 := D.int) (fun k δ => ∃ j, δ = [some (.cl .bo (jd j)), some (.fz (.int (many))), some (.fz (.int (top))), some (.fz (.int (way))), none, none, none] ∧ Jar (n + 1 + k) j) (fun _ b => 0 ≤ b ∧ b ≤ top) ?_ ?_ ?_
  · simp_arith []
    exact ⟨_, rfl, h⟩
  · rintro k δ hk ⟨j, rfl, h⟩
    simp_arith []
    refine dip h (by omega) (by omega) (by omega) fun r j r0 r1 h => ?_
    simp_arith []
    exact ⟨⟨_, rfl, by omega⟩, _, rfl, h⟩
  rintro ns δ' ⟨j, rfl, h⟩ hl hp
  simp_arith []
  refine ite_two (fun hw => ?_) fun hw => ?_
  · refine lc_stM (enc2 := D.int) (fun k δ => ∃ j, δ = [some (.cl .bo (jd j)), some (.fz (.int (many))), some (.fz (.int (top))), some (.fz (.int (way))), some (.fz (LI (ns))), none, none] ∧ Jar (n + 1 + many.toNat + k) j) (fun _ b => 0 ≤ b ∧ b ≤ top) ?_ ?_ ?_
    · simp_arith []
      exact ⟨_, rfl, h⟩
    · rintro k δ hk ⟨j, rfl, h⟩
      simp_arith []
      refine dip h (by omega) (by omega) (by omega) fun r j r0 r1 h => ?_
      have h3 : r = 0 ∨ r = 1 ∨ r = 2 := by omega
      have h4 := hp k hk
      rcases h3 with rfl | rfl | rfl <;>
      · simp_arith []
        exact ⟨⟨_, rfl, by omega⟩, _, rfl, h⟩
    rintro ms δ' ⟨j, rfl, h⟩ hl2 hp2
    simp_arith []
    exact K _ _ (by omega) (all_of_ix hp2) (h.mono (by omega))
  · exact K _ _ (by omega) (all_of_ix hp) (h.mono (by omega))
end
end G

/-! PM: plain facts about sums over days. -/
namespace M
/-- the sum of f 0 .. f (n - 1) -/
def sm (f : Nat → Int) : Nat → Int
  | 0 => 0
  | n + 1 => sm f n + f n
theorem sm_congr {f g : Nat → Int} : ∀ {n : Nat}, (∀ i, i < n → f i = g i) → sm f n = sm g n
  | 0, _ => rfl
  | n + 1, h => by
    show sm f n + f n = sm g n + g n
    rw [sm_congr fun i hi => h i (by omega), h n (by omega)]
theorem sm_add {f g : Nat → Int} : ∀ {n : Nat}, sm (fun i => f i + g i) n = sm f n + sm g n
  | 0 => rfl
  | n + 1 => by
    show sm (fun i => f i + g i) n + (f n + g n) = sm f n + f n + (sm g n + g n)
    rw [sm_add]; omega
theorem sm_sub {f g : Nat → Int} : ∀ {n : Nat}, sm (fun i => f i - g i) n = sm f n - sm g n
  | 0 => rfl
  | n + 1 => by
    show sm (fun i => f i - g i) n + (f n - g n) = sm f n + f n - (sm g n + g n)
    rw [sm_sub]; omega
theorem sm_head {f : Nat → Int} : ∀ {n : Nat}, sm f (n + 1) = f 0 + sm (fun i => f (i + 1)) n
  | 0 => by show 0 + f 0 = f 0 + 0; omega
  | n + 1 => by
    show sm f (n + 1) + f (n + 1) = f 0 + (sm (fun i => f (i + 1)) n + f (n + 1))
    rw [sm_head]; omega
theorem sm_mul {f : Nat → Int} {c : Int} : ∀ {n : Nat}, sm (fun i => c * f i) n = c * sm f n
  | 0 => by show 0 = c * 0; omega
  | n + 1 => by
    show sm (fun i => c * f i) n + c * f n = c * (sm f n + f n)
    rw [sm_mul, Int.mul_add]
theorem sm_const {c : Int} : ∀ {n : Nat}, sm (fun _ => c) n = n * c
  | 0 => by show (0 : Int) = (0 : Nat) * c; simp
  | n + 1 => by
    show sm (fun _ => c) n + c = ((n + 1 : Nat) : Int) * c
    rw [sm_const]
    have : ((n + 1 : Nat) : Int) = (n : Int) + 1 := by omega
    rw [this, Int.add_mul, Int.one_mul]
theorem sm_le {f g : Nat → Int} : ∀ {n : Nat}, (∀ i, i < n → f i ≤ g i) → sm f n ≤ sm g n
  | 0, _ => Int.le_refl _
  | n + 1, h => by
    show sm f n + f n ≤ sm g n + g n
    have h1 := sm_le (n := n) fun i hi => h i (by omega)
    have h2 := h n (by omega)
    omega
theorem sm_split {f : Nat → Int} {m : Nat} : ∀ {n : Nat}, sm f (m + n) = sm f m + sm (fun i => f (m + i)) n
  | 0 => by show sm f m = sm f m + 0; omega
  | n + 1 => by
    show sm f (m + n) + f (m + n) = sm f m + (sm (fun i => f (m + i)) n + f (m + n))
    rw [sm_split]; omega
theorem sum_map_range {f : Nat → Int} : ∀ {n : Nat}, ((List.range n).map f).sum = sm f n
  | 0 => rfl
  | n + 1 => by
    rw [List.range_succ, List.map_append, List.sum_append_int, sum_map_range]
    show sm f n + (f n + 0) = sm f n + f n
    omega
theorem sum_take {l : List Int} : ∀ {n : Nat}, n ≤ l.length → (l.take n).sum = sm (fun i => l[i]!) n
  | 0, _ => by rw [List.take_zero]; rfl
  | n + 1, h => by
    rw [List.take_succ_eq_append_getElem (by omega), List.sum_append_int, sum_take (by omega)]
    show _ + (l[n] + 0) = sm _ n + l[n]!
    rw [getElem!_pos l n (by omega)]
    omega
theorem sum_all {l : List Int} : l.sum = sm (fun i => l[i]!) l.length := by
  have := sum_take (l := l) (n := l.length) (Nat.le_refl _)
  rw [List.take_length] at this
  exact this
theorem get_drop {l : List Int} {p i : Nat} : (l.drop p)[i]! = l[p + i]! := by
  by_cases h : p + i < l.length
  · rw [getElem!_pos l _ h, getElem!_pos _ _ (by rw [List.length_drop]; omega), List.getElem_drop]
  · rw [getElem!_neg l _ h, getElem!_neg _ _ (by rw [List.length_drop]; omega)]
theorem get_mapr {f : Nat → Int} {n i : Nat} (h : i < n) : ((List.range n).map f)[i]! = f i := by
  rw [getElem!_pos _ _ (by rw [List.length_map, List.length_range]; exact h), List.getElem_map, List.getElem_range]
theorem ext_get {a b : List Int} (hl : a.length = b.length) (h : ∀ i, i < a.length → a[i]! = b[i]!) : a = b := by
  refine List.ext_getElem hl fun i h1 h2 => ?_
  have := h i h1
  rw [getElem!_pos a i h1, getElem!_pos b i h2] at this
  exact this
theorem eq_mapr {a : List Int} : a = (List.range a.length).map fun i => a[i]! := by
  refine ext_get (by rw [List.length_map, List.length_range]) fun i hi => ?_
  rw [get_mapr hi]
/-- the sum of k days from day j on -/
def win (x : List Int) (k j : Nat) : Int := sm (fun t => x[j + t]!) k
theorem win_sum {x : List Int} {k j : Nat} (h : j + k ≤ x.length) : ((x.drop j).take k).sum = win x k j := by
  rw [sum_take (by rw [List.length_drop]; omega)]
  exact sm_congr fun i _ => get_drop
theorem win_next {x : List Int} {k j : Nat} : win x k (j + 1) + x[j]! = win x k j + x[j + k]! := by
  have h1 : sm (fun t => x[j + t]!) (k + 1) = x[j]! + win x k (j + 1) := by
    rw [sm_head]
    congr 1
    exact sm_congr fun i _ => by rw [show j + (i + 1) = j + 1 + i by omega]
  have h2 : sm (fun t => x[j + t]!) (k + 1) = win x k j + x[j + k]! := rfl
  omega
/-- all sums of k days -/
def wins (x : List Int) (k : Nat) : List Int := (List.range (x.length + 1 - k)).map (win x k)
theorem wins_len {x : List Int} {k : Nat} : (wins x k).length = x.length + 1 - k := by rw [wins, List.length_map, List.length_range]
theorem wins_get {x : List Int} {k j : Nat} (h : j + k ≤ x.length) : (wins x k)[j]! = win x k j := get_mapr (by omega)
/-- x has the sums w of length k -/
structure Has (x w : List Int) (k : Nat) : Prop where
  pos : 1 ≤ k
  one : 1 ≤ w.length
  len : x.length + 1 = w.length + k
  eq : ∀ j, j < w.length → w[j]! = win x k j
theorem Has.of_wins {x : List Int} {k : Nat} (h1 : 1 ≤ k) (h2 : k ≤ x.length) : Has x (wins x k) k :=
  ⟨h1, by rw [wins_len]; omega, by rw [wins_len]; omega, fun j hj => wins_get (by rw [wins_len] at hj; omega)⟩
theorem Has.wins {x w : List Int} {k : Nat} (h : Has x w k) : w = wins x k := by
  have hl := h.len
  have h1 := h.one
  refine ext_get (by rw [wins_len]; omega) fun i hi => ?_
  rw [h.eq i hi, wins_get (by omega)]
/-- by how much a day is more than the first day of its class -/
def off (w : List Int) (k : Nat) (i : Nat) : Int := if h : i < k ∨ k = 0 then 0 else off w k (i - k) + w[i - k + 1]! - w[i - k]!
termination_by i
decreasing_by omega
theorem off_lt {w : List Int} {k i : Nat} (h : i < k) : off w k i = 0 := by
  rw [off, dif_pos (.inl h)]
theorem off_add {w : List Int} {k i : Nat} (h : 0 < k) : off w k (k + i) = off w k i + w[i + 1]! - w[i]! := by
  rw [off, dif_neg (by omega), show k + i - k = i by omega]
def offs (w : List Int) (k : Nat) : List Int := (List.range (w.length + k - 1)).map (off w k)
theorem offs_len {w : List Int} {k : Nat} : (offs w k).length = w.length + k - 1 := by rw [offs, List.length_map, List.length_range]
theorem offs_get {w : List Int} {k i : Nat} (h : i + 1 < w.length + k) : (offs w k)[i]! = off w k i := get_mapr (by omega)
/-- R1: tied days have one difference in all lists that have the sums -/
theorem Has.off {x w : List Int} {k : Nat} (h : Has x w k) : ∀ {i : Nat}, i < x.length → x[i]! = x[i % k]! + M.off w k i := by
  intro i
  have hk := h.pos
  have hl := h.len
  induction i using Nat.strongRecOn with
  | _ i ih =>
    intro hi
    by_cases q : i < k
    · rw [off_lt q, Nat.mod_eq_of_lt q]; omega
    · obtain ⟨j, rfl⟩ : ∃ j, i = k + j := ⟨i - k, by omega⟩
      rw [off_add (by omega), h.eq j (by omega), h.eq (j + 1) (by omega), show (k + j) % k = j % k by rw [Nat.add_mod_left]]
      have := ih j (by omega) (by omega)
      have := win_next (x := x) (k := k) (j := j)
      rw [Nat.add_comm j k] at this
      omega
theorem mod_sub {a b k : Nat} : ((b : Int) - a) % k = 0 ↔ a % k = b % k := by
  rw [← Int.emod_eq_emod_iff_emod_sub_eq_zero]
  constructor
  · intro h; omega
  · intro h; omega
/-- sums over a list of places -/
theorem sum_count {f : Nat → Int} {k : Nat} : ∀ {l : List Nat}, (∀ d ∈ l, d < k) → (l.map f).sum = sm (fun r => (l.count r : Int) * f r) k
  | [], _ => by
    rw [show (fun r => (([] : List Nat).count r : Int) * f r) = fun _ => (0 : Int) from funext fun r => by simp, sm_const]
    simp
  | d :: l, h => by
    rw [List.map_cons, List.sum_cons, sum_count fun x hx => h x (List.mem_cons_of_mem _ hx)]
    have hd := h d List.mem_cons_self
    have e : ∀ n, sm (fun r => ((d :: l).count r : Int) * f r) n = sm (fun r => (l.count r : Int) * f r) n + (if d < n then f d else 0) := by
      intro n
      induction n with
      | zero => simp [sm]
      | succ n ih =>
        show sm _ n + _ = sm _ n + _ + _
        rw [ih]
        simp only
        by_cases q : d = n
        · subst q
          rw [List.count_cons_self, if_neg (by omega), if_pos (by omega)]
          have : ((l.count d + 1 : Nat) : Int) = l.count d + 1 := by omega
          rw [this, Int.add_mul]; omega
        · rw [List.count_cons_of_ne q]
          by_cases q2 : d < n
          · rw [if_pos q2, if_pos (by omega)]; omega
          · rw [if_neg q2, if_neg (by omega)]; omega
    rw [e k, if_pos hd]; omega
theorem count_sum {k : Nat} {l : List Nat} (h : ∀ d ∈ l, d < k) : sm (fun r => (l.count r : Int)) k = l.length := by
  have := sum_count (f := fun _ => 1) h
  rw [sm_congr (g := fun r => (l.count r : Int)) fun i _ => by omega] at this
  rw [← this]
  clear this h
  induction l with
  | nil => rfl
  | cons a l ih => rw [List.map_cons, List.sum_cons, ih, List.length_cons]; omega
theorem sm_ones {f : Nat → Int} : ∀ (n : Nat), (∀ i, i < n → f i ≤ 1) → sm f n = n → ∀ i, i < n → f i = 1 := by
  intro n
  induction n with
  | zero => intro _ _ i hi; omega
  | succ n ih =>
    intro h e i hi
    have h1 : sm f n ≤ n := by
      have := sm_le (f := f) (g := fun _ => 1) (n := n) fun i hi => h i (by omega)
      rw [sm_const] at this
      omega
    have h2 := h n (by omega)
    have e : sm f n + f n = ((n + 1 : Nat) : Int) := e
    by_cases q : i = n
    · subst q; omega
    · exact ih (fun i hi => h i (by omega)) (by omega) i (by omega)
/-- one of each: the sum over them is the sum over all -/
theorem sum_perm {f : Nat → Int} {k : Nat} {l : List Nat} (h : ∀ d ∈ l, d < k) (hn : l.Nodup) (hl : l.length = k) : (l.map f).sum = sm f k := by
  have h1 : ∀ r, r < k → (l.count r : Int) = 1 := sm_ones k (fun i _ => by
    have := List.nodup_iff_count.mp hn i
    omega) (by rw [count_sum h, hl])
  rw [sum_count h]
  exact sm_congr fun i hi => by rw [h1 i hi]; omega
/-- R1: k days, one of each class -/
theorem Has.total {x w : List Int} {k : Nat} (h : Has x w k) {days : List Nat} (hd : ∀ d ∈ days, d < x.length) (hn : (days.map (· % k)).Nodup) (hl : days.length = k) :
    (days.map fun d => x[d]!).sum = w[0]! + (days.map (M.off w k)).sum := by
  have hk := h.pos
  have e1 : (days.map fun d => x[d]!) = days.map fun d => x[d % k]! + M.off w k d := List.map_congr_left fun d q => h.off (hd d q)
  have e2 : ∀ l : List Nat, (l.map fun d => x[d % k]! + M.off w k d).sum = ((l.map (· % k)).map fun r => x[r]!).sum + (l.map (M.off w k)).sum := by
    intro l
    induction l with
    | nil => rfl
    | cons a l ih => simp only [List.map_cons, List.sum_cons, ih]; omega
  rw [e1, e2, sum_perm (f := fun r => x[r]!) (k := k) (fun d q => by
    obtain ⟨y, _, rfl⟩ := List.mem_map.mp q
    exact Nat.mod_lt _ (by omega)) hn (by rw [List.length_map, hl])]
  have h0 := h.eq 0 h.one
  rw [h0, win]
  congr 1
  exact sm_congr fun i _ => by rw [Nat.zero_add]
end M

namespace G
open PySem PySem.Spec DL M
local macro_rules
  | `(tactic| simp_arith [$ts,*]) => `(tactic| simp (maxSteps := 10000000) (disch := first | assumption | omega | (simp only [List.length_map, List.length_range, List.length_cons, List.length_nil, List.length_append, List.length_replicate, $ts,*]; omega)) only [re_ok_, re_own_, re_ownT_, rf_ownT_, rs_retT_, re_exn_, rb_ok_, rb_exn_, rl_ok_, rl_exn_, rs_nx_, rs_ret_, rs_retO_, rs_bk_, rs_ct_, rs_exn_, rf_ok_, rf_own_, rf_exn_, rt_some, r_bin, kBin1_ok, kBin1_own, kBin1_exn, kBin2_ok, kBin2_own, kBin1_ownT, kBin2_ownT, kBin2_exn, r_un, kUn_ok, kUn_own, kUn_exn, r_b, kB_ok, kB_own, kB_exn, r_tru, kTru_ok, kTru_own, kTru_exn, truB_int, truB_non, truB_lst, truB_tup, r_not, kNot_ok, kNot_exn, r_and, kAnd_ok, kAnd_exn, r_or, kOr_ok, kOr_exn, r_ite, kIte_ok, kIte_exn, r_andV, kAndV_ok, kAndV_exn, r_orV, kOrV_ok, kOrV_exn, r_notV, kNotV_ok, kNotV_exn, r_chain, kCh1_ok, kCh1_exn, kCh2_ok, kCh2_exn, kCh3_ok, kCh3_exn, kCh4_ok, kCh4_exn, r_cons, kCons1_ok, kCons1_own, kCons1_ownT, kCons1_exn, kCons2_ok, kCons2_exn, r_lst, kLst_ok, kLst_exn, r_tup, kTup_ok, kTup_exn, r_call, kCall_ok, kCall_exn, r_part, kPart_ok, kPart_exn, r_sl, kSl1_ok, kSl1_own, kSl1_exn, kSl2_no, kSl2_at, kSl3_no, kSl3_at, sl_v, sl_l, slV_l, r_rev, kRev_ok, kRev_own, revV_l, top_int, top_bl, top_str, top_non, top_lst, top_tup, top_dic, top_scr, len_var, lenS_l, len_t, sum_var, onS_l, max_var, min_var, max_l, min_l, sorted_var, sorted_l, any_l, list_var, listS_l, list_t, tuple_l, int_b, add_var, add_l, addV_l, addL_l, mul_l1, map_snoc, ixL_enc, ixL_encT, ixL_scr, ixLt0, ixLt1, r_seq, kSeq_nx, kSeq_ret, kSeq_retT, kSeq_retO, kSeq_bk, kSeq_ct, kSeq_exn, r_if, kIf_ok, kIf_exn, r_set, kSet_ok, kSet_own, kSet_ownT, kSet_exn, r_setC, kSetC_own, kSetC_exn, r_ret, kRet_ok, kRet_own, kRet_ownT, kRet_exn, r_drop, kDrop_ok, kDrop_own, kDrop_ownT, kDrop_exn, r_asg, kAsg_ok, kAsg_own, kAsg_ownT, kAsg_exn, aug_e, r_aug, kAug_ok, kAug_exn, r_setIx, kSx1_ok, kSx1_own, kSx1_exn, kSx2_ok, kSx2_exn, r_app, kApp_ok, kApp_own, kApp_exn, appS_bo, r_rng1, kRng1_ok, kRng1_exn, r_rng2, kRng2_ok, kRng2_exn, r_rng3, kRng3_ok, kRng3_exn, r_seqI, frz_v, frz_l, frzS_mu, frzS_ro, frO_s, kSeqI_l, kSeqI_t, kSeqI_ol, kSeqI_v, kSeqI_exn, r_enum, kEnum_ok, kEnum_exn, enO_s, r_zip, kZip_ok, kZip_exn, ziO1_s, ziO2_s, r_for, kFor_ok, kFor_exn, kTurn_s, kLoop_nx, kLoop_ct, kLoop_bk, kLoop_ret, kLoop_retT, kLoop_retO, kLoop_exn, kUnrT_s, kUnr_nx, kUnr_ct, kUnr_bk, kUnr_ret, kUnr_retT, kUnr_retO, kUnr_exn, kWt_ok, kWt_exn, kWb_nx, kWb_ct, kWb_bk, kWb_ret, kWb_retO, kWb_exn, r_lc, kLc_ok, kLc_exn, kLcT_s, kLcB_ok, kLcE_ok, kLcE_own, r_yes, kLcST_s, kLcSB_ok, kLcS_ok, kLcS_own, r_run, kFin_nx, kFin_ret, kFin_retT, kFin_retO, kFin_exn, r_fn, kFn_ok, kFn_exn, r_fnK, kFnK_ok, kFnK_exn, permC_s, permL_nil, permL_cons, bor_e, borS_n, borS_v, borM_mu, borM_bo, r_appF, kBor_s, clash_n, clash_s, clash_0, kEnd_ok, kEnd_own, kEnd_ownT, kLok_ownT, kEnd_exn0, kLok_ok, kLok_own, back_n, back_s, lock_nil, lock_cons, lockS_mu, lockS_ro, lent_nil, lent_var, lent_int, lent_bl, lent_str, lent_non, lent_lst, lent_tup, lent_scr, lent_dic, safe_non, safe_bl, safe_int, safe_str, safe_tup_, safe_lst_, safeA_nil, safeA_cons, safeI_non, safeI_lst, safeA_ints, contB_e, contS_fz, contS_n, r_isi, kIsi_ok, kIsi_own, kIsi_ownT, kIsi_exn, r_lstR, kLstR_ok, kLstR_exn, lstK1, lstK2, r_ls, kLs_ok, kLs_own, lsS_l, r_par2, kPar2_ok, kPar2_exn, r_par3, kPar3_ok, kPar3_exn, r_par, kPb_ok, kPb_own, kPc_ok, kPc_own, kPd_s, kPe_s, putS_t, putS_f, r_mov, movS_s, r_popAt, kPop_ok, kPop_exn, popAtS_mu, pop_e, safeI_jd, ixL_encN, r_while, kUnrT_s, res_v, eq_v1, ne_v1, eq_v2, ne_v2, res_LI, res_nil, res_non, res_int, res_str, eqR_li, neR_li, eqR_nil, neR_nil, eqR_nilN, neR_nilN, ln_snoc, gt_lst, Rel, SStp, Rel, r_lm, kLm_ok, kLm_own, lmS_l, r_bits, kBits_ok, r_isi2, kIsi2_ok, isa2_lst, isa2_tup, isa2_int, isa2_bl, isa2_non, isa2_str, r_ulk, kUlk_ok, r_setO, kSetO_own, kSetO_non, kSetO_exn, r_parN, PkN_nil, PkN_cons, kPk_ok, kPk_own, PtN_nil, PtN_t, PtN_f, addI_ii, putIx_e, itm_e, itmS_mu, itmS_bo, r_augIx, kAx1_ok, axM_s, kAx3_ok, r_fz, fzO_s, isN_non, isnN_non, isN_tup, isnN_tup, isN_lst, isnN_lst, isN_int, isnN_int, isN_str, isnN_str, isN_bl, isnN_bl, isB, isnB, sortP_l, r_sl3, kS30_ok, kS30_own, kS3a_no, kS3a_at, kS3b_no, kS3b_at, kS3c_no, kS3c_at, s3d_i, r_dic0, r_excV, top_exc, lent_exc, isi_int_exc, isi_bool_exc, isi_str_exc, isi_list_exc, isi_tuple_exc, isi_dict_exc, r_tupB, kTupB_own, tbS_fz, r_asgT, kAsgT_T, kAsgT_ok, e_c, e_v, e_vc, ofF_fz, ofS_fz, ofS_cl, e_nil, noP_e, s_nx, s_bk, s_ct, s_retN, retC_e, retS_mu, toB_bl, truB_bl, add_ii, sub_ii, neg_i, lt_ii, le_ii, gt_ii, ge_ii, mul_ii, fdiv_ii, mod_ii, pow_ii, abs_m, int_i, max_m, min_m, len_l, len_s, sum_l, all_l, ix_var, ix_lst, ix_tup, ix_scr, ixL0, ixL1, ixL2, nc_get, nc_fz, nc_none, nc_map, fr_get, fr_none, fr_fz, fr_mu, fr_ro, isL_get, isL_cl, co_cl, top_v, set_bo0, set_bo1, set_bo2, appS_mu, appS_bo, cont_cl, cont_no, pars_0, pars9_0, pars9_1, pars9_2, pars9_3, pars9_4, pars9_5, pars9_6, pars9_7, pars9_8, list_li, repr_v, reprX_li, repr_li, repr_int, neq_li, neq_sh, neq_shI, eq_li, eq_ii, ne_ii, gt_tup, gt_cons, gtB_s, gt_nil, gt_name, optO_s, rest_nil, rest_cons, wipe_nil, wipe_cons, lstK3, isi_int_non, isi_int_bl, isi_int_int, isi_int_str, isi_int_lst, isi_int_tup, isi_int_dic, isi_int_scr, isi_bool_non, isi_bool_bl, isi_bool_int, isi_bool_str, isi_bool_lst, isi_bool_tup, isi_bool_dic, isi_bool_scr, isi_str_non, isi_str_bl, isi_str_int, isi_str_str, isi_str_lst, isi_str_tup, isi_str_dic, isi_str_scr, isi_list_non, isi_list_bl, isi_list_int, isi_list_str, isi_list_lst, isi_list_tup, isi_list_dic, isi_list_scr, isi_tuple_non, isi_tuple_bl, isi_tuple_int, isi_tuple_str, isi_tuple_lst, isi_tuple_tup, isi_tuple_dic, isi_tuple_scr, isi_dict_non, isi_dict_bl, isi_dict_int, isi_dict_str, isi_dict_lst, isi_dict_tup, isi_dict_dic, isi_dict_scr, rng_len, List.replicate, List.map_cons, List.map_nil, List.length_cons, List.length_nil, List.length_map, List.length_range, List.length_append, List.getElem?_cons_zero, List.getElem?_cons_succ, List.getElem?_nil, List.getD_cons_zero, List.getD_cons_succ, List.set_cons_zero, List.set_cons_succ, List.set_nil, List.cons_append, List.nil_append, List.append_nil, List.all_cons, List.all_nil, List.isEmpty_cons, List.isEmpty_nil, List.contains_nil, Nat.reduceAdd, Nat.reduceSub, Nat.reduceLeDiff, Nat.reduceEqDiff, Nat.reduceLT, Bool.false_eq_true, reduceIte, decide_true, decide_false, if_true, if_false, Bool.not_true, Bool.not_false, Bool.and_true, Bool.true_and, Bool.and_false, Bool.false_and, Bool.or_true, Bool.true_or, Bool.or_false, Bool.false_or, Bool.and_self, and_self, true_and, and_true, decide_eq_true_eq, Bool.not_eq_true', decide_eq_false_iff_not, Bool.not_eq_eq_eq_not, Bool.not_not, Bool.and_eq_true, Bool.or_eq_true, bne_iff_ne, ne_eq, Option.map_some, Option.map_none, frS_Fs, if_pos, if_neg, decide_eq_true, decide_eq_false, not_false_eq_true, not_true_eq_false, Int.toNat_natCast, Int.reduceToNat, Int.toNat_add, toNat_subL, Int.toNat_emod, Int.toNat_one, Nat.reduceMul, Int.reduceNeg, $ts,*])
  | `(tactic| simp_arith only []) => `(tactic| (simp (disch := assumption) only [List.cons.injEq, exists_and_left, exists_and_right, ex_fz, ex_map, ex_no, ex_sl, ex_mu, ex_ro, ex_nn, ex_cf, ex_P2, ex_P3, ex_mu2, ex_mu3, ex_ro2, ex_ro3, ex_cf2, ex_cf3, ex_nn2, ex_nn3, and_self, and_true, true_and, Option.map_some, Option.map_none]) <;> rfl)
  | `(tactic| simp_arith!) => `(tactic| first | rfl | (simp only [LI, List.range_succ, List.map_append, List.map_cons, List.map_nil, Option.map_some, Option.map_none, List.append_assoc]; done) | (simp only [LI, List.range_succ, List.map_append, List.map_cons, List.map_nil, Option.map_some, Option.map_none, List.append_assoc]; rfl))
section
variable {Q : RF → Prop} {n : Nat} {j : Jr} {w l : List Int} {k : Nat}
theorem is_integer_i {x : Int} : f_is_integer [.int x] = .ok (.bl true) .non := rfl
theorem are_integers_l (hl : l.length ≤ 16777216) : f_are_integers [LI l] = .ok (.bl true) .non := by
  refine of_run ?_
  unfold f_are_integers g_are_integers
  rw [r_run]
  simp_arith []
  refine lc_map (enc := D.int) (enc2 := D.bl) (fun _ => true) (fun x _ => ?_) ?_
  · simp_arith [is_integer_i]
  · have ha : ((l.map fun _ => true).all id) = true := by simp
    simp_arith [ha]
theorem is_sums_l (h1 : 1 ≤ l.length) (h2 : l.length ≤ 67) : f_is_sums [LI l] = .ok (.bl true) .non := by
  refine of_run ?_
  unfold f_is_sums g_is_sums
  rw [r_run]
  simp_arith [are_integers_l]
theorem need_length_i {s : Int} (h : 1 ≤ s ∧ s ≤ 8) : f_need_length [.int s] = .ok .non .non := by
  refine of_run ?_
  unfold f_need_length g_need_length
  rw [r_run]
  simp_arith []
theorem need_sums_l (h1 : 1 ≤ k) (h2 : k ≤ 8) (h3 : 1 ≤ w.length) (h4 : w.length + k ≤ 68) : f_need_sums [LI w, .int k] = .ok .non .non := by
  refine of_run ?_
  unfold f_need_sums g_need_sums
  rw [r_run]
  simp_arith [is_sums_l, need_length_i]
theorem need_day_i {d c : Int} (h : 0 ≤ d ∧ d < c) : f_need_day [.int d, .int c] = .ok .non .non := by
  refine of_run ?_
  unfold f_need_day g_need_day
  rw [r_run]
  simp_arith []
theorem day_count_l : f_day_count [LI w, .int k] = .ok (.int ((w.length : Int) + k - 1)) .non := by
  refine of_run ?_
  unfold f_day_count g_day_count
  rw [r_run]
  simp_arith []
theorem offsets_l (h1 : 1 ≤ k) (h2 : k ≤ 8) (h3 : 1 ≤ w.length) (h4 : w.length + k ≤ 68) : f_offsets_in [LI w, .int k] = .own (LI (offs w k)) .non := by
  refine of_run ?_
  unfold f_offsets_in g_offsets_in
  rw [r_run]
  simp_arith []
  refine for_r0 (fun i δ => ∃ o : Option D, δ = [some (.fz (LI (w))), some (.fz (.int (k))), some (.cl .mu (LI ((List.range (k + i)).map (off w k)))), (o).map .fz]) ⟨none, ?_⟩ ?_ ?_
  · have : List.replicate k (D.int 0) = ((List.range (k + 0)).map (off w k)).map D.int := by
      rw [List.map_map]
      refine List.ext_getElem (by simp) fun i h1 h2 => ?_
      rw [List.getElem_map, List.getElem_range, List.getElem_replicate]
      show _ = D.int (off w k i)
      rw [off_lt (by simpa using h2)]
    rw [this]
    rfl
  · rintro i δ hi ⟨o, rfl⟩
    simp_arith []
    refine ⟨some (.int i), ?_⟩
    rw [get_mapr (by omega), ← off_add (by omega), ← show (List.range (k + i + 1)).map (off w k) = (List.range (k + i)).map (off w k) ++ [off w k (k + i)] by rw [List.range_succ, List.map_append]; rfl]
    rfl
  · rintro δ ⟨o, rfl⟩
    simp_arith []
    rw [show k + (w.length - 1) = w.length + k - 1 by omega]
    rfl
theorem tie_between_l {a b : Nat} (h1 : 1 ≤ k) (h2 : k ≤ 8) (h3 : 1 ≤ w.length) (h4 : w.length + k ≤ 68) (ha : a + 1 < w.length + k) (hb : b + 1 < w.length + k) :
    f_tie_between [LI w, .int k, .int a, .int b] = .ok (if ((b : Int) - a) % k = 0 then .int (off w k b - off w k a) else .non) .non := by
  refine of_run ?_
  unfold f_tie_between g_tie_between
  rw [r_run]
  simp_arith [need_sums_l, day_count_l, need_day_i]
  by_cases h : ((b : Int) - a) % k = 0
  · simp_arith [h, offsets_l, offs_len, offs_get]
  · simp_arith [h]
theorem nodup_cast {l : List Nat} (h : l.Nodup) : (l.map fun n : Nat => (n : Int)).Nodup := List.Pairwise.map _ (fun a b q e => q (by omega)) h
theorem are_integers_n {l : List Nat} (hl : l.length ≤ 16777216) : f_are_integers [LN l] = .ok (.bl true) .non := by
  rw [ln_li, are_integers_l (by rw [List.length_map]; exact hl)]
theorem all_classes_n {ds : List Nat} (h2 : k ≤ 8) (h1 : 1 ≤ k) (hd : ∀ d ∈ ds, d + 1 < w.length + k) (hn : (ds.map (· % k)).Nodup) (hl : ds.length = k) : f_are_all_classes [LN ds, LI w, .int k] = .ok (.bl true) .non := by
  refine of_run ?_
  unfold f_are_all_classes g_are_all_classes
  rw [r_run]
  simp_arith [are_integers_n]
  refine lc_map (enc := fun n : Nat => D.int (n : Int)) (enc2 := D.bl) (fun _ => true) (fun x hx => ?_) ?_
  · have := hd x hx
    simp_arith [day_count_l]
  · have ha : ((ds.map fun _ => true).all id) = true := by simp
    simp_arith [ha]
    refine lc_map (enc := fun n : Nat => D.int (n : Int)) (enc2 := D.int) (fun x : Nat => ((x % k : Nat) : Int)) (fun x hx => ?_) ?_
    · have : ((x : Int) % (k : Int)) = ((x % k : Nat) : Int) := by omega
      simp_arith [this]
    · have hm : (ds.map fun x : Nat => ((x % k : Nat) : Int)) = (ds.map (· % k)).map fun n : Nat => (n : Int) := by rw [List.map_map]; rfl
      have hn2 : (ds.map fun x : Nat => ((x % k : Nat) : Int)).Nodup := by rw [hm]; exact nodup_cast hn
      have em := metN_len.mpr hn2
      rw [List.length_map] at em
      simp_arith [em, hl]
theorem total_in_n {ds : List Nat} (h1 : 1 ≤ k) (h2 : k ≤ 8) (h3 : 1 ≤ w.length) (h4 : w.length + k ≤ 68) (hd : ∀ d ∈ ds, d + 1 < w.length + k) (hl : ds.length ≤ 1000) : f_total_in [LI w, .int k, LN ds] = .ok (.int (w[0]! + (ds.map (off w k)).sum)) .non := by
  refine of_run ?_
  unfold f_total_in g_total_in
  rw [r_run]
  simp_arith [offsets_l]
  refine lc_map (enc := fun n : Nat => D.int (n : Int)) (enc2 := D.int) (off w k) (fun x hx => ?_) ?_
  · have := hd x hx
    simp_arith [offs_len, offs_get]
  · simp_arith []
theorem forced_total_n {ds : List Nat} (h1 : 1 ≤ k) (h2 : k ≤ 8) (h3 : 1 ≤ w.length) (h4 : w.length + k ≤ 68) (hd : ∀ d ∈ ds, d + 1 < w.length + k) (hn : (ds.map (· % k)).Nodup) (hl : ds.length = k) : f_forced_total [LI w, .int k, LN ds] = .ok (.int (w[0]! + (ds.map (off w k)).sum)) .non := by
  refine of_run ?_
  unfold f_forced_total g_forced_total
  rw [r_run]
  simp_arith [need_sums_l, all_classes_n, total_in_n]
theorem sums_of_l (h1 : 1 ≤ k) (h2 : k ≤ 8) (h3 : k ≤ l.length) (h4 : l.length ≤ 67) : f_sums_of [LI l, .int k] = .own (LI (wins l k)) .non := by
  refine of_run ?_
  unfold f_sums_of g_sums_of
  rw [r_run]
  simp_arith [is_sums_l, need_length_i]
  refine lc_r0 (enc2 := D.int) (win l k) (fun p hp => ?_) ?_
  · have e : cutD (l.map D.int) (some (p : Int)) (some ((p : Int) + (k : Int))) = ((l.drop p).take k).map D.int := by
      unfold cutD
      rw [List.length_map, show ((p : Int) + (k : Int)) = ((p + k : Nat) : Int) by omega]
      rw [sIx_nat', sIx_nat', ← List.map_drop, ← List.map_take]
      rw [show min p l.length = p by omega, show min (p + k) l.length - p = k by omega]
    simp_arith [e, win_sum]
  · simp_arith []
    unfold wins
    rw [show l.length - k + 1 = l.length + 1 - k by omega]
theorem days_of_l (h1 : 1 ≤ k) (h2 : k ≤ 8) (h3 : 1 ≤ w.length) (h4 : w.length + k ≤ 68) : f_days_of [LI w, .int k] = .ok (.int ((w.length : Int) + k - 1)) .non := by
  refine of_run ?_
  unfold f_days_of g_days_of
  rw [r_run]
  simp_arith [need_sums_l, day_count_l]
end
end G

namespace DL
open PySem PySem.Spec L2
section
variable {δ : FS} {i : Nat} {d d0 d1 d2 d3 d4 : D} {r : List D}
theorem ixL3 : ixL (.lst (d0 :: d1 :: d2 :: d3 :: r)) 3 δ = .ok d3 δ := by
  unfold ixL
  have : atI (d0 :: d1 :: d2 :: d3 :: r) 3 = some d3 := atI_nat (l := d0 :: d1 :: d2 :: d3 :: r) (k := 3) (by simp)
  simp only [this]
theorem ixL4 : ixL (.lst (d0 :: d1 :: d2 :: d3 :: d4 :: r)) 4 δ = .ok d4 δ := by
  unfold ixL
  have : atI (d0 :: d1 :: d2 :: d3 :: d4 :: r) 4 = some d4 := atI_nat (l := d0 :: d1 :: d2 :: d3 :: d4 :: r) (k := 4) (by simp)
  simp only [this]
theorem set_bo3 : setS (some (some (.cl .bo (.lst (d0 :: d1 :: d2 :: d3 :: r))))) i d 3 δ = .nx (δ.set i (some (.cl .bo (.lst (d0 :: d1 :: d2 :: d :: r))))) := setS_nat (k := 3) (.inr rfl) (by simp)
theorem set_bo4 : setS (some (some (.cl .bo (.lst (d0 :: d1 :: d2 :: d3 :: d4 :: r))))) i d 4 δ = .nx (δ.set i (some (.cl .bo (.lst (d0 :: d1 :: d2 :: d3 :: d :: r))))) := setS_nat (k := 4) (.inr rfl) (by simp)
/-- a bag of drawn numbers -/
structure Bg where
  ds : List Int
  k : Nat
  c : Int
  s : Int
  t : Nat
def bg (b : Bg) : D := .lst [.lst (b.ds.map .int), .int b.k, .int b.c, .int b.s, .int b.t]
end
def Bag (n : Nat) (b : Bg) : Prop := (∀ d ∈ b.ds, 0 ≤ d) ∧ b.ds.length ≤ 63 ∧ 0 ≤ b.c ∧ 0 ≤ b.s ∧ b.s < 2147483647 ∧ b.t ≤ n
theorem Bag.mono {n m : Nat} {b : Bg} (h : Bag n b) (q : n ≤ m) : Bag m b := ⟨h.1, h.2.1, h.2.2.1, h.2.2.2.1, h.2.2.2.2.1, by have := h.2.2.2.2.2; omega⟩
end DL
namespace G
open PySem PySem.Spec DL
local macro_rules
  | `(tactic| simp_arith [$ts,*]) => `(tactic| simp (maxSteps := 10000000) (disch := first | assumption | omega | (simp only [List.length_map, List.length_range, List.length_cons, List.length_nil, List.length_append, List.length_replicate, $ts,*]; omega)) only [re_ok_, re_own_, re_ownT_, rf_ownT_, rs_retT_, re_exn_, rb_ok_, rb_exn_, rl_ok_, rl_exn_, rs_nx_, rs_ret_, rs_retO_, rs_bk_, rs_ct_, rs_exn_, rf_ok_, rf_own_, rf_exn_, rt_some, r_bin, kBin1_ok, kBin1_own, kBin1_exn, kBin2_ok, kBin2_own, kBin1_ownT, kBin2_ownT, kBin2_exn, r_un, kUn_ok, kUn_own, kUn_exn, r_b, kB_ok, kB_own, kB_exn, r_tru, kTru_ok, kTru_own, kTru_exn, truB_int, truB_non, truB_lst, truB_tup, r_not, kNot_ok, kNot_exn, r_and, kAnd_ok, kAnd_exn, r_or, kOr_ok, kOr_exn, r_ite, kIte_ok, kIte_exn, r_andV, kAndV_ok, kAndV_exn, r_orV, kOrV_ok, kOrV_exn, r_notV, kNotV_ok, kNotV_exn, r_chain, kCh1_ok, kCh1_exn, kCh2_ok, kCh2_exn, kCh3_ok, kCh3_exn, kCh4_ok, kCh4_exn, r_cons, kCons1_ok, kCons1_own, kCons1_ownT, kCons1_exn, kCons2_ok, kCons2_exn, r_lst, kLst_ok, kLst_exn, r_tup, kTup_ok, kTup_exn, r_call, kCall_ok, kCall_exn, r_part, kPart_ok, kPart_exn, r_sl, kSl1_ok, kSl1_own, kSl1_exn, kSl2_no, kSl2_at, kSl3_no, kSl3_at, sl_v, sl_l, slV_l, r_rev, kRev_ok, kRev_own, revV_l, top_int, top_bl, top_str, top_non, top_lst, top_tup, top_dic, top_scr, len_var, lenS_l, len_t, sum_var, onS_l, max_var, min_var, max_l, min_l, sorted_var, sorted_l, any_l, list_var, listS_l, list_t, tuple_l, int_b, add_var, add_l, addV_l, addL_l, mul_l1, map_snoc, ixL_enc, ixL_encT, ixL_scr, ixLt0, ixLt1, r_seq, kSeq_nx, kSeq_ret, kSeq_retT, kSeq_retO, kSeq_bk, kSeq_ct, kSeq_exn, r_if, kIf_ok, kIf_exn, r_set, kSet_ok, kSet_own, kSet_ownT, kSet_exn, r_setC, kSetC_own, kSetC_exn, r_ret, kRet_ok, kRet_own, kRet_ownT, kRet_exn, r_drop, kDrop_ok, kDrop_own, kDrop_ownT, kDrop_exn, r_asg, kAsg_ok, kAsg_own, kAsg_ownT, kAsg_exn, aug_e, r_aug, kAug_ok, kAug_exn, r_setIx, kSx1_ok, kSx1_own, kSx1_exn, kSx2_ok, kSx2_exn, r_app, kApp_ok, kApp_own, kApp_exn, appS_bo, r_rng1, kRng1_ok, kRng1_exn, r_rng2, kRng2_ok, kRng2_exn, r_rng3, kRng3_ok, kRng3_exn, r_seqI, frz_v, frz_l, frzS_mu, frzS_ro, frO_s, kSeqI_l, kSeqI_t, kSeqI_ol, kSeqI_v, kSeqI_exn, r_enum, kEnum_ok, kEnum_exn, enO_s, r_zip, kZip_ok, kZip_exn, ziO1_s, ziO2_s, r_for, kFor_ok, kFor_exn, kTurn_s, kLoop_nx, kLoop_ct, kLoop_bk, kLoop_ret, kLoop_retT, kLoop_retO, kLoop_exn, kUnrT_s, kUnr_nx, kUnr_ct, kUnr_bk, kUnr_ret, kUnr_retT, kUnr_retO, kUnr_exn, kWt_ok, kWt_exn, kWb_nx, kWb_ct, kWb_bk, kWb_ret, kWb_retO, kWb_exn, r_lc, kLc_ok, kLc_exn, kLcT_s, kLcB_ok, kLcE_ok, kLcE_own, r_yes, kLcST_s, kLcSB_ok, kLcS_ok, kLcS_own, r_run, kFin_nx, kFin_ret, kFin_retT, kFin_retO, kFin_exn, r_fn, kFn_ok, kFn_exn, r_fnK, kFnK_ok, kFnK_exn, permC_s, permL_nil, permL_cons, bor_e, borS_n, borS_v, borM_mu, borM_bo, r_appF, kBor_s, clash_n, clash_s, clash_0, kEnd_ok, kEnd_own, kEnd_ownT, kLok_ownT, kEnd_exn0, kLok_ok, kLok_own, back_n, back_s, lock_nil, lock_cons, lockS_mu, lockS_ro, lent_nil, lent_var, lent_int, lent_bl, lent_str, lent_non, lent_lst, lent_tup, lent_scr, lent_dic, safe_non, safe_bl, safe_int, safe_str, safe_tup_, safe_lst_, safeA_nil, safeA_cons, safeI_non, safeI_lst, safeA_ints, contB_e, contS_fz, contS_n, r_isi, kIsi_ok, kIsi_own, kIsi_ownT, kIsi_exn, r_lstR, kLstR_ok, kLstR_exn, lstK1, lstK2, r_ls, kLs_ok, kLs_own, lsS_l, r_par2, kPar2_ok, kPar2_exn, r_par3, kPar3_ok, kPar3_exn, r_par, kPb_ok, kPb_own, kPc_ok, kPc_own, kPd_s, kPe_s, putS_t, putS_f, r_mov, movS_s, r_popAt, kPop_ok, kPop_exn, popAtS_mu, pop_e, safeI_jd, ixL_encN, r_while, kUnrT_s, res_v, eq_v1, ne_v1, eq_v2, ne_v2, res_LI, res_nil, res_non, res_int, res_str, eqR_li, neR_li, eqR_nil, neR_nil, eqR_nilN, neR_nilN, ln_snoc, gt_lst, Rel, SStp, Rel, r_lm, kLm_ok, kLm_own, lmS_l, r_bits, kBits_ok, r_isi2, kIsi2_ok, isa2_lst, isa2_tup, isa2_int, isa2_bl, isa2_non, isa2_str, r_ulk, kUlk_ok, r_setO, kSetO_own, kSetO_non, kSetO_exn, r_parN, PkN_nil, PkN_cons, kPk_ok, kPk_own, PtN_nil, PtN_t, PtN_f, addI_ii, putIx_e, itm_e, itmS_mu, itmS_bo, r_augIx, kAx1_ok, axM_s, kAx3_ok, r_fz, fzO_s, isN_non, isnN_non, isN_tup, isnN_tup, isN_lst, isnN_lst, isN_int, isnN_int, isN_str, isnN_str, isN_bl, isnN_bl, isB, isnB, sortP_l, r_sl3, kS30_ok, kS30_own, kS3a_no, kS3a_at, kS3b_no, kS3b_at, kS3c_no, kS3c_at, s3d_i, r_dic0, r_excV, top_exc, lent_exc, isi_int_exc, isi_bool_exc, isi_str_exc, isi_list_exc, isi_tuple_exc, isi_dict_exc, r_tupB, kTupB_own, tbS_fz, r_asgT, kAsgT_T, kAsgT_ok, e_c, e_v, e_vc, ofF_fz, ofS_fz, ofS_cl, e_nil, noP_e, s_nx, s_bk, s_ct, s_retN, retC_e, retS_mu, toB_bl, truB_bl, add_ii, sub_ii, neg_i, lt_ii, le_ii, gt_ii, ge_ii, mul_ii, fdiv_ii, mod_ii, pow_ii, abs_m, int_i, max_m, min_m, len_l, len_s, sum_l, all_l, ix_var, ix_lst, ix_tup, ix_scr, ixL0, ixL1, ixL2, nc_get, nc_fz, nc_none, nc_map, fr_get, fr_none, fr_fz, fr_mu, fr_ro, isL_get, isL_cl, co_cl, top_v, set_bo0, set_bo1, set_bo2, appS_mu, appS_bo, cont_cl, cont_no, pars_0, pars9_0, pars9_1, pars9_2, pars9_3, pars9_4, pars9_5, pars9_6, pars9_7, pars9_8, list_li, repr_v, reprX_li, repr_li, repr_int, neq_li, neq_sh, neq_shI, eq_li, eq_ii, ne_ii, gt_tup, gt_cons, gtB_s, gt_nil, gt_name, optO_s, rest_nil, rest_cons, wipe_nil, wipe_cons, lstK3, isi_int_non, isi_int_bl, isi_int_int, isi_int_str, isi_int_lst, isi_int_tup, isi_int_dic, isi_int_scr, isi_bool_non, isi_bool_bl, isi_bool_int, isi_bool_str, isi_bool_lst, isi_bool_tup, isi_bool_dic, isi_bool_scr, isi_str_non, isi_str_bl, isi_str_int, isi_str_str, isi_str_lst, isi_str_tup, isi_str_dic, isi_str_scr, isi_list_non, isi_list_bl, isi_list_int, isi_list_str, isi_list_lst, isi_list_tup, isi_list_dic, isi_list_scr, isi_tuple_non, isi_tuple_bl, isi_tuple_int, isi_tuple_str, isi_tuple_lst, isi_tuple_tup, isi_tuple_dic, isi_tuple_scr, isi_dict_non, isi_dict_bl, isi_dict_int, isi_dict_str, isi_dict_lst, isi_dict_tup, isi_dict_dic, isi_dict_scr, rng_len, List.replicate, List.map_cons, List.map_nil, List.length_cons, List.length_nil, List.length_map, List.length_range, List.length_append, List.getElem?_cons_zero, List.getElem?_cons_succ, List.getElem?_nil, List.getD_cons_zero, List.getD_cons_succ, List.set_cons_zero, List.set_cons_succ, List.set_nil, List.cons_append, List.nil_append, List.append_nil, List.all_cons, List.all_nil, List.isEmpty_cons, List.isEmpty_nil, List.contains_nil, Nat.reduceAdd, Nat.reduceSub, Nat.reduceLeDiff, Nat.reduceEqDiff, Nat.reduceLT, Bool.false_eq_true, reduceIte, decide_true, decide_false, if_true, if_false, Bool.not_true, Bool.not_false, Bool.and_true, Bool.true_and, Bool.and_false, Bool.false_and, Bool.or_true, Bool.true_or, Bool.or_false, Bool.false_or, Bool.and_self, and_self, true_and, and_true, decide_eq_true_eq, Bool.not_eq_true', decide_eq_false_iff_not, Bool.not_eq_eq_eq_not, Bool.not_not, Bool.and_eq_true, Bool.or_eq_true, bne_iff_ne, ne_eq, Option.map_some, Option.map_none, frS_Fs, if_pos, if_neg, decide_eq_true, decide_eq_false, not_false_eq_true, not_true_eq_false, Int.toNat_natCast, Int.reduceToNat, Int.toNat_add, toNat_subL, Int.toNat_emod, Int.toNat_one, Nat.reduceMul, Int.reduceNeg, $ts,*])
  | `(tactic| simp_arith only []) => `(tactic| (simp (disch := assumption) only [List.cons.injEq, exists_and_left, exists_and_right, ex_fz, ex_map, ex_no, ex_sl, ex_mu, ex_ro, ex_nn, ex_cf, ex_P2, ex_P3, ex_mu2, ex_mu3, ex_ro2, ex_ro3, ex_cf2, ex_cf3, ex_nn2, ex_nn3, and_self, and_true, true_and, Option.map_some, Option.map_none]) <;> rfl)
  | `(tactic| simp_arith!) => `(tactic| first | rfl | (simp only [LI, List.range_succ, List.map_append, List.map_cons, List.map_nil, Option.map_some, Option.map_none, List.append_assoc]; done) | (simp only [LI, List.range_succ, List.map_append, List.map_cons, List.map_nil, Option.map_some, Option.map_none, List.append_assoc]; rfl))
section
variable {Q : RF → Prop} {n : Nat} {b : Bg}
theorem stirred {m : Int} (h : Bag n b) (hn : n < 100000000) (hm : 0 < m ∧ m < 2 ^ 130) (K : ∀ r b', 0 ≤ r → r < m → Bag (n + 5) b' → Q (.ok (.int r) (bg b'))) : RnF Q (f_law_stirred [bg b, .int m]) := by
  have hb : PySem.Builtin.Int.intBits m ≤ 130 := PyProof.Rows.intBits_le (by omega)
  obtain ⟨L, hL, hL2⟩ : ∃ L : Nat, (1 + (PySem.Builtin.Int.intBits m : Int) / 27) = L ∧ L ≤ 5 := ⟨(1 + (PySem.Builtin.Int.intBits m : Int) / 27).toNat, by omega, by omega⟩
  unfold f_law_stirred g_law_stirred
  rw [r_run]
  obtain ⟨ds, k, c, s, t⟩ := b
  obtain ⟨a1, a2, a3, a4, a5, a6⟩ := h
  dsimp only at a1 a2 a3 a4 a5 a6
  have t3 : (3 : Int).toNat = 3 := rfl
  simp_arith [hL]
  refine for_r0 (fun q δ => ∃ (s t : Int) (F : Nat), (0 ≤ s ∧ s < 2147483647 ∧ 0 ≤ t ∧ t ≤ n + q ∧ F < 134217728 ^ q) ∧ ∃ o_k o_mixed : Option D, δ = [some (.cl .bo (.lst [.lst (ds.map .int), .int k, .int c, .int s, .int t])), some (.fz (.int (m))), some (.fz (.int (F))), (o_k).map .fz, (o_mixed).map .fz]) ⟨s, t, 0, ⟨a4, a5, by omega, by omega, by decide⟩, by unfold bg; simp_arith only []⟩ ?_ ?_
  · rintro q δ hq ⟨s, t, F, ⟨c1, c2, c3, c4, c5⟩, o_k, o_mixed, rfl⟩
    have hp : 134217728 ^ q ≤ 134217728 ^ 5 := Nat.pow_le_pow_right (by decide) (by omega)
    have hp2 : (134217728 : Nat) ^ 5 = 2 ^ 135 := by decide
    have hF : (F : Int) < 2 ^ 135 := by omega
    have g1 : 0 ≤ (s ^ 3 + 69621 * s + 1031 * (t + 1) + 1) % 2147483647 := Int.emod_nonneg _ (by decide)
    have g2 : (s ^ 3 + 69621 * s + 1031 * (t + 1) + 1) % 2147483647 < 2147483647 := Int.emod_lt_of_pos _ (by decide)
    simp_arith [ixL3, ixL4, set_bo3, set_bo4, t3]
    generalize (s ^ 3 + 69621 * s + 1031 * (t + 1) + 1) % 2147483647 = u at g1 g2
    generalize s ^ 3 + 69621 * s + 1031 * (t + 1) + 1 = v
    have hs : (134217728 : Nat) ^ (q + 1) = 134217728 ^ q * 134217728 := Nat.pow_succ _ _
    refine ⟨u, t + 1, F * 134217728 + (u / 16).toNat, ⟨g1, g2, by omega, by omega, by omega⟩, ?_⟩
    rw [show ((F * 134217728 + (u / 16).toNat : Nat) : Int) = (F : Int) * 134217728 + u / 16 by omega]
    simp_arith only []
  · rintro δ ⟨s, t, F, ⟨c1, c2, c3, c4, c5⟩, o_k, o_mixed, rfl⟩
    simp_arith []
    have et : t = (t.toNat : Nat) := by omega
    rw [et]
    exact K _ ⟨ds, k, c, s, t.toNat⟩ (Int.emod_nonneg _ (by omega)) (Int.emod_lt_of_pos _ hm.1) ⟨a1, a2, a3, c1, c2, by show t.toNat ≤ n + 5; omega⟩
theorem draw {m : Int} (h : Bag n b) (hn : n < 90000000) (hm : 0 < m ∧ m < 2 ^ 130) (K : ∀ r b', 0 ≤ r → r < m → Bag (n + 5) b' → Q (.ok (.int r) (bg b'))) : RnF Q (f_law_draw [bg b, .int m]) := by
  unfold f_law_draw g_law_draw
  rw [r_run]
  have h' := h
  obtain ⟨ds, k, c, s, t⟩ := b
  obtain ⟨a1, a2, a3, a4, a5, a6⟩ := h
  dsimp only at a1 a2 a3 a4 a5 a6
  have fin : ∀ (k : Nat) (c : Int), 0 ≤ c → Q (.ok (.int (c % m)) (.lst [.lst (ds.map .int), .int k, .int (c / m), .int s, .int t])) := fun k c hc => K (c % m) ⟨ds, k, c / m, s, t⟩ (Int.emod_nonneg _ (by omega)) (Int.emod_lt_of_pos _ hm.1) ⟨a1, a2, Int.ediv_nonneg hc (by omega), a4, a5, by show t ≤ n + 5; omega⟩
  unfold bg
  by_cases c0 : c = 0
  · by_cases hk : (k : Int) < ds.length
    · have hk2 : k < ds.length := by omega
      have hc : 0 ≤ ds[k]! := by rw [getElem!_pos ds k hk2]; exact a1 _ (List.getElem_mem hk2)
      have f1 := fin (k + 1) ds[k]! hc
      have e : ((k + 1 : Nat) : Int) = (k : Int) + 1 := rfl
      rw [e] at f1
      simp_arith [c0, hk]
      exact f1
    · simp_arith [c0, hk]
      refine stirred (b := ⟨ds, k, 0, s, t⟩) ⟨a1, a2, Int.le_refl _, a4, a5, a6⟩ (by omega) hm fun r b' r0 r1 hb => ?_
      simp_arith []
      exact K r b' r0 r1 hb
  · simp_arith [c0]
    exact fin k c a3
theorem bag (ns : List Int) (hns : ns.length ≤ 63) (K : ∀ b, Bag 0 b → Q (.own (bg b) .non)) : RnF Q (f_law_bag [.scr ns]) := by
  have t60 : (60 : Int).toNat = 60 := rfl
  have t10 : (10 : Int).toNat = 10 := rfl
  unfold f_law_bag g_law_bag
  rw [r_run]
  have ec : ∀ δ, slD δ (.scr ns) none (some 63) = .own (LI ns) δ := fun δ => by
    show RE.own (.lst (((ns.map D.int).drop 0).take (min 63 (ns.map D.int).length - 0))) δ = _
    rw [List.drop_zero, List.take_of_length_le (by rw [List.length_map]; omega)]
  simp_arith []
  simp_arith [ec]
  refine for_map (enc := D.int) (fun i δ => ∃ s : Int, (0 ≤ s ∧ s < 2147483647) ∧ ∃ o_cell : Option D, δ = [some (.fz (.scr ns)), some (.fz (.int (s))), (o_cell).map .fz]) ⟨157, by decide, by simp_arith only []⟩ ?_ ?_
  · rintro i δ hi ⟨s, ⟨s0, s1⟩, o_cell, rfl⟩
    generalize ns[i] = y
    have g1 : 0 ≤ (s * 48271 + y % 2147483629 + 1) % 2147483647 := Int.emod_nonneg _ (by decide)
    have g2 : (s * 48271 + y % 2147483629 + 1) % 2147483647 < 2147483647 := Int.emod_lt_of_pos _ (by decide)
    simp_arith []
    exact ⟨_, ⟨g1, g2⟩, by simp_arith only []⟩
  · rintro δ ⟨s, ⟨s0, s1⟩, o_cell, rfl⟩
    have p60 : (-(2 ^ 250) : Int) < 10 ^ 60 ∧ (10 : Int) ^ 60 < 2 ^ 250 := by decide
    simp_arith []
    simp_arith [ec]
    refine lc_map (enc := D.int) (enc2 := D.int) (fun y => (y.natAbs : Int) % ((10 ^ 60) ^ 10)) (fun y hy => ?_) ?_
    · simp_arith [t60, t10]
    simp_arith []
    exact K ⟨ns.map fun y => (y.natAbs : Int) % ((10 ^ 60) ^ 10), 0, 0, s, 0⟩ ⟨fun d hd => by
      obtain ⟨y, _, rfl⟩ := List.mem_map.mp hd
      exact Int.emod_nonneg _ (by decide), by rw [List.length_map]; exact hns, Int.le_refl _, s0, s1, Nat.le_refl _⟩
end
end G

/-! MRG: rings. -/
namespace M
section
variable {x w : List Int} {n k g : Nat}
/-- the number of a day, round the ring -/
def rg (x : List Int) (i : Nat) : Int := x[i % x.length]!
/-- the sum of k days from day d on, round the ring -/
def rsum (x : List Int) (k d : Nat) : Int := sm (fun t => rg x (d + t)) k
/-- all of them -/
def rings (x : List Int) (k : Nat) : List Int := (List.range x.length).map (rsum x k)
theorem rg_add (i : Nat) : rg x (i + x.length) = rg x i := by
  unfold rg
  rw [Nat.add_mod_right]
theorem rg_lt {i : Nat} (h : i < x.length) : rg x i = x[i]! := by
  unfold rg
  rw [Nat.mod_eq_of_lt h]
/-- one step round the ring -/
theorem rsum_next {d : Nat} : rsum x k (d + 1) + rg x d = rsum x k d + rg x (d + k) := by
  have h1 : sm (fun t => rg x (d + t)) (k + 1) = rg x (d + 0) + sm (fun t => rg x (d + (t + 1))) k := sm_head
  have h2 : sm (fun t => rg x (d + t)) (k + 1) = sm (fun t => rg x (d + t)) k + rg x (d + k) := rfl
  have h3 : sm (fun t => rg x (d + (t + 1))) k = rsum x k (d + 1) := sm_congr fun t _ => by rw [show d + (t + 1) = d + 1 + t by omega]
  rw [Nat.add_zero] at h1
  have h5 := h1.symm.trans h2
  rw [h3] at h5
  have h4 : sm (fun t => rg x (d + t)) k = rsum x k d := rfl
  rw [h4] at h5
  rw [Int.add_comm]
  exact h5
theorem rsum_add (d : Nat) : rsum x k (d + x.length) = rsum x k d := sm_congr fun t _ => by
  rw [show d + x.length + t = d + t + x.length by omega, rg_add]
theorem rsum_mod (d : Nat) : rsum x k (d % x.length) = rsum x k d := sm_congr fun t _ => by
  unfold rg
  congr 1
  exact Nat.mod_add_mod d x.length t
theorem rings_get {d : Nat} (h : d < x.length) : (rings x k)[d]! = rsum x k d := get_mapr h
theorem rings_len : (rings x k).length = x.length := by rw [rings, List.length_map, List.length_range]
/-! nine times the ring -/
theorem flat_len (r : Nat) : (List.replicate r x).flatten.length = r * x.length := by
  induction r with
  | zero => simp
  | succ r ih => rw [List.replicate_succ, List.flatten_cons, List.length_append, ih, Nat.succ_mul]; omega
theorem flat_get : ∀ {r i : Nat}, i < r * x.length → (List.replicate r x).flatten[i]! = rg x i
  | 0, i, h => by omega
  | r + 1, i, h => by
    rw [List.replicate_succ, List.flatten_cons]
    by_cases q : i < x.length
    · rw [getElem!_pos _ i (by rw [List.length_append]; omega), List.getElem_append_left q, rg_lt q, getElem!_pos x i q]
    · have hi : i - x.length < r * x.length := by rw [Nat.succ_mul] at h; omega
      have ih := flat_get (r := r) hi
      have hl : i < (x ++ (List.replicate r x).flatten).length := by rw [List.length_append, flat_len]; rw [Nat.succ_mul] at h; omega
      rw [getElem!_pos _ i hl, List.getElem_append_right (by omega)]
      rw [getElem!_pos _ _ (by rw [flat_len]; exact hi)] at ih
      rw [ih, show i = i - x.length + x.length by omega, rg_add]
      congr 1
      omega
theorem win_flat {r d : Nat} (h : d + k ≤ r * x.length) : win (List.replicate r x).flatten k d = rsum x k d := sm_congr fun t ht => flat_get (by omega)
/-! the classes of a ring -/
/-- what is needed of a ring's numbers -/
structure RNT (n k g N : Nat) : Prop where
  g1 : 1 ≤ g
  n1 : 1 ≤ N
  ng : N * g = n
  kg : k / g * g = k
  z : N * k % n = 0
  nz : ∀ t, 0 < t → t < N → t * k % n ≠ 0
  u : ∃ u, k * u % n = g % n
theorem rnt_all : ((List.range 61).all fun n => (List.range 9).all fun k => n == 0 || k == 0 || decide (n < k) || (let g := Nat.gcd n k; let N := n / g; decide (1 ≤ g) && decide (1 ≤ N) && decide (N * g = n) && decide (k / g * g = k) && decide (N * k % n = 0) && ((List.range N).all fun t => t == 0 || decide (t * k % n ≠ 0)) && (List.range (n + 1)).any fun u => decide (k * u % n = g % n))) = true := by decide +kernel
theorem rnt {n k : Nat} (hn : n ≤ 60) (h1 : 1 ≤ k) (h2 : k ≤ 8) (hk : k ≤ n) : RNT n k (Nat.gcd n k) (n / Nat.gcd n k) := by
  have h := List.all_eq_true.mp (List.all_eq_true.mp rnt_all n (List.mem_range.mpr (by omega))) k (List.mem_range.mpr (by omega))
  simp only [Bool.or_eq_true, beq_iff_eq, decide_eq_true_eq, Bool.and_eq_true, List.all_eq_true, List.mem_range, List.any_eq_true] at h
  rcases h with ((h | h) | h) | h
  · omega
  · omega
  · omega
  · obtain ⟨⟨⟨⟨⟨⟨a, b⟩, c⟩, d⟩, e⟩, f⟩, u, _, hu⟩ := h
    exact ⟨a, b, c, d, e, fun t t0 t1 => (f t t1).resolve_left (by omega), u, hu⟩
section
variable {g N f : Nat}
theorem mod_self_iff {m : Nat} (hf : f < n) : (f + m) % n = f ↔ m % n = 0 := by
  have hm : m % n < n := Nat.mod_lt _ (by omega)
  have e : (f + m) % n = (f + m % n) % n := (Nat.add_mod_mod f m n).symm
  rw [e]
  by_cases q : f + m % n < n
  · rw [Nat.mod_eq_of_lt q]
    omega
  · rw [Nat.mod_eq_sub_mod (by omega), Nat.mod_eq_of_lt (by omega)]
    omega
/-- the t-th day of a class -/
def rday (n k f t : Nat) : Nat := (f + t * k) % n
theorem rday_lt (hn : 1 ≤ n) {t : Nat} : rday n k f t < n := Nat.mod_lt _ (by omega)
theorem rday_zero (hf : f < n) : rday n k f 0 = f := by
  unfold rday
  rw [Nat.zero_mul, Nat.add_zero, Nat.mod_eq_of_lt hf]
theorem rday_succ {t : Nat} : rday n k f (t + 1) = (rday n k f t + k) % n := by
  unfold rday
  rw [Nat.mod_add_mod, Nat.succ_mul, Nat.add_assoc]
theorem RNT.back (h : RNT n k g N) (hf : f < n) : rday n k f N = f := (mod_self_iff hf).mpr h.z
theorem RNT.notback (h : RNT n k g N) (hf : f < n) {t : Nat} (t0 : 0 < t) (t1 : t < N) : rday n k f t ≠ f := fun q => h.nz t t0 t1 ((mod_self_iff hf).mp q)
theorem RNT.dn (h : RNT n k g N) : g ∣ n := ⟨N, by rw [Nat.mul_comm]; exact h.ng.symm⟩
theorem RNT.dk (h : RNT n k g N) : g ∣ k := ⟨k / g, by rw [Nat.mul_comm]; exact h.kg.symm⟩
theorem RNT.mod (h : RNT n k g N) {t : Nat} : rday n k f t % g = f % g := by
  unfold rday
  rw [Nat.mod_mod_of_dvd _ h.dn]
  obtain ⟨c, hc⟩ := h.dk
  rw [hc, show f + t * (g * c) = f + g * (t * c) by rw [Nat.mul_left_comm], Nat.add_mul_mod_self_left]
/-- each day is come to -/
theorem RNT.all (h : RNT n k g N) (hn : 1 ≤ n) {d : Nat} (hd : d < n) : ∃ t, t < N ∧ rday n k (d % g) t = d := by
  obtain ⟨u, hu⟩ := h.u
  have n1 := h.n1
  have key : rday n k (d % g) (d / g * u) = d := by
    unfold rday
    have e : (d / g * u * k) % n = (d / g * g) % n := by
      rw [show d / g * u * k = d / g * (k * u) by rw [Nat.mul_assoc, Nat.mul_comm u k], Nat.mul_mod, hu, ← Nat.mul_mod]
    rw [← Nat.add_mod_mod, e, Nat.add_mod_mod, Nat.mul_comm, Nat.mod_add_div, Nat.mod_eq_of_lt hd]
  generalize d / g * u = T at key
  have hz : N * k * (T / N) % n = 0 := by rw [Nat.mul_mod, h.z, Nat.zero_mul, Nat.zero_mod]
  have e2 : T * k % n = (T % N) * k % n := by
    conv => lhs; rw [← Nat.mod_add_div T N, Nat.add_mul, show N * (T / N) * k = N * k * (T / N) by rw [Nat.mul_right_comm]]
    rw [Nat.add_mod, hz, Nat.add_zero, Nat.mod_mod]
  have e4 : rday n k (d % g) (T % N) = rday n k (d % g) T := by
    unfold rday
    rw [← Nat.add_mod_mod, ← e2, Nat.add_mod_mod]
  exact ⟨T % N, Nat.mod_lt _ (by omega), e4.trans key⟩
end
end
end M

namespace G
open PySem PySem.Spec DL M
local macro_rules
  | `(tactic| simp_arith [$ts,*]) => `(tactic| simp (maxSteps := 10000000) (disch := first | assumption | omega | (simp only [List.length_map, List.length_range, List.length_cons, List.length_nil, List.length_append, List.length_replicate, $ts,*]; omega)) only [re_ok_, re_own_, re_ownT_, rf_ownT_, rs_retT_, re_exn_, rb_ok_, rb_exn_, rl_ok_, rl_exn_, rs_nx_, rs_ret_, rs_retO_, rs_bk_, rs_ct_, rs_exn_, rf_ok_, rf_own_, rf_exn_, rt_some, r_bin, kBin1_ok, kBin1_own, kBin1_exn, kBin2_ok, kBin2_own, kBin1_ownT, kBin2_ownT, kBin2_exn, r_un, kUn_ok, kUn_own, kUn_exn, r_b, kB_ok, kB_own, kB_exn, r_tru, kTru_ok, kTru_own, kTru_exn, truB_int, truB_non, truB_lst, truB_tup, r_not, kNot_ok, kNot_exn, r_and, kAnd_ok, kAnd_exn, r_or, kOr_ok, kOr_exn, r_ite, kIte_ok, kIte_exn, r_andV, kAndV_ok, kAndV_exn, r_orV, kOrV_ok, kOrV_exn, r_notV, kNotV_ok, kNotV_exn, r_chain, kCh1_ok, kCh1_exn, kCh2_ok, kCh2_exn, kCh3_ok, kCh3_exn, kCh4_ok, kCh4_exn, r_cons, kCons1_ok, kCons1_own, kCons1_ownT, kCons1_exn, kCons2_ok, kCons2_exn, r_lst, kLst_ok, kLst_exn, r_tup, kTup_ok, kTup_exn, r_call, kCall_ok, kCall_exn, r_part, kPart_ok, kPart_exn, r_sl, kSl1_ok, kSl1_own, kSl1_exn, kSl2_no, kSl2_at, kSl3_no, kSl3_at, sl_v, sl_l, slV_l, r_rev, kRev_ok, kRev_own, revV_l, top_int, top_bl, top_str, top_non, top_lst, top_tup, top_dic, top_scr, len_var, lenS_l, len_t, sum_var, onS_l, max_var, min_var, max_l, min_l, sorted_var, sorted_l, any_l, list_var, listS_l, list_t, tuple_l, int_b, add_var, add_l, addV_l, addL_l, mul_l1, map_snoc, ixL_enc, ixL_encT, ixL_scr, ixLt0, ixLt1, r_seq, kSeq_nx, kSeq_ret, kSeq_retT, kSeq_retO, kSeq_bk, kSeq_ct, kSeq_exn, r_if, kIf_ok, kIf_exn, r_set, kSet_ok, kSet_own, kSet_ownT, kSet_exn, r_setC, kSetC_own, kSetC_exn, r_ret, kRet_ok, kRet_own, kRet_ownT, kRet_exn, r_drop, kDrop_ok, kDrop_own, kDrop_ownT, kDrop_exn, r_asg, kAsg_ok, kAsg_own, kAsg_ownT, kAsg_exn, aug_e, r_aug, kAug_ok, kAug_exn, r_setIx, kSx1_ok, kSx1_own, kSx1_exn, kSx2_ok, kSx2_exn, r_app, kApp_ok, kApp_own, kApp_exn, appS_bo, r_rng1, kRng1_ok, kRng1_exn, r_rng2, kRng2_ok, kRng2_exn, r_rng3, kRng3_ok, kRng3_exn, r_seqI, frz_v, frz_l, frzS_mu, frzS_ro, frO_s, kSeqI_l, kSeqI_t, kSeqI_ol, kSeqI_v, kSeqI_exn, r_enum, kEnum_ok, kEnum_exn, enO_s, r_zip, kZip_ok, kZip_exn, ziO1_s, ziO2_s, r_for, kFor_ok, kFor_exn, kTurn_s, kLoop_nx, kLoop_ct, kLoop_bk, kLoop_ret, kLoop_retT, kLoop_retO, kLoop_exn, kUnrT_s, kUnr_nx, kUnr_ct, kUnr_bk, kUnr_ret, kUnr_retT, kUnr_retO, kUnr_exn, kWt_ok, kWt_exn, kWb_nx, kWb_ct, kWb_bk, kWb_ret, kWb_retO, kWb_exn, r_lc, kLc_ok, kLc_exn, kLcT_s, kLcB_ok, kLcE_ok, kLcE_own, r_yes, kLcST_s, kLcSB_ok, kLcS_ok, kLcS_own, r_run, kFin_nx, kFin_ret, kFin_retT, kFin_retO, kFin_exn, r_fn, kFn_ok, kFn_exn, r_fnK, kFnK_ok, kFnK_exn, permC_s, permL_nil, permL_cons, bor_e, borS_n, borS_v, borM_mu, borM_bo, r_appF, kBor_s, clash_n, clash_s, clash_0, kEnd_ok, kEnd_own, kEnd_ownT, kLok_ownT, kEnd_exn0, kLok_ok, kLok_own, back_n, back_s, lock_nil, lock_cons, lockS_mu, lockS_ro, lent_nil, lent_var, lent_int, lent_bl, lent_str, lent_non, lent_lst, lent_tup, lent_scr, lent_dic, safe_non, safe_bl, safe_int, safe_str, safe_tup_, safe_lst_, safeA_nil, safeA_cons, safeI_non, safeI_lst, safeA_ints, contB_e, contS_fz, contS_n, r_isi, kIsi_ok, kIsi_own, kIsi_ownT, kIsi_exn, r_lstR, kLstR_ok, kLstR_exn, lstK1, lstK2, r_ls, kLs_ok, kLs_own, lsS_l, r_par2, kPar2_ok, kPar2_exn, r_par3, kPar3_ok, kPar3_exn, r_par, kPb_ok, kPb_own, kPc_ok, kPc_own, kPd_s, kPe_s, putS_t, putS_f, r_mov, movS_s, r_popAt, kPop_ok, kPop_exn, popAtS_mu, pop_e, safeI_jd, ixL_encN, r_while, kUnrT_s, res_v, eq_v1, ne_v1, eq_v2, ne_v2, res_LI, res_nil, res_non, res_int, res_str, eqR_li, neR_li, eqR_nil, neR_nil, eqR_nilN, neR_nilN, ln_snoc, gt_lst, Rel, SStp, Rel, r_lm, kLm_ok, kLm_own, lmS_l, r_bits, kBits_ok, r_isi2, kIsi2_ok, isa2_lst, isa2_tup, isa2_int, isa2_bl, isa2_non, isa2_str, r_ulk, kUlk_ok, r_setO, kSetO_own, kSetO_non, kSetO_exn, r_parN, PkN_nil, PkN_cons, kPk_ok, kPk_own, PtN_nil, PtN_t, PtN_f, addI_ii, putIx_e, itm_e, itmS_mu, itmS_bo, r_augIx, kAx1_ok, axM_s, kAx3_ok, r_fz, fzO_s, isN_non, isnN_non, isN_tup, isnN_tup, isN_lst, isnN_lst, isN_int, isnN_int, isN_str, isnN_str, isN_bl, isnN_bl, isB, isnB, sortP_l, r_sl3, kS30_ok, kS30_own, kS3a_no, kS3a_at, kS3b_no, kS3b_at, kS3c_no, kS3c_at, s3d_i, r_dic0, r_excV, top_exc, lent_exc, isi_int_exc, isi_bool_exc, isi_str_exc, isi_list_exc, isi_tuple_exc, isi_dict_exc, r_tupB, kTupB_own, tbS_fz, r_asgT, kAsgT_T, kAsgT_ok, e_c, e_v, e_vc, ofF_fz, ofS_fz, ofS_cl, e_nil, noP_e, s_nx, s_bk, s_ct, s_retN, retC_e, retS_mu, toB_bl, truB_bl, add_ii, sub_ii, neg_i, lt_ii, le_ii, gt_ii, ge_ii, mul_ii, fdiv_ii, mod_ii, pow_ii, abs_m, int_i, max_m, min_m, len_l, len_s, sum_l, all_l, ix_var, ix_lst, ix_tup, ix_scr, ixL0, ixL1, ixL2, nc_get, nc_fz, nc_none, nc_map, fr_get, fr_none, fr_fz, fr_mu, fr_ro, isL_get, isL_cl, co_cl, top_v, set_bo0, set_bo1, set_bo2, appS_mu, appS_bo, cont_cl, cont_no, pars_0, pars9_0, pars9_1, pars9_2, pars9_3, pars9_4, pars9_5, pars9_6, pars9_7, pars9_8, list_li, repr_v, reprX_li, repr_li, repr_int, neq_li, neq_sh, neq_shI, eq_li, eq_ii, ne_ii, gt_tup, gt_cons, gtB_s, gt_nil, gt_name, optO_s, rest_nil, rest_cons, wipe_nil, wipe_cons, lstK3, isi_int_non, isi_int_bl, isi_int_int, isi_int_str, isi_int_lst, isi_int_tup, isi_int_dic, isi_int_scr, isi_bool_non, isi_bool_bl, isi_bool_int, isi_bool_str, isi_bool_lst, isi_bool_tup, isi_bool_dic, isi_bool_scr, isi_str_non, isi_str_bl, isi_str_int, isi_str_str, isi_str_lst, isi_str_tup, isi_str_dic, isi_str_scr, isi_list_non, isi_list_bl, isi_list_int, isi_list_str, isi_list_lst, isi_list_tup, isi_list_dic, isi_list_scr, isi_tuple_non, isi_tuple_bl, isi_tuple_int, isi_tuple_str, isi_tuple_lst, isi_tuple_tup, isi_tuple_dic, isi_tuple_scr, isi_dict_non, isi_dict_bl, isi_dict_int, isi_dict_str, isi_dict_lst, isi_dict_tup, isi_dict_dic, isi_dict_scr, rng_len, List.replicate, List.map_cons, List.map_nil, List.length_cons, List.length_nil, List.length_map, List.length_range, List.length_append, List.getElem?_cons_zero, List.getElem?_cons_succ, List.getElem?_nil, List.getD_cons_zero, List.getD_cons_succ, List.set_cons_zero, List.set_cons_succ, List.set_nil, List.cons_append, List.nil_append, List.append_nil, List.all_cons, List.all_nil, List.isEmpty_cons, List.isEmpty_nil, List.contains_nil, Nat.reduceAdd, Nat.reduceSub, Nat.reduceLeDiff, Nat.reduceEqDiff, Nat.reduceLT, Bool.false_eq_true, reduceIte, decide_true, decide_false, if_true, if_false, Bool.not_true, Bool.not_false, Bool.and_true, Bool.true_and, Bool.and_false, Bool.false_and, Bool.or_true, Bool.true_or, Bool.or_false, Bool.false_or, Bool.and_self, and_self, true_and, and_true, decide_eq_true_eq, Bool.not_eq_true', decide_eq_false_iff_not, Bool.not_eq_eq_eq_not, Bool.not_not, Bool.and_eq_true, Bool.or_eq_true, bne_iff_ne, ne_eq, Option.map_some, Option.map_none, frS_Fs, if_pos, if_neg, decide_eq_true, decide_eq_false, not_false_eq_true, not_true_eq_false, Int.toNat_natCast, Int.reduceToNat, Int.toNat_add, toNat_subL, Int.toNat_emod, Int.toNat_one, Nat.reduceMul, Int.reduceNeg, $ts,*])
  | `(tactic| simp_arith only []) => `(tactic| (simp (disch := assumption) only [List.cons.injEq, exists_and_left, exists_and_right, ex_fz, ex_map, ex_no, ex_sl, ex_mu, ex_ro, ex_nn, ex_cf, ex_P2, ex_P3, ex_mu2, ex_mu3, ex_ro2, ex_ro3, ex_cf2, ex_cf3, ex_nn2, ex_nn3, and_self, and_true, true_and, Option.map_some, Option.map_none]) <;> rfl)
  | `(tactic| simp_arith!) => `(tactic| first | rfl | (simp only [LI, List.range_succ, List.map_append, List.map_cons, List.map_nil, Option.map_some, Option.map_none, List.append_assoc]; done) | (simp only [LI, List.range_succ, List.map_append, List.map_cons, List.map_nil, Option.map_some, Option.map_none, List.append_assoc]; rfl))
section
variable {Q : RF → Prop} {n : Nat} {b : Bg} {x l : List Int} {k : Nat}
theorem alike_int {n : Nat} {y : Int} : r_law_alike (n + 1) [.int y, .int y] = .ok (.bl true) .non := by
  refine of_run ?_
  rw [show r_law_alike (n + 1) = runF 99 3 (g_law_alike (r_law_alike n)) from rfl]
  unfold g_law_alike
  rw [r_run]
  have ei : ∀ (v : Bool) δ, neD δ (.bl v) (.bl v) = .ok (.bl false) δ := fun v δ => by cases v <;> rfl
  have ee : ∀ (v : Bool) δ, eqD δ (.bl v) (.bl v) = .ok (.bl true) δ := fun v δ => by cases v <;> rfl
  simp_arith [ei, ee]
theorem alike_LI {n : Nat} (hl : l.length ≤ 1000) : r_law_alike (n + 2) [LI l, LI l] = .ok (.bl true) .non := by
  refine of_run ?_
  rw [show r_law_alike (n + 2) = runF 99 3 (g_law_alike (r_law_alike (n + 1))) from rfl]
  unfold g_law_alike
  rw [r_run]
  have ei : ∀ (v : Bool) δ, neD δ (.bl v) (.bl v) = .ok (.bl false) δ := fun v δ => by cases v <;> rfl
  simp_arith [ei]
  refine lc_r0 (enc2 := D.bl) (fun _ => true) (fun p hp => ?_) ?_
  · simp_arith [alike_int]
  simp_arith []
  congr 2
  rw [List.all_eq_true]
  intro v hv
  obtain ⟨_, _, rfl⟩ := List.mem_map.mp hv
  rfl
theorem law_told_l {g : Nat} (h1 : 1 ≤ g) (h2 : g ≤ x.length) (h3 : x.length ≤ 1000) : f_law_told [LI x, .int g] = .own (LI (wins x g)) .non := by
  refine of_run ?_
  unfold f_law_told g_law_told
  rw [r_run]
  have en : ((x.length : Int) - g + 1) = ((x.length + 1 - g : Nat) : Int) := by omega
  simp_arith [en]
  refine lc_r0 (enc2 := D.int) (win x g) (fun p hp => ?_) ?_
  · have ec : cutD (x.map D.int) (some (p : Int)) (some ((p : Int) + (g : Int))) = ((x.drop p).take g).map D.int := by
      rw [cut_mid (p := p) (q := p + g) rfl (by omega) (by omega) (by omega), Nat.add_sub_cancel_left]
    simp_arith [ec]
    rw [win_sum (by omega)]
  simp_arith []
  rfl
theorem law_ring_l (h1 : 1 ≤ k) (h2 : k ≤ 8) (hk : k ≤ x.length) (h3 : x.length ≤ 1000) : f_law_ring [LI x, .int k] = .own (LI (rings x k)) .non := by
  refine of_run ?_
  unfold f_law_ring g_law_ring
  rw [r_run]
  simp_arith []
  refine lc_r0 (enc2 := D.int) (rsum x k) (fun p hp => ?_) ?_
  · have em : ∀ δ, mulD δ (.lst (x.map D.int)) (.int 9) = .own (LI (List.replicate 9 x).flatten) δ := fun δ => by
      rw [mul_l (by rw [List.length_map]; refine ⟨by decide, by decide, ?_⟩; show x.length * 9 ≤ _; omega), show (9 : Int).toNat = 9 from rfl, ← List.map_replicate, ← List.map_flatten]
    have ef := flat_len (x := x) 9
    have ew := win_flat (x := x) (k := k) (r := 9) (d := p) (by omega)
    generalize (List.replicate 9 x).flatten = y at em ef ew
    have ec : cutD (y.map D.int) (some (p : Int)) (some ((p : Int) + (k : Int))) = ((y.drop p).take k).map D.int := by
      rw [cut_mid (p := p) (q := p + k) rfl (by omega) (by omega) (by omega), Nat.add_sub_cancel_left]
    simp_arith [em]
    simp_arith [ec]
    rw [win_sum (by omega), ew]
  simp_arith []
  rfl
end
end G

namespace G
open PySem PySem.Spec DL M
local macro_rules
  | `(tactic| simp_arith [$ts,*]) => `(tactic| simp (maxSteps := 10000000) (disch := first | assumption | omega | (simp only [List.length_map, List.length_range, List.length_cons, List.length_nil, List.length_append, List.length_replicate, $ts,*]; omega)) only [re_ok_, re_own_, re_ownT_, rf_ownT_, rs_retT_, re_exn_, rb_ok_, rb_exn_, rl_ok_, rl_exn_, rs_nx_, rs_ret_, rs_retO_, rs_bk_, rs_ct_, rs_exn_, rf_ok_, rf_own_, rf_exn_, rt_some, r_bin, kBin1_ok, kBin1_own, kBin1_exn, kBin2_ok, kBin2_own, kBin1_ownT, kBin2_ownT, kBin2_exn, r_un, kUn_ok, kUn_own, kUn_exn, r_b, kB_ok, kB_own, kB_exn, r_tru, kTru_ok, kTru_own, kTru_exn, truB_int, truB_non, truB_lst, truB_tup, r_not, kNot_ok, kNot_exn, r_and, kAnd_ok, kAnd_exn, r_or, kOr_ok, kOr_exn, r_ite, kIte_ok, kIte_exn, r_andV, kAndV_ok, kAndV_exn, r_orV, kOrV_ok, kOrV_exn, r_notV, kNotV_ok, kNotV_exn, r_chain, kCh1_ok, kCh1_exn, kCh2_ok, kCh2_exn, kCh3_ok, kCh3_exn, kCh4_ok, kCh4_exn, r_cons, kCons1_ok, kCons1_own, kCons1_ownT, kCons1_exn, kCons2_ok, kCons2_exn, r_lst, kLst_ok, kLst_exn, r_tup, kTup_ok, kTup_exn, r_call, kCall_ok, kCall_exn, r_part, kPart_ok, kPart_exn, r_sl, kSl1_ok, kSl1_own, kSl1_exn, kSl2_no, kSl2_at, kSl3_no, kSl3_at, sl_v, sl_l, slV_l, r_rev, kRev_ok, kRev_own, revV_l, top_int, top_bl, top_str, top_non, top_lst, top_tup, top_dic, top_scr, len_var, lenS_l, len_t, sum_var, onS_l, max_var, min_var, max_l, min_l, sorted_var, sorted_l, any_l, list_var, listS_l, list_t, tuple_l, int_b, add_var, add_l, addV_l, addL_l, mul_l1, map_snoc, ixL_enc, ixL_encT, ixL_scr, ixLt0, ixLt1, r_seq, kSeq_nx, kSeq_ret, kSeq_retT, kSeq_retO, kSeq_bk, kSeq_ct, kSeq_exn, r_if, kIf_ok, kIf_exn, r_set, kSet_ok, kSet_own, kSet_ownT, kSet_exn, r_setC, kSetC_own, kSetC_exn, r_ret, kRet_ok, kRet_own, kRet_ownT, kRet_exn, r_drop, kDrop_ok, kDrop_own, kDrop_ownT, kDrop_exn, r_asg, kAsg_ok, kAsg_own, kAsg_ownT, kAsg_exn, aug_e, r_aug, kAug_ok, kAug_exn, r_setIx, kSx1_ok, kSx1_own, kSx1_exn, kSx2_ok, kSx2_exn, r_app, kApp_ok, kApp_own, kApp_exn, appS_bo, r_rng1, kRng1_ok, kRng1_exn, r_rng2, kRng2_ok, kRng2_exn, r_rng3, kRng3_ok, kRng3_exn, r_seqI, frz_v, frz_l, frzS_mu, frzS_ro, frO_s, kSeqI_l, kSeqI_t, kSeqI_ol, kSeqI_v, kSeqI_exn, r_enum, kEnum_ok, kEnum_exn, enO_s, r_zip, kZip_ok, kZip_exn, ziO1_s, ziO2_s, r_for, kFor_ok, kFor_exn, kTurn_s, kLoop_nx, kLoop_ct, kLoop_bk, kLoop_ret, kLoop_retT, kLoop_retO, kLoop_exn, kUnrT_s, kUnr_nx, kUnr_ct, kUnr_bk, kUnr_ret, kUnr_retT, kUnr_retO, kUnr_exn, kWt_ok, kWt_exn, kWb_nx, kWb_ct, kWb_bk, kWb_ret, kWb_retO, kWb_exn, r_lc, kLc_ok, kLc_exn, kLcT_s, kLcB_ok, kLcE_ok, kLcE_own, r_yes, kLcST_s, kLcSB_ok, kLcS_ok, kLcS_own, r_run, kFin_nx, kFin_ret, kFin_retT, kFin_retO, kFin_exn, r_fn, kFn_ok, kFn_exn, r_fnK, kFnK_ok, kFnK_exn, permC_s, permL_nil, permL_cons, bor_e, borS_n, borS_v, borM_mu, borM_bo, r_appF, kBor_s, clash_n, clash_s, clash_0, kEnd_ok, kEnd_own, kEnd_ownT, kLok_ownT, kEnd_exn0, kLok_ok, kLok_own, back_n, back_s, lock_nil, lock_cons, lockS_mu, lockS_ro, lent_nil, lent_var, lent_int, lent_bl, lent_str, lent_non, lent_lst, lent_tup, lent_scr, lent_dic, safe_non, safe_bl, safe_int, safe_str, safe_tup_, safe_lst_, safeA_nil, safeA_cons, safeI_non, safeI_lst, safeA_ints, contB_e, contS_fz, contS_n, r_isi, kIsi_ok, kIsi_own, kIsi_ownT, kIsi_exn, r_lstR, kLstR_ok, kLstR_exn, lstK1, lstK2, r_ls, kLs_ok, kLs_own, lsS_l, r_par2, kPar2_ok, kPar2_exn, r_par3, kPar3_ok, kPar3_exn, r_par, kPb_ok, kPb_own, kPc_ok, kPc_own, kPd_s, kPe_s, putS_t, putS_f, r_mov, movS_s, r_popAt, kPop_ok, kPop_exn, popAtS_mu, pop_e, safeI_jd, ixL_encN, r_while, kUnrT_s, res_v, eq_v1, ne_v1, eq_v2, ne_v2, res_LI, res_nil, res_non, res_int, res_str, eqR_li, neR_li, eqR_nil, neR_nil, eqR_nilN, neR_nilN, ln_snoc, gt_lst, Rel, SStp, Rel, r_lm, kLm_ok, kLm_own, lmS_l, r_bits, kBits_ok, r_isi2, kIsi2_ok, isa2_lst, isa2_tup, isa2_int, isa2_bl, isa2_non, isa2_str, r_ulk, kUlk_ok, r_setO, kSetO_own, kSetO_non, kSetO_exn, r_parN, PkN_nil, PkN_cons, kPk_ok, kPk_own, PtN_nil, PtN_t, PtN_f, addI_ii, putIx_e, itm_e, itmS_mu, itmS_bo, r_augIx, kAx1_ok, axM_s, kAx3_ok, r_fz, fzO_s, isN_non, isnN_non, isN_tup, isnN_tup, isN_lst, isnN_lst, isN_int, isnN_int, isN_str, isnN_str, isN_bl, isnN_bl, isB, isnB, sortP_l, r_sl3, kS30_ok, kS30_own, kS3a_no, kS3a_at, kS3b_no, kS3b_at, kS3c_no, kS3c_at, s3d_i, r_dic0, r_excV, top_exc, lent_exc, isi_int_exc, isi_bool_exc, isi_str_exc, isi_list_exc, isi_tuple_exc, isi_dict_exc, r_tupB, kTupB_own, tbS_fz, r_asgT, kAsgT_T, kAsgT_ok, e_c, e_v, e_vc, ofF_fz, ofS_fz, ofS_cl, e_nil, noP_e, s_nx, s_bk, s_ct, s_retN, retC_e, retS_mu, toB_bl, truB_bl, add_ii, sub_ii, neg_i, lt_ii, le_ii, gt_ii, ge_ii, mul_ii, fdiv_ii, mod_ii, pow_ii, abs_m, int_i, max_m, min_m, len_l, len_s, sum_l, all_l, ix_var, ix_lst, ix_tup, ix_scr, ixL0, ixL1, ixL2, nc_get, nc_fz, nc_none, nc_map, fr_get, fr_none, fr_fz, fr_mu, fr_ro, isL_get, isL_cl, co_cl, top_v, set_bo0, set_bo1, set_bo2, appS_mu, appS_bo, cont_cl, cont_no, pars_0, pars9_0, pars9_1, pars9_2, pars9_3, pars9_4, pars9_5, pars9_6, pars9_7, pars9_8, list_li, repr_v, reprX_li, repr_li, repr_int, neq_li, neq_sh, neq_shI, eq_li, eq_ii, ne_ii, gt_tup, gt_cons, gtB_s, gt_nil, gt_name, optO_s, rest_nil, rest_cons, wipe_nil, wipe_cons, lstK3, isi_int_non, isi_int_bl, isi_int_int, isi_int_str, isi_int_lst, isi_int_tup, isi_int_dic, isi_int_scr, isi_bool_non, isi_bool_bl, isi_bool_int, isi_bool_str, isi_bool_lst, isi_bool_tup, isi_bool_dic, isi_bool_scr, isi_str_non, isi_str_bl, isi_str_int, isi_str_str, isi_str_lst, isi_str_tup, isi_str_dic, isi_str_scr, isi_list_non, isi_list_bl, isi_list_int, isi_list_str, isi_list_lst, isi_list_tup, isi_list_dic, isi_list_scr, isi_tuple_non, isi_tuple_bl, isi_tuple_int, isi_tuple_str, isi_tuple_lst, isi_tuple_tup, isi_tuple_dic, isi_tuple_scr, isi_dict_non, isi_dict_bl, isi_dict_int, isi_dict_str, isi_dict_lst, isi_dict_tup, isi_dict_dic, isi_dict_scr, rng_len, List.replicate, List.map_cons, List.map_nil, List.length_cons, List.length_nil, List.length_map, List.length_range, List.length_append, List.getElem?_cons_zero, List.getElem?_cons_succ, List.getElem?_nil, List.getD_cons_zero, List.getD_cons_succ, List.set_cons_zero, List.set_cons_succ, List.set_nil, List.cons_append, List.nil_append, List.append_nil, List.all_cons, List.all_nil, List.isEmpty_cons, List.isEmpty_nil, List.contains_nil, Nat.reduceAdd, Nat.reduceSub, Nat.reduceLeDiff, Nat.reduceEqDiff, Nat.reduceLT, Bool.false_eq_true, reduceIte, decide_true, decide_false, if_true, if_false, Bool.not_true, Bool.not_false, Bool.and_true, Bool.true_and, Bool.and_false, Bool.false_and, Bool.or_true, Bool.true_or, Bool.or_false, Bool.false_or, Bool.and_self, and_self, true_and, and_true, decide_eq_true_eq, Bool.not_eq_true', decide_eq_false_iff_not, Bool.not_eq_eq_eq_not, Bool.not_not, Bool.and_eq_true, Bool.or_eq_true, bne_iff_ne, ne_eq, Option.map_some, Option.map_none, frS_Fs, if_pos, if_neg, decide_eq_true, decide_eq_false, not_false_eq_true, not_true_eq_false, Int.toNat_natCast, Int.reduceToNat, Int.toNat_add, toNat_subL, Int.toNat_emod, Int.toNat_one, Nat.reduceMul, Int.reduceNeg, $ts,*])
  | `(tactic| simp_arith only []) => `(tactic| (simp (disch := assumption) only [List.cons.injEq, exists_and_left, exists_and_right, ex_fz, ex_map, ex_no, ex_sl, ex_mu, ex_ro, ex_nn, ex_cf, ex_P2, ex_P3, ex_mu2, ex_mu3, ex_ro2, ex_ro3, ex_cf2, ex_cf3, ex_nn2, ex_nn3, and_self, and_true, true_and, Option.map_some, Option.map_none]) <;> rfl)
  | `(tactic| simp_arith!) => `(tactic| first | rfl | (simp only [LI, List.range_succ, List.map_append, List.map_cons, List.map_nil, Option.map_some, Option.map_none, List.append_assoc]; done) | (simp only [LI, List.range_succ, List.map_append, List.map_cons, List.map_nil, Option.map_some, Option.map_none, List.append_assoc]; rfl))
section
variable {Q : RF → Prop} {x w l : List Int} {n k g N f : Nat}
theorem cut_lastR {d : D} {ds : List D} : cutD (ds ++ [d]) none (some (-1)) = ds := by
  unfold cutD HT.sIx
  simp only [List.length_append, List.length_singleton]
  rw [if_pos (by decide), show ((-1 : Int) + ((ds.length + 1 : Nat) : Int)).toNat - 0 = ds.length by omega, List.drop_zero]
  exact List.take_left
theorem is_ring_list_l (h1 : 1 ≤ l.length) (h2 : l.length ≤ 60) : f_is_ring_list [LI l] = .ok (.bl true) .non := by
  have e := are_integers_l (l := l) (by omega)
  refine of_run ?_
  unfold f_is_ring_list g_is_ring_list
  rw [r_run]
  simp_arith [e]
theorem need_ring_length_i (h1 : 1 ≤ k) (h2 : k ≤ 8) (hk : k ≤ n) : f_need_ring_length [.int k, .int n] = .ok .non .non := by
  have hm : (k : Int) ≤ min 8 (n : Int) := by omega
  refine of_run ?_
  unfold f_need_ring_length g_need_ring_length
  rw [r_run]
  simp_arith []
theorem need_ring_l (h1 : 1 ≤ k) (h2 : k ≤ 8) (hk : k ≤ l.length) (h3 : l.length ≤ 60) : f_need_ring [LI l, .int k] = .ok .non .non := by
  have e1 := is_ring_list_l (l := l) (by omega) h3
  have e2 := need_ring_length_i (n := l.length) h1 h2 hk
  refine of_run ?_
  unfold f_need_ring g_need_ring
  rw [r_run]
  simp_arith [e1]
  simp_arith [e2]
theorem ring_sums_l (h1 : 1 ≤ k) (h2 : k ≤ 8) (hk : k ≤ x.length) (h3 : x.length ≤ 60) : f_ring_sums [LI x, .int k] = .own (LI (rings x k)) .non := by
  have e1 := is_ring_list_l (l := x) (by omega) h3
  have e2 := need_ring_length_i (n := x.length) h1 h2 hk
  refine of_run ?_
  unfold f_ring_sums g_ring_sums
  rw [r_run]
  simp_arith [e1]
  simp_arith [e2]
  have ef := flat_len (x := x) 2
  have ew : ∀ p, p < x.length → win (List.replicate 2 x).flatten k p = rsum x k p := fun p hp => win_flat (by omega)
  have e2 : x.map D.int ++ x.map D.int = (List.replicate 2 x).flatten.map D.int := by simp [List.replicate]
  rw [e2]
  generalize (List.replicate 2 x).flatten = y at ef ew
  refine lc_r0 (enc2 := D.int) (rsum x k) (fun p hp => ?_) ?_
  · have ec : cutD (y.map D.int) (some (p : Int)) (some ((p : Int) + (k : Int))) = ((y.drop p).take k).map D.int := by
      rw [cut_mid (p := p) (q := p + k) rfl (by omega) (by omega) (by omega), Nat.add_sub_cancel_left]
    simp_arith [ec]
    rw [win_sum (by omega), ew p hp]
  simp_arith []
  rfl
/-- a class, the first day again at its end -/
def rcls (n k f N : Nat) : List Nat := (List.range (N + 1)).map (rday n k f)
theorem ring_class_l (h : RNT n k g N) (hn : 1 ≤ n) (hn2 : n ≤ 60) (hk : k ≤ 8) (hf : f < n) : f_ring_class [.int n, .int k, .int f] = .own (LN (rcls n k f N)) .non := by
  have n1 := h.n1
  have hN : N ≤ 60 := by
    have := h.ng
    have := h.g1
    have : N * 1 ≤ N * g := Nat.mul_le_mul_left _ h.g1
    omega
  refine of_run ?_
  unfold f_ring_class g_ring_class
  rw [r_run]
  have e0 : ((f : Int) + k) % n = ((rday n k f 1 : Nat) : Int) := by
    unfold rday
    rw [Nat.one_mul, show (f : Int) + k = ((f + k : Nat) : Int) by omega]
    generalize f + k = a
    omega
  simp_arith [e0]
  refine while_wp (fun m δ => ∃ t, m = N - t ∧ 1 ≤ t ∧ t ≤ N ∧ δ = [some (.fz (.int (n))), some (.fz (.int (k))), some (.fz (.int (f))), some (.cl .mu (LN ((List.range (t + 1)).map (rday n k f))))]) (N - 1) (by omega) ⟨1, rfl, by omega, by omega, ?_⟩ ?_
  · have e : (List.range (1 + 1)).map (rday n k f) = [f, rday n k f 1] := by
      show [rday n k f 0, rday n k f 1] = _
      rw [rday_zero hf]
    rw [e]
    rfl
  · rintro m δ ⟨t, rfl, t1, t2, rfl⟩
    have e1 : ((List.range (t + 1)).map (rday n k f))[t]! = rday n k f t := by
      rw [getElem!_pos _ t (by simp)]
      simp
    have es : (((rday n k f t : Nat) : Int) + k) % n = ((rday n k f (t + 1) : Nat) : Int) := by
      rw [rday_succ, show ((rday n k f t : Nat) : Int) + k = ((rday n k f t + k : Nat) : Int) by omega]
      generalize rday n k f t + k = a
      omega
    have ez : (-1 : Int) + ((t + 1 : Nat) : Int) = (t : Int) := by omega
    by_cases q : t = N
    · have eq : rday n k f t = f := by rw [q]; exact h.back hf
      simp_arith []
      rw [ez, Int.toNat_natCast, e1, eq, if_neg (by simp)]
      rw [q]
      rfl
    · have nq : rday n k f t ≠ f := h.notback hf (by omega) (by omega)
      simp_arith []
      rw [ez, Int.toNat_natCast, e1, if_pos (by omega), es]
      refine ⟨N - (t + 1), by omega, t + 1, rfl, by omega, by omega, ?_⟩
      rw [List.range_succ (n := t + 1), List.map_append, LN, List.map_append]
      rfl
theorem rcls_len : (rcls n k f N).length = N + 1 := by rw [rcls, List.length_map, List.length_range]
theorem ring_share_l (h : RNT n k g N) (hn : 1 ≤ n) (hn2 : n ≤ 60) (hk : k ≤ 8) : f_ring_share [.int n, .int k] = .ok (.int g) .non := by
  have e : f_ring_class [.int n, .int k, .int 0] = .own (LN (rcls n k 0 N)) .non := ring_class_l (f := 0) h hn hn2 hk (by omega)
  have n1 := h.n1
  have el := rcls_len (n := n) (k := k) (f := 0) (N := N)
  generalize rcls n k 0 N = c at e el
  have ed : (n : Int) / (N : Int) = g := by
    rw [← h.ng, show ((N * g : Nat) : Int) = (N : Int) * g by omega]
    exact Int.mul_ediv_cancel_left _ (by omega)
  have eN : ((c.length : Nat) : Int) - 1 = N := by omega
  have hN : N ≤ 60 := by
    have : N * 1 ≤ N * g := Nat.mul_le_mul_left _ h.g1
    have := h.ng
    omega
  refine of_run ?_
  unfold f_ring_share g_ring_share
  rw [r_run]
  simp_arith [e]
  rw [eN]
  simp_arith [ed]
/-- what is added to a class's first day -/
theorem class_steps_l (h : RNT x.length k g N) (hn : 1 ≤ x.length) (hn2 : x.length ≤ 60) (hk : k ≤ 8) (hf : f < x.length) : f_class_steps [LI (rings x k), LN (rcls x.length k f N)] = .own (LI ((List.range (N + 1)).map fun t => x[rday x.length k f t]! - x[f]!)) .non := by
  have n1 := h.n1
  have hN : N ≤ 60 := by
    have : N * 1 ≤ N * g := Nat.mul_le_mul_left _ h.g1
    have := h.ng
    omega
  have rl := rings_len (x := x) (k := k)
  have rg' : ∀ d, d < x.length → (rings x k)[d]! = rsum x k d := fun d hd => rings_get hd
  have ed : (rcls x.length k f N).map (fun n : Nat => D.int (n : Int)) = (((List.range N).map (rday x.length k f)).map fun n : Nat => D.int (n : Int)) ++ [D.int (rday x.length k f N)] := by
    rw [rcls, List.range_succ, List.map_append, List.map_append]
    rfl
  generalize rings x k = w at rl rg'
  refine of_run ?_
  unfold f_class_steps g_class_steps
  rw [r_run]
  have ec := cut_lastR (ds := ((List.range N).map (rday x.length k f)).map fun n : Nat => D.int (n : Int)) (d := D.int (rday x.length k f N))
  rw [← ed] at ec
  simp_arith [ec]
  refine for_map (enc := fun n : Nat => D.int (n : Int)) (l := (List.range N).map (rday x.length k f)) (fun t δ => ∃ o_day : Option D, δ = [some (.fz (LI (w))), some (.fz (.lst ((rcls x.length k f N).map fun n : Nat => D.int (n : Int)))), some (.cl .mu (LI ((List.range (t + 1)).map fun t => x[rday x.length k f t]! - x[f]!))), (o_day).map .fz]) ⟨none, ?_⟩ ?_ ?_
  · have e : (List.range (0 + 1)).map (fun t => x[rday x.length k f t]! - x[f]!) = [0] := by
      show [x[rday x.length k f 0]! - x[f]!] = _
      rw [rday_zero hf, Int.sub_self]
    rw [e]
    rfl
  · rintro t δ ht ⟨o_day, rfl⟩
    rw [List.length_map, List.length_range] at ht
    rw [List.getElem_map, List.getElem_range]
    have hd : rday x.length k f t < x.length := rday_lt hn
    have hs := rday_succ (n := x.length) (k := k) (f := f) (t := t)
    generalize hdd : rday x.length k f t = d at hd hs
    have em : ((d : Int) + 1) % (w.length : Int) = (((d + 1) % x.length : Nat) : Int) := by
      rw [rl, show (d : Int) + 1 = ((d + 1 : Nat) : Int) by omega]
      generalize d + 1 = a
      omega
    have lm : (d + 1) % x.length < x.length := Nat.mod_lt _ (by omega)
    have e1 := rg' d hd
    have e2 := rg' _ lm
    rw [rsum_mod] at e2
    have e3 := rsum_next (x := x) (k := k) (d := d)
    have e4 : rg x d = x[d]! := rg_lt hd
    have e5 : rg x (d + k) = x[rday x.length k f (t + 1)]! := by rw [hs]; rfl
    have el : ((List.range (t + 1)).map fun t => x[rday x.length k f t]! - x[f]!)[(-1 + ((t + 1 : Nat) : Int)).toNat]! = x[d]! - x[f]! := by
      rw [show (-1 + ((t + 1 : Nat) : Int)).toNat = t by omega, get_mapr (by omega), hdd]
    have ev : x[d]! - x[f]! + w[(d + 1) % x.length]! - w[d]! = x[rday x.length k f (t + 1)]! - x[f]! := by
      rw [e1, e2, ← e5, ← e4]
      omega
    simp_arith [em]
    rw [el, ev]
    refine ⟨some (.int d), ?_⟩
    have er : (List.range (t + 1 + 1)).map (fun t => x[rday x.length k f t]! - x[f]!) = (List.range (t + 1)).map (fun t => x[rday x.length k f t]! - x[f]!) ++ [x[rday x.length k f (t + 1)]! - x[f]!] := by
      rw [List.range_succ, List.map_append]
      rfl
    rw [er]
    rfl
  · rintro δ ⟨o_day, rfl⟩
    rw [List.length_map, List.length_range]
    simp_arith []
end
end G

/-! MRG2: the sums in a row that a ring has. -/
namespace M
section
variable {x : List Int} {n k g N : Nat}
/-- g days one after the other: each rest once -/
theorem sm_rot1 (h : Nat) (f : Nat → Int) : ∀ d, sm (fun t => f ((d + t) % (h + 1))) (h + 1) = sm f (h + 1)
  | 0 => sm_congr fun t ht => by rw [Nat.zero_add, Nat.mod_eq_of_lt ht]
  | d + 1 => by
    have ih := sm_rot1 h f d
    have h1 : sm (fun t => f ((d + t) % (h + 1))) (h + 1) = f ((d + 0) % (h + 1)) + sm (fun t => f ((d + (t + 1)) % (h + 1))) h := sm_head
    have h2 : sm (fun t => f ((d + 1 + t) % (h + 1))) (h + 1) = sm (fun t => f ((d + 1 + t) % (h + 1))) h + f ((d + 1 + h) % (h + 1)) := rfl
    have h3 : sm (fun t => f ((d + 1 + t) % (h + 1))) h = sm (fun t => f ((d + (t + 1)) % (h + 1))) h := sm_congr fun t _ => by rw [show d + (t + 1) = d + 1 + t by omega]
    rw [show d + 1 + h = d + (h + 1) by omega, Nat.add_mod_right] at h2
    rw [Nat.add_zero] at h1
    rw [h2, h3, ← ih, h1]
    exact Int.add_comm _ _
theorem sm_rot (hg : 1 ≤ g) (f : Nat → Int) (d : Nat) : sm (fun t => f ((d + t) % g)) g = sm f g := by
  have e : g = (g - 1) + 1 := by omega
  rw [e]
  exact sm_rot1 _ f d
theorem sm_rots (hg : 1 ≤ g) (f : Nat → Int) : ∀ c, sm (fun t => f (t % g)) (c * g) = c * sm f g
  | 0 => by rw [Nat.zero_mul]; simp [sm]
  | c + 1 => by
    rw [Nat.succ_mul, sm_split, sm_rots hg f c]
    have e : sm (fun i => f ((c * g + i) % g)) g = sm f g := sm_congr fun t ht => by rw [Nat.mul_comm, Nat.mul_add_mod, Nat.mod_eq_of_lt ht]
    rw [e]
    have : ((c + 1 : Nat) : Int) * sm f g = (c : Int) * sm f g + 1 * sm f g := by rw [← Int.add_mul]; rfl
    omega
/-- what each day has more than the first one of its class -/
def mor (x : List Int) (g : Nat) : List Int := (List.range x.length).map fun d => x[d]! - x[d % g]!
theorem mor_len : (mor x g).length = x.length := by rw [mor, List.length_map, List.length_range]
theorem mor_get {d : Nat} (h : d < x.length) : (mor x g)[d]! = x[d]! - x[d % g]! := get_mapr h
theorem mor_rest (h : RNT x.length k g N) (hk : k ≤ x.length) : (rings x k)[0]! - ((mor x g).take k).sum = (k / g : Nat) * sm (fun r => x[r]!) g ∨ x.length = 0 := by
  by_cases q : x.length = 0
  · exact .inr q
  · refine .inl ?_
    rw [rings_get (by omega), sum_take (by rw [mor_len]; exact hk)]
    have e1 : sm (fun i => (mor x g)[i]!) k = sm (fun i => x[i]!) k - sm (fun i => x[i % g]!) k := by
      rw [← sm_sub]
      exact sm_congr fun t ht => mor_get (by omega)
    have e2 : rsum x k 0 = sm (fun i => x[i]!) k := sm_congr fun t ht => by rw [Nat.zero_add, rg_lt (by omega)]
    have e3 := sm_rots h.g1 (fun r => x[r]!) (k / g)
    rw [h.kg] at e3
    rw [e1, e2, ← e3]
    show sm (fun i => x[i]!) k - (sm (fun i => x[i]!) k - sm (fun t => x[t % g]!) k) = _
    omega
theorem mor_row (hg : 1 ≤ g) {d : Nat} (hd : d + g ≤ x.length) : sm (fun r => x[r]!) g + win (mor x g) g d = win x g d := by
  have e1 : win (mor x g) g d = sm (fun t => x[d + t]!) g - sm (fun t => x[(d + t) % g]!) g := by
    rw [← sm_sub]
    exact sm_congr fun t ht => mor_get (by omega)
  have e2 := sm_rot hg (fun r => x[r]!) d
  have e3 : win x g d = sm (fun t => x[d + t]!) g := rfl
  rw [e1, e3]
  have e4 : sm (fun t => x[(d + t) % g]!) g = sm (fun r => x[r]!) g := e2
  omega
theorem mor_all {l : List Int} (hl : l.length = x.length) (h : ∀ d, d < x.length → l[d]! = x[d]! - x[d % g]!) : l = mor x g := by
  refine List.ext_getElem (by rw [hl, mor_len]) fun d h1 h2 => ?_
  have e1 := h d (by omega)
  have e2 := mor_get (x := x) (g := g) (d := d) (by omega)
  rw [getElem!_pos l d h1] at e1
  rw [getElem!_pos _ d h2] at e2
  rw [e1, e2]
/-- the while of the greatest common divisor -/
theorem gcd_step {a b : Nat} : Nat.gcd b (a % b) = Nat.gcd a b := by
  rw [Nat.gcd_comm a b, Nat.gcd_rec b a, Nat.gcd_comm]
end
end M

namespace G
open PySem PySem.Spec DL M
local macro_rules
  | `(tactic| simp_arith [$ts,*]) => `(tactic| simp (maxSteps := 10000000) (disch := first | assumption | omega | (simp only [List.length_map, List.length_range, List.length_cons, List.length_nil, List.length_append, List.length_replicate, $ts,*]; omega)) only [re_ok_, re_own_, re_ownT_, rf_ownT_, rs_retT_, re_exn_, rb_ok_, rb_exn_, rl_ok_, rl_exn_, rs_nx_, rs_ret_, rs_retO_, rs_bk_, rs_ct_, rs_exn_, rf_ok_, rf_own_, rf_exn_, rt_some, r_bin, kBin1_ok, kBin1_own, kBin1_exn, kBin2_ok, kBin2_own, kBin1_ownT, kBin2_ownT, kBin2_exn, r_un, kUn_ok, kUn_own, kUn_exn, r_b, kB_ok, kB_own, kB_exn, r_tru, kTru_ok, kTru_own, kTru_exn, truB_int, truB_non, truB_lst, truB_tup, r_not, kNot_ok, kNot_exn, r_and, kAnd_ok, kAnd_exn, r_or, kOr_ok, kOr_exn, r_ite, kIte_ok, kIte_exn, r_andV, kAndV_ok, kAndV_exn, r_orV, kOrV_ok, kOrV_exn, r_notV, kNotV_ok, kNotV_exn, r_chain, kCh1_ok, kCh1_exn, kCh2_ok, kCh2_exn, kCh3_ok, kCh3_exn, kCh4_ok, kCh4_exn, r_cons, kCons1_ok, kCons1_own, kCons1_ownT, kCons1_exn, kCons2_ok, kCons2_exn, r_lst, kLst_ok, kLst_exn, r_tup, kTup_ok, kTup_exn, r_call, kCall_ok, kCall_exn, r_part, kPart_ok, kPart_exn, r_sl, kSl1_ok, kSl1_own, kSl1_exn, kSl2_no, kSl2_at, kSl3_no, kSl3_at, sl_v, sl_l, slV_l, r_rev, kRev_ok, kRev_own, revV_l, top_int, top_bl, top_str, top_non, top_lst, top_tup, top_dic, top_scr, len_var, lenS_l, len_t, sum_var, onS_l, max_var, min_var, max_l, min_l, sorted_var, sorted_l, any_l, list_var, listS_l, list_t, tuple_l, int_b, add_var, add_l, addV_l, addL_l, mul_l1, map_snoc, ixL_enc, ixL_encT, ixL_scr, ixLt0, ixLt1, r_seq, kSeq_nx, kSeq_ret, kSeq_retT, kSeq_retO, kSeq_bk, kSeq_ct, kSeq_exn, r_if, kIf_ok, kIf_exn, r_set, kSet_ok, kSet_own, kSet_ownT, kSet_exn, r_setC, kSetC_own, kSetC_exn, r_ret, kRet_ok, kRet_own, kRet_ownT, kRet_exn, r_drop, kDrop_ok, kDrop_own, kDrop_ownT, kDrop_exn, r_asg, kAsg_ok, kAsg_own, kAsg_ownT, kAsg_exn, aug_e, r_aug, kAug_ok, kAug_exn, r_setIx, kSx1_ok, kSx1_own, kSx1_exn, kSx2_ok, kSx2_exn, r_app, kApp_ok, kApp_own, kApp_exn, appS_bo, r_rng1, kRng1_ok, kRng1_exn, r_rng2, kRng2_ok, kRng2_exn, r_rng3, kRng3_ok, kRng3_exn, r_seqI, frz_v, frz_l, frzS_mu, frzS_ro, frO_s, kSeqI_l, kSeqI_t, kSeqI_ol, kSeqI_v, kSeqI_exn, r_enum, kEnum_ok, kEnum_exn, enO_s, r_zip, kZip_ok, kZip_exn, ziO1_s, ziO2_s, r_for, kFor_ok, kFor_exn, kTurn_s, kLoop_nx, kLoop_ct, kLoop_bk, kLoop_ret, kLoop_retT, kLoop_retO, kLoop_exn, kUnrT_s, kUnr_nx, kUnr_ct, kUnr_bk, kUnr_ret, kUnr_retT, kUnr_retO, kUnr_exn, kWt_ok, kWt_exn, kWb_nx, kWb_ct, kWb_bk, kWb_ret, kWb_retO, kWb_exn, r_lc, kLc_ok, kLc_exn, kLcT_s, kLcB_ok, kLcE_ok, kLcE_own, r_yes, kLcST_s, kLcSB_ok, kLcS_ok, kLcS_own, r_run, kFin_nx, kFin_ret, kFin_retT, kFin_retO, kFin_exn, r_fn, kFn_ok, kFn_exn, r_fnK, kFnK_ok, kFnK_exn, permC_s, permL_nil, permL_cons, bor_e, borS_n, borS_v, borM_mu, borM_bo, r_appF, kBor_s, clash_n, clash_s, clash_0, kEnd_ok, kEnd_own, kEnd_ownT, kLok_ownT, kEnd_exn0, kLok_ok, kLok_own, back_n, back_s, lock_nil, lock_cons, lockS_mu, lockS_ro, lent_nil, lent_var, lent_int, lent_bl, lent_str, lent_non, lent_lst, lent_tup, lent_scr, lent_dic, safe_non, safe_bl, safe_int, safe_str, safe_tup_, safe_lst_, safeA_nil, safeA_cons, safeI_non, safeI_lst, safeA_ints, contB_e, contS_fz, contS_n, r_isi, kIsi_ok, kIsi_own, kIsi_ownT, kIsi_exn, r_lstR, kLstR_ok, kLstR_exn, lstK1, lstK2, r_ls, kLs_ok, kLs_own, lsS_l, r_par2, kPar2_ok, kPar2_exn, r_par3, kPar3_ok, kPar3_exn, r_par, kPb_ok, kPb_own, kPc_ok, kPc_own, kPd_s, kPe_s, putS_t, putS_f, r_mov, movS_s, r_popAt, kPop_ok, kPop_exn, popAtS_mu, pop_e, safeI_jd, ixL_encN, r_while, kUnrT_s, res_v, eq_v1, ne_v1, eq_v2, ne_v2, res_LI, res_nil, res_non, res_int, res_str, eqR_li, neR_li, eqR_nil, neR_nil, eqR_nilN, neR_nilN, ln_snoc, gt_lst, Rel, SStp, Rel, r_lm, kLm_ok, kLm_own, lmS_l, r_bits, kBits_ok, r_isi2, kIsi2_ok, isa2_lst, isa2_tup, isa2_int, isa2_bl, isa2_non, isa2_str, r_ulk, kUlk_ok, r_setO, kSetO_own, kSetO_non, kSetO_exn, r_parN, PkN_nil, PkN_cons, kPk_ok, kPk_own, PtN_nil, PtN_t, PtN_f, addI_ii, putIx_e, itm_e, itmS_mu, itmS_bo, r_augIx, kAx1_ok, axM_s, kAx3_ok, r_fz, fzO_s, isN_non, isnN_non, isN_tup, isnN_tup, isN_lst, isnN_lst, isN_int, isnN_int, isN_str, isnN_str, isN_bl, isnN_bl, isB, isnB, sortP_l, r_sl3, kS30_ok, kS30_own, kS3a_no, kS3a_at, kS3b_no, kS3b_at, kS3c_no, kS3c_at, s3d_i, r_dic0, r_excV, top_exc, lent_exc, isi_int_exc, isi_bool_exc, isi_str_exc, isi_list_exc, isi_tuple_exc, isi_dict_exc, r_tupB, kTupB_own, tbS_fz, r_asgT, kAsgT_T, kAsgT_ok, e_c, e_v, e_vc, ofF_fz, ofS_fz, ofS_cl, e_nil, noP_e, s_nx, s_bk, s_ct, s_retN, retC_e, retS_mu, toB_bl, truB_bl, add_ii, sub_ii, neg_i, lt_ii, le_ii, gt_ii, ge_ii, mul_ii, fdiv_ii, mod_ii, pow_ii, abs_m, int_i, max_m, min_m, len_l, len_s, sum_l, all_l, ix_var, ix_lst, ix_tup, ix_scr, ixL0, ixL1, ixL2, nc_get, nc_fz, nc_none, nc_map, fr_get, fr_none, fr_fz, fr_mu, fr_ro, isL_get, isL_cl, co_cl, top_v, set_bo0, set_bo1, set_bo2, appS_mu, appS_bo, cont_cl, cont_no, pars_0, pars9_0, pars9_1, pars9_2, pars9_3, pars9_4, pars9_5, pars9_6, pars9_7, pars9_8, list_li, repr_v, reprX_li, repr_li, repr_int, neq_li, neq_sh, neq_shI, eq_li, eq_ii, ne_ii, gt_tup, gt_cons, gtB_s, gt_nil, gt_name, optO_s, rest_nil, rest_cons, wipe_nil, wipe_cons, lstK3, isi_int_non, isi_int_bl, isi_int_int, isi_int_str, isi_int_lst, isi_int_tup, isi_int_dic, isi_int_scr, isi_bool_non, isi_bool_bl, isi_bool_int, isi_bool_str, isi_bool_lst, isi_bool_tup, isi_bool_dic, isi_bool_scr, isi_str_non, isi_str_bl, isi_str_int, isi_str_str, isi_str_lst, isi_str_tup, isi_str_dic, isi_str_scr, isi_list_non, isi_list_bl, isi_list_int, isi_list_str, isi_list_lst, isi_list_tup, isi_list_dic, isi_list_scr, isi_tuple_non, isi_tuple_bl, isi_tuple_int, isi_tuple_str, isi_tuple_lst, isi_tuple_tup, isi_tuple_dic, isi_tuple_scr, isi_dict_non, isi_dict_bl, isi_dict_int, isi_dict_str, isi_dict_lst, isi_dict_tup, isi_dict_dic, isi_dict_scr, rng_len, List.replicate, List.map_cons, List.map_nil, List.length_cons, List.length_nil, List.length_map, List.length_range, List.length_append, List.getElem?_cons_zero, List.getElem?_cons_succ, List.getElem?_nil, List.getD_cons_zero, List.getD_cons_succ, List.set_cons_zero, List.set_cons_succ, List.set_nil, List.cons_append, List.nil_append, List.append_nil, List.all_cons, List.all_nil, List.isEmpty_cons, List.isEmpty_nil, List.contains_nil, Nat.reduceAdd, Nat.reduceSub, Nat.reduceLeDiff, Nat.reduceEqDiff, Nat.reduceLT, Bool.false_eq_true, reduceIte, decide_true, decide_false, if_true, if_false, Bool.not_true, Bool.not_false, Bool.and_true, Bool.true_and, Bool.and_false, Bool.false_and, Bool.or_true, Bool.true_or, Bool.or_false, Bool.false_or, Bool.and_self, and_self, true_and, and_true, decide_eq_true_eq, Bool.not_eq_true', decide_eq_false_iff_not, Bool.not_eq_eq_eq_not, Bool.not_not, Bool.and_eq_true, Bool.or_eq_true, bne_iff_ne, ne_eq, Option.map_some, Option.map_none, frS_Fs, if_pos, if_neg, decide_eq_true, decide_eq_false, not_false_eq_true, not_true_eq_false, Int.toNat_natCast, Int.reduceToNat, Int.toNat_add, toNat_subL, Int.toNat_emod, Int.toNat_one, Nat.reduceMul, Int.reduceNeg, $ts,*])
  | `(tactic| simp_arith only []) => `(tactic| (simp (disch := assumption) only [List.cons.injEq, exists_and_left, exists_and_right, ex_fz, ex_map, ex_no, ex_sl, ex_mu, ex_ro, ex_nn, ex_cf, ex_P2, ex_P3, ex_mu2, ex_mu3, ex_ro2, ex_ro3, ex_cf2, ex_cf3, ex_nn2, ex_nn3, and_self, and_true, true_and, Option.map_some, Option.map_none]) <;> rfl)
  | `(tactic| simp_arith!) => `(tactic| first | rfl | (simp only [LI, List.range_succ, List.map_append, List.map_cons, List.map_nil, Option.map_some, Option.map_none, List.append_assoc]; done) | (simp only [LI, List.range_succ, List.map_append, List.map_cons, List.map_nil, Option.map_some, Option.map_none, List.append_assoc]; rfl))
section
variable {Q : RF → Prop} {x w l : List Int} {n k g N f : Nat}
theorem zip_snoc {f g : Nat → Int} {y : D} : ∀ l : List Nat, zipL ((l.map f).map D.int) ((l.map g).map D.int ++ [y]) = l.map fun i => .tup [.int (f i), .int (g i)]
  | [] => rfl
  | a :: l => by
    rw [List.map_cons, List.map_cons, List.map_cons, List.map_cons, List.cons_append, zipL, zip_snoc l]
    rfl
theorem ring_story_l (h : RNT x.length k g N) (h1 : 1 ≤ k) (h2 : k ≤ 8) (hk : k ≤ x.length) (h3 : x.length ≤ 60) : f_ring_story [LI (rings x k), .int k] = .ownT [] ((wins x g).map D.int) [.int g] .non := by
  have n1 := h.n1
  have g1 := h.g1
  have gk : g ≤ k := Nat.le_of_dvd (by omega) h.dk
  have es := ring_share_l h (by omega) h3 h2
  have rl := rings_len (x := x) (k := k)
  have ec : ∀ s, s < x.length → f_ring_class [.int x.length, .int k, .int s] = .own (LN (rcls x.length k s N)) .non := fun s hs => ring_class_l h (by omega) h3 h2 hs
  have ep : ∀ s, s < x.length → f_class_steps [LI (rings x k), LN (rcls x.length k s N)] = .own (LI ((List.range (N + 1)).map fun t => x[rday x.length k s t]! - x[s]!)) .non := fun s hs => class_steps_l h (by omega) h3 h2 hs
  have r0 : (rings x k)[0]! - ((mor x g).take k).sum = (k / g : Nat) * sm (fun r => x[r]!) g := (mor_rest h hk).resolve_right (by omega)
  generalize rings x k = w at es rl ec ep r0
  refine of_run ?_
  unfold f_ring_story g_ring_story
  rw [r_run]
  simp_arith [rl]
  simp_arith [es]
  refine for_r0 (fun s δ => ∃ l : List Int, (l.length = x.length ∧ ∀ d, d < x.length → d % g < s → l[d]! = x[d]! - x[d % g]!) ∧ ∃ o_first o_days o_steps o_day o_step : Option D, δ = [some (.fz (LI (w))), some (.fz (.int (k))), some (.fz (.int (x.length))), some (.fz (.int (g))), some (.cl .mu (LI l)), (o_first).map .fz, none, none, (o_days).map .fz, (o_steps).map .fz, (o_day).map .fz, (o_step).map .fz]) ⟨List.replicate x.length 0, ⟨List.length_replicate, fun d _ hd => absurd hd (by omega)⟩, none, none, none, none, none, ?_⟩ ?_ ?_
  · have e : LI (List.replicate x.length 0) = D.lst (List.replicate x.length (D.int 0)) := by rw [LI, List.map_replicate]
    rw [e]
    rfl
  · rintro s δ hs ⟨l, ⟨hl, hd⟩, o_first, o_days, o_steps, o_day, o_step, rfl⟩
    have hn : s < x.length := by omega
    have ec := ec s hn
    have ep := ep s hn
    have el : ((List.range (N + 1)).map fun t => x[rday x.length k s t]! - x[s]!)[N]! = 0 := by
      rw [get_mapr (by omega), h.back hn, Int.sub_self]
    have ed : (rcls x.length k s N).map (fun n : Nat => D.int (n : Int)) = (((List.range N).map fun t => ((rday x.length k s t : Nat) : Int)).map D.int) ++ [D.int (rday x.length k s N)] := by
      rw [rcls, List.range_succ, List.map_append, List.map_append]
      simp [List.map_map]
    have eu : ((List.range (N + 1)).map fun t => x[rday x.length k s t]! - x[s]!).map D.int = ((List.range N).map fun t => x[rday x.length k s t]! - x[s]!).map D.int ++ [D.int (x[rday x.length k s N]! - x[s]!)] := by
      rw [List.range_succ, List.map_append, List.map_append]
      rfl
    have lu : ((List.range (N + 1)).map fun t => x[rday x.length k s t]! - x[s]!).length = N + 1 := by rw [List.length_map, List.length_range]
    generalize ((List.range (N + 1)).map fun t => x[rday x.length k s t]! - x[s]!) = u at ep el eu lu
    have ez : (-1 : Int) + ((u.length : Nat) : Int) = (N : Int) := by omega
    have et := cut_lastR (ds := (((List.range N).map fun t => ((rday x.length k s t : Nat) : Int)).map D.int)) (d := D.int (rday x.length k s N))
    rw [← ed] at et
    have ey := zip_snoc (f := fun t => ((rday x.length k s t : Nat) : Int)) (g := fun t => x[rday x.length k s t]! - x[s]!) (y := D.int (x[rday x.length k s N]! - x[s]!)) (List.range N)
    rw [← eu] at ey
    simp_arith [ec]
    simp_arith [ep]
    simp_arith [ez, el]
    simp_arith [et]
    rw [ey]
    refine for_map (enc := fun t : Nat => D.tup [.int ((rday x.length k s t : Nat) : Int), .int (x[rday x.length k s t]! - x[s]!)]) (l := List.range N) (fun t δ => ∃ l : List Int, (l.length = x.length ∧ ∀ d, d < x.length → (d % g < s ∨ ∃ t', t' < t ∧ rday x.length k s t' = d) → l[d]! = x[d]! - x[d % g]!) ∧ ∃ o_day o_step : Option D, δ = [some (.fz (LI (w))), some (.fz (.int (k))), some (.fz (.int (x.length))), some (.fz (.int (g))), some (.cl .mu (LI l)), some (.fz (.int (s))), none, none, some (.fz (LN (rcls x.length k s N))), some (.fz (LI (u))), (o_day).map .fz, (o_step).map .fz]) ⟨l, ⟨hl, fun d hd1 hd2 => hd d hd1 (hd2.resolve_right fun ⟨_, q, _⟩ => absurd q (by omega))⟩, _, _, rfl⟩ ?_ ?_
    · rintro t δ ht ⟨l, ⟨hl, hd⟩, o_day, o_step, rfl⟩
      rw [List.length_range] at ht
      rw [List.getElem_range]
      have lt : rday x.length k s t < x.length := rday_lt (by omega)
      have lm : rday x.length k s t % g = s := by rw [h.mod, Nat.mod_eq_of_lt hs]
      have hset : ∀ d, d < x.length → (d % g < s ∨ ∃ t', t' < t + 1 ∧ rday x.length k s t' = d) → (l.set (rday x.length k s t) (x[rday x.length k s t]! - x[s]!))[d]! = x[d]! - x[d % g]! := fun d hd1 hd2 => by
        rw [getElem!_pos _ d (by rw [List.length_set]; omega), List.getElem_set]
        by_cases q : rday x.length k s t = d
        · rw [if_pos q, q, ← q, lm]
        · rw [if_neg q, ← getElem!_pos l d (by omega)]
          refine hd d hd1 ?_
          rcases hd2 with a | ⟨t', a, b⟩
          · exact .inl a
          · refine .inr ⟨t', ?_, b⟩
            have : t' ≠ t := fun z => q (z ▸ b)
            omega
      generalize rday x.length k s t = d at lt lm hset
      have ew : ∀ δ, setS (some (some (.cl .mu (LI l)))) 4 (D.int (x[d]! - x[s]!)) d δ = .nx (δ.set 4 (some (.cl .mu (LI (l.set d (x[d]! - x[s]!)))))) := fun δ => by
        have := setS_mu (enc := D.int) (l := l) (i := 4) (k := (d : Int)) (w := x[d]! - x[s]!) (δ := δ) (by omega)
        rw [Int.toNat_natCast] at this
        exact this
      simp_arith [ew]
      exact ⟨_, ⟨by rw [List.length_set]; exact hl, hset⟩, some (.int d), some (.int (x[d]! - x[s]!)), rfl⟩
    · rintro δ ⟨l, ⟨hl, hd⟩, o_day, o_step, rfl⟩
      rw [List.length_range] at hd
      refine ⟨l, ⟨hl, fun d hd1 hd2 => hd d hd1 ?_⟩, some (.int s), some (LN (rcls x.length k s N)), some (LI u), o_day, o_step, rfl⟩
      by_cases q : d % g = s
      · right
        have := h.all (by omega) hd1
        rw [q] at this
        exact this
      · left
        omega
  · rintro δ ⟨l, ⟨hl, hd⟩, o_first, o_days, o_steps, o_day, o_step, rfl⟩
    have em : l = mor x g := mor_all hl fun d hd1 => hd d hd1 (Nat.mod_lt _ (by omega))
    have ml := mor_len (x := x) (g := g)
    have mr : ∀ d, d + g ≤ x.length → sm (fun r => x[r]!) g + win (mor x g) g d = win x g d := fun d hd => mor_row g1 hd
    rw [em]
    generalize mor x g = y at r0 ml mr
    generalize sm (fun r => x[r]!) g = z at r0 mr
    have ec : cutD (y.map D.int) none (some (k : Int)) = (y.take k).map D.int := cut_take rfl (by omega)
    have ek : (k : Int) / (g : Int) = ((k / g : Nat) : Int) := (Int.natCast_ediv k g).symm
    have kg := h.kg
    generalize k / g = c at r0 ek kg
    have c1 : 1 ≤ c := by
      rcases Nat.eq_zero_or_pos c with rfl | q
      · omega
      · exact q
    simp_arith [ec]
    rw [r0]
    simp_arith [ek]
    have em : ((c : Int) * z) % (c : Int) = 0 := Int.mul_emod_right ..
    have eq : ((c : Int) * z) / (c : Int) = z := Int.mul_ediv_cancel_left _ (by omega)
    have c8 : c ≤ 8 := by
      have : c * 1 ≤ c * g := Nat.mul_le_mul_left _ g1
      omega
    simp_arith [em]
    simp_arith [eq]
    rw [show x.length - g + 1 = x.length + 1 - g by omega]
    refine lc_r0 (enc2 := D.int) (win x g) (fun p hp => ?_) ?_
    · have ec : cutD (y.map D.int) (some (p : Int)) (some ((p : Int) + (g : Int))) = ((y.drop p).take g).map D.int := by
        rw [cut_mid (p := p) (q := p + g) rfl (by omega) (by omega) (by omega), Nat.add_sub_cancel_left]
      simp_arith [ec]
      rw [win_sum (by omega), mr p (by omega)]
    have ew : (List.range (x.length + 1 - g)).map (win x g) = wins x g := rfl
    rw [ew, kTupB_own]
    simp_arith []
theorem ring_line_l (h : RNT x.length k g N) (h1 : 1 ≤ k) (h2 : k ≤ 8) (hk : k ≤ x.length) (h3 : x.length ≤ 60) : f_ring_line [LI (rings x k), .int k] = .own (LI (wins x g)) .non := by
  have e1 := ring_story_l h h1 h2 hk h3
  have e0 := need_ring_l (l := rings x k) h1 h2 (by rw [rings_len]; exact hk) (by rw [rings_len]; exact h3)
  generalize rings x k = w at e0 e1
  generalize wins x g = y at e1
  refine of_run ?_
  unfold f_ring_line g_ring_line
  rw [r_run]
  simp_arith [e0]
  have ei : ∀ (a b c : Option SV), isiK .str (.var 2) [a, b, some (.cl .mu (.lst (y.map .int))), c] = .ok (.bl false) [a, b, some (.cl .mu (.lst (y.map .int))), c] := fun _ _ _ => rfl
  simp_arith [e1]
  simp_arith [ei]
theorem law_shared_l {a b : Nat} (hb : b ≤ 1000) : f_law_shared [.int a, .int b] = .ok (.int (Nat.gcd a b : Nat)) .non := by
  refine of_run ?_
  unfold f_law_shared g_law_shared
  rw [r_run]
  simp_arith []
  refine while_wp (fun m δ => ∃ u v : Nat, (v ≤ m ∧ v ≤ 1000 ∧ Nat.gcd u v = Nat.gcd a b) ∧ δ = [some (.fz (.int (u))), some (.fz (.int (v)))]) 1000 (by omega) ⟨a, b, ⟨hb, hb, rfl⟩, rfl⟩ ?_
  rintro m δ ⟨u, v, ⟨hv, hv2, hg⟩, rfl⟩
  by_cases q : v = 0
  · rw [q, Nat.gcd_zero_right] at hg
    simp_arith [q]
    rw [hg]
  · have em : (u : Int) % (v : Int) = ((u % v : Nat) : Int) := (Int.natCast_emod u v).symm
    have lm : u % v < v := Nat.mod_lt _ (by omega)
    have eg := gcd_step (a := u) (b := v)
    simp_arith [em]
    exact ⟨m - 1, by omega, v, u % v, ⟨by omega, by omega, by rw [eg, hg]⟩, rfl⟩
end
end G

namespace G
open PySem PySem.Spec DL M
local macro_rules
  | `(tactic| simp_arith [$ts,*]) => `(tactic| simp (maxSteps := 10000000) (disch := first | assumption | omega | (simp only [List.length_map, List.length_range, List.length_cons, List.length_nil, List.length_append, List.length_replicate, $ts,*]; omega)) only [re_ok_, re_own_, re_ownT_, rf_ownT_, rs_retT_, re_exn_, rb_ok_, rb_exn_, rl_ok_, rl_exn_, rs_nx_, rs_ret_, rs_retO_, rs_bk_, rs_ct_, rs_exn_, rf_ok_, rf_own_, rf_exn_, rt_some, r_bin, kBin1_ok, kBin1_own, kBin1_exn, kBin2_ok, kBin2_own, kBin1_ownT, kBin2_ownT, kBin2_exn, r_un, kUn_ok, kUn_own, kUn_exn, r_b, kB_ok, kB_own, kB_exn, r_tru, kTru_ok, kTru_own, kTru_exn, truB_int, truB_non, truB_lst, truB_tup, r_not, kNot_ok, kNot_exn, r_and, kAnd_ok, kAnd_exn, r_or, kOr_ok, kOr_exn, r_ite, kIte_ok, kIte_exn, r_andV, kAndV_ok, kAndV_exn, r_orV, kOrV_ok, kOrV_exn, r_notV, kNotV_ok, kNotV_exn, r_chain, kCh1_ok, kCh1_exn, kCh2_ok, kCh2_exn, kCh3_ok, kCh3_exn, kCh4_ok, kCh4_exn, r_cons, kCons1_ok, kCons1_own, kCons1_ownT, kCons1_exn, kCons2_ok, kCons2_exn, r_lst, kLst_ok, kLst_exn, r_tup, kTup_ok, kTup_exn, r_call, kCall_ok, kCall_exn, r_part, kPart_ok, kPart_exn, r_sl, kSl1_ok, kSl1_own, kSl1_exn, kSl2_no, kSl2_at, kSl3_no, kSl3_at, sl_v, sl_l, slV_l, r_rev, kRev_ok, kRev_own, revV_l, top_int, top_bl, top_str, top_non, top_lst, top_tup, top_dic, top_scr, len_var, lenS_l, len_t, sum_var, onS_l, max_var, min_var, max_l, min_l, sorted_var, sorted_l, any_l, list_var, listS_l, list_t, tuple_l, int_b, add_var, add_l, addV_l, addL_l, mul_l1, map_snoc, ixL_enc, ixL_encT, ixL_scr, ixLt0, ixLt1, r_seq, kSeq_nx, kSeq_ret, kSeq_retT, kSeq_retO, kSeq_bk, kSeq_ct, kSeq_exn, r_if, kIf_ok, kIf_exn, r_set, kSet_ok, kSet_own, kSet_ownT, kSet_exn, r_setC, kSetC_own, kSetC_exn, r_ret, kRet_ok, kRet_own, kRet_ownT, kRet_exn, r_drop, kDrop_ok, kDrop_own, kDrop_ownT, kDrop_exn, r_asg, kAsg_ok, kAsg_own, kAsg_ownT, kAsg_exn, aug_e, r_aug, kAug_ok, kAug_exn, r_setIx, kSx1_ok, kSx1_own, kSx1_exn, kSx2_ok, kSx2_exn, r_app, kApp_ok, kApp_own, kApp_exn, appS_bo, r_rng1, kRng1_ok, kRng1_exn, r_rng2, kRng2_ok, kRng2_exn, r_rng3, kRng3_ok, kRng3_exn, r_seqI, frz_v, frz_l, frzS_mu, frzS_ro, frO_s, kSeqI_l, kSeqI_t, kSeqI_ol, kSeqI_v, kSeqI_exn, r_enum, kEnum_ok, kEnum_exn, enO_s, r_zip, kZip_ok, kZip_exn, ziO1_s, ziO2_s, r_for, kFor_ok, kFor_exn, kTurn_s, kLoop_nx, kLoop_ct, kLoop_bk, kLoop_ret, kLoop_retT, kLoop_retO, kLoop_exn, kUnrT_s, kUnr_nx, kUnr_ct, kUnr_bk, kUnr_ret, kUnr_retT, kUnr_retO, kUnr_exn, kWt_ok, kWt_exn, kWb_nx, kWb_ct, kWb_bk, kWb_ret, kWb_retO, kWb_exn, r_lc, kLc_ok, kLc_exn, kLcT_s, kLcB_ok, kLcE_ok, kLcE_own, r_yes, kLcST_s, kLcSB_ok, kLcS_ok, kLcS_own, r_run, kFin_nx, kFin_ret, kFin_retT, kFin_retO, kFin_exn, r_fn, kFn_ok, kFn_exn, r_fnK, kFnK_ok, kFnK_exn, permC_s, permL_nil, permL_cons, bor_e, borS_n, borS_v, borM_mu, borM_bo, r_appF, kBor_s, clash_n, clash_s, clash_0, kEnd_ok, kEnd_own, kEnd_ownT, kLok_ownT, kEnd_exn0, kLok_ok, kLok_own, back_n, back_s, lock_nil, lock_cons, lockS_mu, lockS_ro, lent_nil, lent_var, lent_int, lent_bl, lent_str, lent_non, lent_lst, lent_tup, lent_scr, lent_dic, safe_non, safe_bl, safe_int, safe_str, safe_tup_, safe_lst_, safeA_nil, safeA_cons, safeI_non, safeI_lst, safeA_ints, contB_e, contS_fz, contS_n, r_isi, kIsi_ok, kIsi_own, kIsi_ownT, kIsi_exn, r_lstR, kLstR_ok, kLstR_exn, lstK1, lstK2, r_ls, kLs_ok, kLs_own, lsS_l, r_par2, kPar2_ok, kPar2_exn, r_par3, kPar3_ok, kPar3_exn, r_par, kPb_ok, kPb_own, kPc_ok, kPc_own, kPd_s, kPe_s, putS_t, putS_f, r_mov, movS_s, r_popAt, kPop_ok, kPop_exn, popAtS_mu, pop_e, safeI_jd, ixL_encN, r_while, kUnrT_s, res_v, eq_v1, ne_v1, eq_v2, ne_v2, res_LI, res_nil, res_non, res_int, res_str, eqR_li, neR_li, eqR_nil, neR_nil, eqR_nilN, neR_nilN, ln_snoc, gt_lst, Rel, SStp, Rel, r_lm, kLm_ok, kLm_own, lmS_l, r_bits, kBits_ok, r_isi2, kIsi2_ok, isa2_lst, isa2_tup, isa2_int, isa2_bl, isa2_non, isa2_str, r_ulk, kUlk_ok, r_setO, kSetO_own, kSetO_non, kSetO_exn, r_parN, PkN_nil, PkN_cons, kPk_ok, kPk_own, PtN_nil, PtN_t, PtN_f, addI_ii, putIx_e, itm_e, itmS_mu, itmS_bo, r_augIx, kAx1_ok, axM_s, kAx3_ok, r_fz, fzO_s, isN_non, isnN_non, isN_tup, isnN_tup, isN_lst, isnN_lst, isN_int, isnN_int, isN_str, isnN_str, isN_bl, isnN_bl, isB, isnB, sortP_l, r_sl3, kS30_ok, kS30_own, kS3a_no, kS3a_at, kS3b_no, kS3b_at, kS3c_no, kS3c_at, s3d_i, r_dic0, r_excV, top_exc, lent_exc, isi_int_exc, isi_bool_exc, isi_str_exc, isi_list_exc, isi_tuple_exc, isi_dict_exc, r_tupB, kTupB_own, tbS_fz, r_asgT, kAsgT_T, kAsgT_ok, e_c, e_v, e_vc, ofF_fz, ofS_fz, ofS_cl, e_nil, noP_e, s_nx, s_bk, s_ct, s_retN, retC_e, retS_mu, toB_bl, truB_bl, add_ii, sub_ii, neg_i, lt_ii, le_ii, gt_ii, ge_ii, mul_ii, fdiv_ii, mod_ii, pow_ii, abs_m, int_i, max_m, min_m, len_l, len_s, sum_l, all_l, ix_var, ix_lst, ix_tup, ix_scr, ixL0, ixL1, ixL2, nc_get, nc_fz, nc_none, nc_map, fr_get, fr_none, fr_fz, fr_mu, fr_ro, isL_get, isL_cl, co_cl, top_v, set_bo0, set_bo1, set_bo2, appS_mu, appS_bo, cont_cl, cont_no, pars_0, pars9_0, pars9_1, pars9_2, pars9_3, pars9_4, pars9_5, pars9_6, pars9_7, pars9_8, list_li, repr_v, reprX_li, repr_li, repr_int, neq_li, neq_sh, neq_shI, eq_li, eq_ii, ne_ii, gt_tup, gt_cons, gtB_s, gt_nil, gt_name, optO_s, rest_nil, rest_cons, wipe_nil, wipe_cons, lstK3, isi_int_non, isi_int_bl, isi_int_int, isi_int_str, isi_int_lst, isi_int_tup, isi_int_dic, isi_int_scr, isi_bool_non, isi_bool_bl, isi_bool_int, isi_bool_str, isi_bool_lst, isi_bool_tup, isi_bool_dic, isi_bool_scr, isi_str_non, isi_str_bl, isi_str_int, isi_str_str, isi_str_lst, isi_str_tup, isi_str_dic, isi_str_scr, isi_list_non, isi_list_bl, isi_list_int, isi_list_str, isi_list_lst, isi_list_tup, isi_list_dic, isi_list_scr, isi_tuple_non, isi_tuple_bl, isi_tuple_int, isi_tuple_str, isi_tuple_lst, isi_tuple_tup, isi_tuple_dic, isi_tuple_scr, isi_dict_non, isi_dict_bl, isi_dict_int, isi_dict_str, isi_dict_lst, isi_dict_tup, isi_dict_dic, isi_dict_scr, rng_len, List.replicate, List.map_cons, List.map_nil, List.length_cons, List.length_nil, List.length_map, List.length_range, List.length_append, List.getElem?_cons_zero, List.getElem?_cons_succ, List.getElem?_nil, List.getD_cons_zero, List.getD_cons_succ, List.set_cons_zero, List.set_cons_succ, List.set_nil, List.cons_append, List.nil_append, List.append_nil, List.all_cons, List.all_nil, List.isEmpty_cons, List.isEmpty_nil, List.contains_nil, Nat.reduceAdd, Nat.reduceSub, Nat.reduceLeDiff, Nat.reduceEqDiff, Nat.reduceLT, Bool.false_eq_true, reduceIte, decide_true, decide_false, if_true, if_false, Bool.not_true, Bool.not_false, Bool.and_true, Bool.true_and, Bool.and_false, Bool.false_and, Bool.or_true, Bool.true_or, Bool.or_false, Bool.false_or, Bool.and_self, and_self, true_and, and_true, decide_eq_true_eq, Bool.not_eq_true', decide_eq_false_iff_not, Bool.not_eq_eq_eq_not, Bool.not_not, Bool.and_eq_true, Bool.or_eq_true, bne_iff_ne, ne_eq, Option.map_some, Option.map_none, frS_Fs, if_pos, if_neg, decide_eq_true, decide_eq_false, not_false_eq_true, not_true_eq_false, Int.toNat_natCast, Int.reduceToNat, Int.toNat_add, toNat_subL, Int.toNat_emod, Int.toNat_one, Nat.reduceMul, Int.reduceNeg, $ts,*])
  | `(tactic| simp_arith only []) => `(tactic| (simp (disch := assumption) only [List.cons.injEq, exists_and_left, exists_and_right, ex_fz, ex_map, ex_no, ex_sl, ex_mu, ex_ro, ex_nn, ex_cf, ex_P2, ex_P3, ex_mu2, ex_mu3, ex_ro2, ex_ro3, ex_cf2, ex_cf3, ex_nn2, ex_nn3, and_self, and_true, true_and, Option.map_some, Option.map_none]) <;> rfl)
  | `(tactic| simp_arith!) => `(tactic| first | rfl | (simp only [LI, List.range_succ, List.map_append, List.map_cons, List.map_nil, Option.map_some, Option.map_none, List.append_assoc]; done) | (simp only [LI, List.range_succ, List.map_append, List.map_cons, List.map_nil, Option.map_some, Option.map_none, List.append_assoc]; rfl))
section
variable {Q : RF → Prop} {x w l : List Int} {n k g N f : Nat} {b : Bg}
/-- drawn numbers of days -/
theorem days_k41 {many most : Int} (h : Bag n b) (hn : n < 80000000) (hm : 0 ≤ many ∧ many ≤ 1000) (ht : 0 ≤ most ∧ most ≤ 10 ^ 30) (K : ∀ (ns : List Int) b', (ns.length : Int) = many → (∀ x ∈ ns, 0 ≤ x ∧ x ≤ most) → Bag (n + 6000) b' → Q (.own (LI ns) (bg b'))) : RnF Q (f_law_days_k41 [bg b, .int many, .int most]) := by
  unfold f_law_days_k41 g_law_days_k41
  rw [r_run]
  simp_arith []
  refine draw h (by omega) (by omega) fun way b w0 w1 h => ?_
  by_cases q : way = 0
  · simp_arith [q]
    refine lc_stR (enc2 := D.int) (fun k δ => ∃ b, δ = [some (.cl .bo (bg b)), some (.fz (.int (many))), some (.fz (.int (most))), some (.fz (.int (0))), none] ∧ Bag (n + 5 + 5 * k) b) (fun _ c => 0 ≤ c ∧ c ≤ most) ?_ ?_ ?_
    · simp_arith []
      exact ⟨_, rfl, h⟩
    · rintro k δ hk ⟨b, rfl, h⟩
      simp_arith []
      refine draw h (by omega) (by omega) fun r b r0 r1 h => ?_
      simp_arith []
      have hb : 0 ≤ most * r ∧ most * r ≤ most := by
        have : r = 0 ∨ r = 1 := by omega
        rcases this with rfl | rfl <;> omega
      exact ⟨⟨_, rfl, hb⟩, _, rfl, h⟩
    rintro ns δ' ⟨b, rfl, h⟩ hl hp
    simp_arith []
    exact K _ _ (by omega) (all_of_ix hp) (h.mono (by omega))
  · simp_arith [q]
    refine lc_stR (enc2 := D.int) (fun k δ => ∃ b, δ = [some (.cl .bo (bg b)), some (.fz (.int (many))), some (.fz (.int (most))), some (.fz (.int (way))), none] ∧ Bag (n + 5 + 5 * k) b) (fun _ c => 0 ≤ c ∧ c ≤ most) ?_ ?_ ?_
    · simp_arith []
      exact ⟨_, rfl, h⟩
    · rintro k δ hk ⟨b, rfl, h⟩
      simp_arith []
      refine draw h (by omega) (by omega) fun r b r0 r1 h => ?_
      simp_arith []
      exact ⟨⟨_, rfl, by omega⟩, _, rfl, h⟩
    rintro ns δ' ⟨b, rfl, h⟩ hl hp
    simp_arith []
    exact K _ _ (by omega) (all_of_ix hp) (h.mono (by omega))
end
end G

namespace G
open PySem PySem.Spec DL M
local macro_rules
  | `(tactic| simp_arith [$ts,*]) => `(tactic| simp (maxSteps := 10000000) (disch := first | assumption | omega | (simp only [List.length_map, List.length_range, List.length_cons, List.length_nil, List.length_append, List.length_replicate, $ts,*]; omega)) only [re_ok_, re_own_, re_ownT_, rf_ownT_, rs_retT_, re_exn_, rb_ok_, rb_exn_, rl_ok_, rl_exn_, rs_nx_, rs_ret_, rs_retO_, rs_bk_, rs_ct_, rs_exn_, rf_ok_, rf_own_, rf_exn_, rt_some, r_bin, kBin1_ok, kBin1_own, kBin1_exn, kBin2_ok, kBin2_own, kBin1_ownT, kBin2_ownT, kBin2_exn, r_un, kUn_ok, kUn_own, kUn_exn, r_b, kB_ok, kB_own, kB_exn, r_tru, kTru_ok, kTru_own, kTru_exn, truB_int, truB_non, truB_lst, truB_tup, r_not, kNot_ok, kNot_exn, r_and, kAnd_ok, kAnd_exn, r_or, kOr_ok, kOr_exn, r_ite, kIte_ok, kIte_exn, r_andV, kAndV_ok, kAndV_exn, r_orV, kOrV_ok, kOrV_exn, r_notV, kNotV_ok, kNotV_exn, r_chain, kCh1_ok, kCh1_exn, kCh2_ok, kCh2_exn, kCh3_ok, kCh3_exn, kCh4_ok, kCh4_exn, r_cons, kCons1_ok, kCons1_own, kCons1_ownT, kCons1_exn, kCons2_ok, kCons2_exn, r_lst, kLst_ok, kLst_exn, r_tup, kTup_ok, kTup_exn, r_call, kCall_ok, kCall_exn, r_part, kPart_ok, kPart_exn, r_sl, kSl1_ok, kSl1_own, kSl1_exn, kSl2_no, kSl2_at, kSl3_no, kSl3_at, sl_v, sl_l, slV_l, r_rev, kRev_ok, kRev_own, revV_l, top_int, top_bl, top_str, top_non, top_lst, top_tup, top_dic, top_scr, len_var, lenS_l, len_t, sum_var, onS_l, max_var, min_var, max_l, min_l, sorted_var, sorted_l, any_l, list_var, listS_l, list_t, tuple_l, int_b, add_var, add_l, addV_l, addL_l, mul_l1, map_snoc, ixL_enc, ixL_encT, ixL_scr, ixLt0, ixLt1, r_seq, kSeq_nx, kSeq_ret, kSeq_retT, kSeq_retO, kSeq_bk, kSeq_ct, kSeq_exn, r_if, kIf_ok, kIf_exn, r_set, kSet_ok, kSet_own, kSet_ownT, kSet_exn, r_setC, kSetC_own, kSetC_exn, r_ret, kRet_ok, kRet_own, kRet_ownT, kRet_exn, r_drop, kDrop_ok, kDrop_own, kDrop_ownT, kDrop_exn, r_asg, kAsg_ok, kAsg_own, kAsg_ownT, kAsg_exn, aug_e, r_aug, kAug_ok, kAug_exn, r_setIx, kSx1_ok, kSx1_own, kSx1_exn, kSx2_ok, kSx2_exn, r_app, kApp_ok, kApp_own, kApp_exn, appS_bo, r_rng1, kRng1_ok, kRng1_exn, r_rng2, kRng2_ok, kRng2_exn, r_rng3, kRng3_ok, kRng3_exn, r_seqI, frz_v, frz_l, frzS_mu, frzS_ro, frO_s, kSeqI_l, kSeqI_t, kSeqI_ol, kSeqI_v, kSeqI_exn, r_enum, kEnum_ok, kEnum_exn, enO_s, r_zip, kZip_ok, kZip_exn, ziO1_s, ziO2_s, r_for, kFor_ok, kFor_exn, kTurn_s, kLoop_nx, kLoop_ct, kLoop_bk, kLoop_ret, kLoop_retT, kLoop_retO, kLoop_exn, kUnrT_s, kUnr_nx, kUnr_ct, kUnr_bk, kUnr_ret, kUnr_retT, kUnr_retO, kUnr_exn, kWt_ok, kWt_exn, kWb_nx, kWb_ct, kWb_bk, kWb_ret, kWb_retO, kWb_exn, r_lc, kLc_ok, kLc_exn, kLcT_s, kLcB_ok, kLcE_ok, kLcE_own, r_yes, kLcST_s, kLcSB_ok, kLcS_ok, kLcS_own, r_run, kFin_nx, kFin_ret, kFin_retT, kFin_retO, kFin_exn, r_fn, kFn_ok, kFn_exn, r_fnK, kFnK_ok, kFnK_exn, permC_s, permL_nil, permL_cons, bor_e, borS_n, borS_v, borM_mu, borM_bo, r_appF, kBor_s, clash_n, clash_s, clash_0, kEnd_ok, kEnd_own, kEnd_ownT, kLok_ownT, kEnd_exn0, kLok_ok, kLok_own, back_n, back_s, lock_nil, lock_cons, lockS_mu, lockS_ro, lent_nil, lent_var, lent_int, lent_bl, lent_str, lent_non, lent_lst, lent_tup, lent_scr, lent_dic, safe_non, safe_bl, safe_int, safe_str, safe_tup_, safe_lst_, safeA_nil, safeA_cons, safeI_non, safeI_lst, safeA_ints, contB_e, contS_fz, contS_n, r_isi, kIsi_ok, kIsi_own, kIsi_ownT, kIsi_exn, r_lstR, kLstR_ok, kLstR_exn, lstK1, lstK2, r_ls, kLs_ok, kLs_own, lsS_l, r_par2, kPar2_ok, kPar2_exn, r_par3, kPar3_ok, kPar3_exn, r_par, kPb_ok, kPb_own, kPc_ok, kPc_own, kPd_s, kPe_s, putS_t, putS_f, r_mov, movS_s, r_popAt, kPop_ok, kPop_exn, popAtS_mu, pop_e, safeI_jd, ixL_encN, r_while, kUnrT_s, res_v, eq_v1, ne_v1, eq_v2, ne_v2, res_LI, res_nil, res_non, res_int, res_str, eqR_li, neR_li, eqR_nil, neR_nil, eqR_nilN, neR_nilN, ln_snoc, gt_lst, Rel, SStp, Rel, r_lm, kLm_ok, kLm_own, lmS_l, r_bits, kBits_ok, r_isi2, kIsi2_ok, isa2_lst, isa2_tup, isa2_int, isa2_bl, isa2_non, isa2_str, r_ulk, kUlk_ok, r_setO, kSetO_own, kSetO_non, kSetO_exn, r_parN, PkN_nil, PkN_cons, kPk_ok, kPk_own, PtN_nil, PtN_t, PtN_f, addI_ii, putIx_e, itm_e, itmS_mu, itmS_bo, r_augIx, kAx1_ok, axM_s, kAx3_ok, r_fz, fzO_s, isN_non, isnN_non, isN_tup, isnN_tup, isN_lst, isnN_lst, isN_int, isnN_int, isN_str, isnN_str, isN_bl, isnN_bl, isB, isnB, sortP_l, r_sl3, kS30_ok, kS30_own, kS3a_no, kS3a_at, kS3b_no, kS3b_at, kS3c_no, kS3c_at, s3d_i, r_dic0, r_excV, top_exc, lent_exc, isi_int_exc, isi_bool_exc, isi_str_exc, isi_list_exc, isi_tuple_exc, isi_dict_exc, r_tupB, kTupB_own, tbS_fz, r_asgT, kAsgT_T, kAsgT_ok, e_c, e_v, e_vc, ofF_fz, ofS_fz, ofS_cl, e_nil, noP_e, s_nx, s_bk, s_ct, s_retN, retC_e, retS_mu, toB_bl, truB_bl, add_ii, sub_ii, neg_i, lt_ii, le_ii, gt_ii, ge_ii, mul_ii, fdiv_ii, mod_ii, pow_ii, abs_m, int_i, max_m, min_m, len_l, len_s, sum_l, all_l, ix_var, ix_lst, ix_tup, ix_scr, ixL0, ixL1, ixL2, nc_get, nc_fz, nc_none, nc_map, fr_get, fr_none, fr_fz, fr_mu, fr_ro, isL_get, isL_cl, co_cl, top_v, set_bo0, set_bo1, set_bo2, appS_mu, appS_bo, cont_cl, cont_no, pars_0, pars9_0, pars9_1, pars9_2, pars9_3, pars9_4, pars9_5, pars9_6, pars9_7, pars9_8, list_li, repr_v, reprX_li, repr_li, repr_int, neq_li, neq_sh, neq_shI, eq_li, eq_ii, ne_ii, gt_tup, gt_cons, gtB_s, gt_nil, gt_name, optO_s, rest_nil, rest_cons, wipe_nil, wipe_cons, lstK3, isi_int_non, isi_int_bl, isi_int_int, isi_int_str, isi_int_lst, isi_int_tup, isi_int_dic, isi_int_scr, isi_bool_non, isi_bool_bl, isi_bool_int, isi_bool_str, isi_bool_lst, isi_bool_tup, isi_bool_dic, isi_bool_scr, isi_str_non, isi_str_bl, isi_str_int, isi_str_str, isi_str_lst, isi_str_tup, isi_str_dic, isi_str_scr, isi_list_non, isi_list_bl, isi_list_int, isi_list_str, isi_list_lst, isi_list_tup, isi_list_dic, isi_list_scr, isi_tuple_non, isi_tuple_bl, isi_tuple_int, isi_tuple_str, isi_tuple_lst, isi_tuple_tup, isi_tuple_dic, isi_tuple_scr, isi_dict_non, isi_dict_bl, isi_dict_int, isi_dict_str, isi_dict_lst, isi_dict_tup, isi_dict_dic, isi_dict_scr, rng_len, List.replicate, List.map_cons, List.map_nil, List.length_cons, List.length_nil, List.length_map, List.length_range, List.length_append, List.getElem?_cons_zero, List.getElem?_cons_succ, List.getElem?_nil, List.getD_cons_zero, List.getD_cons_succ, List.set_cons_zero, List.set_cons_succ, List.set_nil, List.cons_append, List.nil_append, List.append_nil, List.all_cons, List.all_nil, List.isEmpty_cons, List.isEmpty_nil, List.contains_nil, Nat.reduceAdd, Nat.reduceSub, Nat.reduceLeDiff, Nat.reduceEqDiff, Nat.reduceLT, Bool.false_eq_true, reduceIte, decide_true, decide_false, if_true, if_false, Bool.not_true, Bool.not_false, Bool.and_true, Bool.true_and, Bool.and_false, Bool.false_and, Bool.or_true, Bool.true_or, Bool.or_false, Bool.false_or, Bool.and_self, and_self, true_and, and_true, decide_eq_true_eq, Bool.not_eq_true', decide_eq_false_iff_not, Bool.not_eq_eq_eq_not, Bool.not_not, Bool.and_eq_true, Bool.or_eq_true, bne_iff_ne, ne_eq, Option.map_some, Option.map_none, frS_Fs, if_pos, if_neg, decide_eq_true, decide_eq_false, not_false_eq_true, not_true_eq_false, Int.toNat_natCast, Int.reduceToNat, Int.toNat_add, toNat_subL, Int.toNat_emod, Int.toNat_one, Nat.reduceMul, Int.reduceNeg, $ts,*])
  | `(tactic| simp_arith only []) => `(tactic| (simp (disch := assumption) only [List.cons.injEq, exists_and_left, exists_and_right, ex_fz, ex_map, ex_no, ex_sl, ex_mu, ex_ro, ex_nn, ex_cf, ex_P2, ex_P3, ex_mu2, ex_mu3, ex_ro2, ex_ro3, ex_cf2, ex_cf3, ex_nn2, ex_nn3, and_self, and_true, true_and, Option.map_some, Option.map_none]) <;> rfl)
  | `(tactic| simp_arith!) => `(tactic| first | rfl | (simp only [LI, List.range_succ, List.map_append, List.map_cons, List.map_nil, Option.map_some, Option.map_none, List.append_assoc]; done) | (simp only [LI, List.range_succ, List.map_append, List.map_cons, List.map_nil, Option.map_some, Option.map_none, List.append_assoc]; rfl))
section
variable {Q : RF → Prop} {x w l : List Int} {n k g N f : Nat} {b : Bg}
theorem plain_law_k41 (ns : List Int) (hns : ns.length ≤ 63) : ∃ c, f_law_k41 [.scr ns] = .ok (.bl true) c := by
  suffices h : RnF (fun r => ∃ c, r = .ok (.bl true) c) (f_law_k41 [.scr ns]) from h
  unfold f_law_k41 g_law_k41
  rw [r_run]
  simp_arith []
  refine bag ns hns fun b h => ?_
  simp_arith []
  refine for_r0 (fun t δ => ∃ b, Bag (t * 10000) b ∧ ∃ s_told : Option SV, Fs s_told ∧ ∃ o_turn o_due o_many o_days_here o_k o_most o_before o_line o_kept o_number : Option D, δ = [some (.fz (.scr ns)), some (.cl .mu (bg b)), (o_turn).map .fz, s_told, (o_due).map .fz, (o_many).map .fz, (o_days_here).map .fz, (o_k).map .fz, (o_most).map .fz, (o_before).map .fz, (o_line).map .fz, (o_kept).map .fz, (o_number).map .fz]) ⟨b, h.mono (by omega), by simp_arith only []⟩ ?_ ?_
  · rintro t δ ht ⟨b, h, s_told, f_told, o_turn, o_due, o_many, o_days_here, o_k, o_most, o_before, o_line, o_kept, o_number, rfl⟩
    simp_arith []
    refine draw h (by omega) (by omega) fun r1 b r10 r11 h => ?_
    simp_arith []
    refine draw h (by omega) (by omega) fun r2 b r20 r21 h => ?_
    simp_arith []
    refine draw h (by omega) (by omega) fun r3 b r30 r31 h => ?_
    obtain ⟨many, hm, hm1, hm2⟩ : ∃ many : Nat, (∀ δ, ixD δ (.lst [.int (1 + r1), .int (1 + r2)]) (.int r3) = .ok (.int many) δ) ∧ 1 ≤ many ∧ many ≤ 60 := by
      have : r3 = 0 ∨ r3 = 1 := by omega
      rcases this with rfl | rfl
      · exact ⟨(1 + r1).toNat, fun δ => by rw [show (((1 + r1).toNat : Nat) : Int) = 1 + r1 by omega]; kernel_rfl, by omega, by omega⟩
      · exact ⟨(1 + r2).toNat, fun δ => by rw [show (((1 + r2).toNat : Nat) : Int) = 1 + r2 by omega]; kernel_rfl, by omega, by omega⟩
    simp_arith [hm]
    refine draw h (by omega) (by omega) fun r4 b r40 r41 h => ?_
    obtain ⟨k, hk, k1, k2, k3⟩ : ∃ k : Nat, 1 + r4 = (k : Int) ∧ 1 ≤ k ∧ k ≤ 8 ∧ k ≤ many := ⟨(1 + r4).toNat, by omega, by omega, by omega, by omega⟩
    simp_arith [hk]
    refine draw h (by omega) (by omega) fun r5 b r50 r51 h => ?_
    have t28 : (28 : Int).toNat = 28 := rfl
    obtain ⟨most, ho, ho1, ho2⟩ : ∃ most : Int, (∀ δ, ixL (.lst [.int 3, .int 99, .int (10 ^ 28)]) r5 δ = .ok (.int most) δ) ∧ 0 ≤ most ∧ most ≤ 10 ^ 28 := by
      have : r5 = 0 ∨ r5 = 1 ∨ r5 = 2 := by omega
      rcases this with rfl | rfl | rfl
      · exact ⟨3, fun δ => by kernel_rfl, by omega, by omega⟩
      · exact ⟨99, fun δ => by kernel_rfl, by omega, by omega⟩
      · exact ⟨10 ^ 28, fun δ => by kernel_rfl, by omega, by omega⟩
    simp_arith [t28]
    simp_arith [ho]
    refine days_k41 h (by omega) (by omega) (by omega) fun ns0 b hl hb h => ?_
    have hl : ns0.length = many := by omega
    simp_arith []
    refine lc_stM (enc := D.int) (enc2 := D.int) (fun i δ => ∃ b, Bag (t * 10000 + 6100 + 5 * i) b ∧ ∃ s_told : Option SV, Fs s_told ∧ ∃ o_turn o_due o_days_here o_before o_line o_kept o_number : Option D, δ = [some (.fz (.scr ns)), some (.cl .mu (bg b)), (o_turn).map .fz, s_told, (o_due).map .fz, some (.fz (.int (many))), (o_days_here).map .fz, some (.fz (.int (k))), some (.fz (.int (most))), (o_before).map .fz, (o_line).map .fz, (o_kept).map .fz, (o_number).map .fz]) (fun _ _ => True) ?_ ?_ ?_
    · simp_arith []
      exact ⟨b, h.mono (by omega), by simp_arith only []⟩
    · rintro i δ hi ⟨b, h, s_told, f_told, o_turn, o_due, o_days_here, o_before, o_line, o_kept, o_number, rfl⟩
      simp_arith []
      refine draw h (by omega) (by omega) fun r6 b r60 r61 h => ?_
      simp_arith []
      exact ⟨⟨_, rfl⟩, b, h.mono (by omega), by simp_arith only []⟩
    rintro x δ' ⟨b, h, s_told, f_told, o_turn, o_due, o_days_here, o_before, o_line, o_kept, o_number, rfl⟩ hl2 _
    obtain rfl : many = x.length := by omega
    have R := rnt (n := x.length) (k := k) (by omega) k1 k2 k3
    have eL := law_ring_l (x := x) (k := k) k1 k2 k3 (by omega)
    have eS := ring_sums_l (x := x) (k := k) k1 k2 k3 (by omega)
    have eG := law_shared_l (a := x.length) (b := k) (by omega)
    have gk : Nat.gcd x.length k ≤ k := Nat.le_of_dvd (by omega) R.dk
    have eT := law_told_l (x := x) R.g1 (by omega) (by omega)
    have eR := ring_line_l R k1 k2 k3 (by omega)
    have wl := rings_len (x := x) (k := k)
    have yl := wins_len (x := x) (k := Nat.gcd x.length k)
    have eA1 : f_law_alike [LI (rings x k), LI (rings x k)] = .ok (.bl true) .non := alike_LI (n := 18) (by omega)
    have eA2 : f_law_alike [LI (wins x (Nat.gcd x.length k)), LI (wins x (Nat.gcd x.length k))] = .ok (.bl true) .non := alike_LI (n := 18) (by omega)
    generalize rings x k = w at eL eS eR wl eA1
    generalize wins x (Nat.gcd x.length k) = y at eT eR yl eA2
    generalize Nat.gcd x.length k = g at eG eT gk yl
    simp_arith []
    simp_arith [eL]
    simp_arith [eS]
    simp_arith [eA1]
    simp_arith [eS]
    simp_arith [eG]
    simp_arith [eT]
    simp_arith [eR]
    simp_arith [eA2]
    simp_arith [eR]
    exact ⟨b, h.mono (by omega), by simp_arith only []⟩
  · rintro δ ⟨b, h, s_told, f_told, o_turn, o_due, o_many, o_days_here, o_k, o_most, o_before, o_line, o_kept, o_number, rfl⟩
    have c1 : ∀ δ, c_law_k41_1 δ = .own (.lst [LI [3, 5, 7], LI [1, 2, 3, 4, 5], LI [3, 5, 7, 9, 6]]) δ := fun δ => by kernel_rfl
    have c3 : ∀ δ, c_law_k41_3 δ = .ok (.bl true) δ := fun δ => by kernel_rfl
    have t30 : (30 : Int).toNat = 30 := rfl
    have e1 : f_ring_line [.lst [.int 7], .int 1] = .own (LI [7]) .non := by kernel_rfl
    have e2 : f_ring_line [.lst [.int 4, .int 4, .int 4], .int 3] = .own (LI [4]) .non := by kernel_rfl
    obtain ⟨T, S, hT, e3, e4, eA⟩ : ∃ T S : Int, (10 : Int) ^ 30 - 1 = T ∧ f_ring_sums [.lst [.int T, .int T, .int T, .int T, .int T, .int T, .int T, .int T], .int 7] = .own (.lst [.int S, .int S, .int S, .int S, .int S, .int S, .int S, .int S]) .non ∧ f_ring_line [.lst [.int S, .int S, .int S, .int S, .int S, .int S, .int S, .int S], .int 7] = .own (.lst [.int T, .int T, .int T, .int T, .int T, .int T, .int T, .int T]) .non ∧ f_law_alike [.lst [LI [3, 5, 7], LI [1, 2, 3, 4, 5], LI [3, 5, 7, 9, 6], LI [7], LI [4], .lst [.int T, .int T, .int T, .int T, .int T, .int T, .int T, .int T]], .lst [.lst [.int 3, .int 5, .int 7], .lst [.int 1, .int 2, .int 3, .int 4, .int 5], .lst [.int 3, .int 5, .int 7, .int 9, .int 6], .lst [.int 7], .lst [.int 4], .lst [.int T, .int T, .int T, .int T, .int T, .int T, .int T, .int T]]] = .ok (.bl true) .non := ⟨999999999999999999999999999999, 6999999999999999999999999999993, by decide, by kernel_rfl, by kernel_rfl, by kernel_rfl⟩
    simp_arith [c1]
    unfold c_law_k41_2
    simp_arith [e1]
    simp_arith [e2]
    simp_arith [hT]
    simp_arith [e3]
    simp_arith [e4]
    rw [hT]
    simp_arith [eA]
    simp_arith [c3]
    exact ⟨_, rfl⟩
end
end G

namespace G
open PySem PySem.Spec PyProof.Rows L2 DL
def tpS (i : Nat) : Stmt := PySem.Challenge.pw_weeksums_k41_rings_in_a_row.main.body.getD i (.Pass ⟨0, 0, 0, 0⟩)
def d8 : He.DefD := ⟨("is_integer", none), "is_integer", "is_integer", defArgs (tpS 8), defBody (tpS 8), defScope (tpS 8), [], []⟩
def d9 : He.DefD := ⟨("are_integers", none), "are_integers", "are_integers", defArgs (tpS 9), defBody (tpS 9), defScope (tpS 9), [], []⟩
def d12 : He.DefD := ⟨("need_ring_length", none), "need_ring_length", "need_ring_length", defArgs (tpS 12), defBody (tpS 12), defScope (tpS 12), [], []⟩
def d13 : He.DefD := ⟨("is_ring_list", none), "is_ring_list", "is_ring_list", defArgs (tpS 13), defBody (tpS 13), defScope (tpS 13), [], []⟩
def d14 : He.DefD := ⟨("need_ring", none), "need_ring", "need_ring", defArgs (tpS 14), defBody (tpS 14), defScope (tpS 14), [], []⟩
def d15 : He.DefD := ⟨("ring_sums", none), "ring_sums", "ring_sums", defArgs (tpS 15), defBody (tpS 15), defScope (tpS 15), [], []⟩
def d16 : He.DefD := ⟨("ring_class", none), "ring_class", "ring_class", defArgs (tpS 16), defBody (tpS 16), defScope (tpS 16), [], []⟩
def d17 : He.DefD := ⟨("class_steps", none), "class_steps", "class_steps", defArgs (tpS 17), defBody (tpS 17), defScope (tpS 17), [], []⟩
def d18 : He.DefD := ⟨("ring_share", none), "ring_share", "ring_share", defArgs (tpS 18), defBody (tpS 18), defScope (tpS 18), [], []⟩
def d19 : He.DefD := ⟨("ring_story", none), "ring_story", "ring_story", defArgs (tpS 19), defBody (tpS 19), defScope (tpS 19), [], []⟩
def d20 : He.DefD := ⟨("ring_line", none), "ring_line", "ring_line", defArgs (tpS 20), defBody (tpS 20), defScope (tpS 20), [], []⟩
def d22 : He.DefD := ⟨("_law_bag", none), "_law_bag", "_law_bag", defArgs (tpS 22), defBody (tpS 22), defScope (tpS 22), [], []⟩
def d23 : He.DefD := ⟨("_law_stirred", none), "_law_stirred", "_law_stirred", defArgs (tpS 23), defBody (tpS 23), defScope (tpS 23), [], []⟩
def d24 : He.DefD := ⟨("_law_draw", none), "_law_draw", "_law_draw", defArgs (tpS 24), defBody (tpS 24), defScope (tpS 24), [], []⟩
def d25 : He.DefD := ⟨("_law_alike", none), "_law_alike", "_law_alike", defArgs (tpS 25), defBody (tpS 25), defScope (tpS 25), [], []⟩
def d26 : He.DefD := ⟨("_law_told", none), "_law_told", "_law_told", defArgs (tpS 26), defBody (tpS 26), defScope (tpS 26), [], []⟩
def d27 : He.DefD := ⟨("_law_days", none), "_law_days", "_law_days", defArgs (tpS 27), defBody (tpS 27), defScope (tpS 27), [], []⟩
def d28 : He.DefD := ⟨("_law_shared", none), "_law_shared", "_law_shared", defArgs (tpS 28), defBody (tpS 28), defScope (tpS 28), [], []⟩
def d29 : He.DefD := ⟨("_law_ways", none), "_law_ways", "_law_ways", defArgs (tpS 29), defBody (tpS 29), defScope (tpS 29), [], []⟩
def d30 : He.DefD := ⟨("_law_ring", none), "_law_ring", "_law_ring", defArgs (tpS 30), defBody (tpS 30), defScope (tpS 30), [], []⟩
def d31 : He.DefD := ⟨("_law_open", none), "_law_open", "_law_open", defArgs (tpS 31), defBody (tpS 31), defScope (tpS 31), [], []⟩
def d32 : He.DefD := ⟨("law", none), "law", "law", defArgs (tpS 32), defBody (tpS 32), defScope (tpS 32), [], []⟩
def fn : List He.DefD := [d8, d9, d12, d13, d14, d15, d16, d17, d18, d19, d20, d22, d23, d24, d25, d26, d27, d28, d29, d30, d31, d32]
def fa : List He.Fa := [.glo "is_integer", .glo "are_integers", .glo "need_ring_length", .glo "is_ring_list", .glo "need_ring", .glo "ring_sums", .glo "ring_class", .glo "class_steps", .glo "ring_share", .glo "ring_story", .glo "ring_line", .glo "_law_bag", .glo "_law_stirred", .glo "_law_draw", .glo "_law_alike", .glo "_law_told", .glo "_law_days", .glo "_law_shared", .glo "_law_ways", .glo "_law_ring", .glo "_law_open", .glo "law", .free "abs", .free "all", .free "bool", .free "int", .free "isinstance", .free "len", .free "list", .free "max", .free "min", .free "range", .free "str", .free "sum", .free "tuple", .free "zip", .int "MOST_LENGTH" 8, .int "MOST_RING" 60]
/-- what the head tells -/
structure Cl (K : PySem.W.Frag) (mg : Str → Option Value) : Prop where
  says : He.SaysD fa fn K
  at_is_integer : mg "is_integer" = some (.ref (He.ga K "is_integer"))
  at_are_integers : mg "are_integers" = some (.ref (He.ga K "are_integers"))
  at_need_ring_length : mg "need_ring_length" = some (.ref (He.ga K "need_ring_length"))
  at_is_ring_list : mg "is_ring_list" = some (.ref (He.ga K "is_ring_list"))
  at_need_ring : mg "need_ring" = some (.ref (He.ga K "need_ring"))
  at_ring_sums : mg "ring_sums" = some (.ref (He.ga K "ring_sums"))
  at_ring_class : mg "ring_class" = some (.ref (He.ga K "ring_class"))
  at_class_steps : mg "class_steps" = some (.ref (He.ga K "class_steps"))
  at_ring_share : mg "ring_share" = some (.ref (He.ga K "ring_share"))
  at_ring_story : mg "ring_story" = some (.ref (He.ga K "ring_story"))
  at_ring_line : mg "ring_line" = some (.ref (He.ga K "ring_line"))
  at_law_bag : mg "_law_bag" = some (.ref (He.ga K "_law_bag"))
  at_law_stirred : mg "_law_stirred" = some (.ref (He.ga K "_law_stirred"))
  at_law_draw : mg "_law_draw" = some (.ref (He.ga K "_law_draw"))
  at_law_alike : mg "_law_alike" = some (.ref (He.ga K "_law_alike"))
  at_law_told : mg "_law_told" = some (.ref (He.ga K "_law_told"))
  at_law_days_k41 : mg "_law_days" = some (.ref (He.ga K "_law_days"))
  at_law_shared : mg "_law_shared" = some (.ref (He.ga K "_law_shared"))
  at_law_ways_k41 : mg "_law_ways" = some (.ref (He.ga K "_law_ways"))
  at_law_ring : mg "_law_ring" = some (.ref (He.ga K "_law_ring"))
  at_law_open : mg "_law_open" = some (.ref (He.ga K "_law_open"))
  at_law_k41 : mg "law" = some (.ref (He.ga K "law"))
  fr_abs : mg "abs" = none
  fr_all : mg "all" = none
  fr_bool : mg "bool" = none
  fr_int : mg "int" = none
  fr_isinstance : mg "isinstance" = none
  fr_len : mg "len" = none
  fr_list : mg "list" = none
  fr_max : mg "max" = none
  fr_min : mg "min" = none
  fr_range : mg "range" = none
  fr_str : mg "str" = none
  fr_sum : mg "sum" = none
  fr_tuple : mg "tuple" = none
  fr_zip : mg "zip" = none
  gi_MOST_LENGTH : ∃ t, mg "MOST_LENGTH" = some (.int 8 t)
  gi_MOST_RING : ∃ t, mg "MOST_RING" = some (.int 60 t)
section
variable [KL] {P : Program} {w : World} {K : PySem.W.Frag} [kl : KLOk K] {mg : Str → Option Value} {base : Heap}
theorem sc_is_integer : FnScope ["thing"] ["thing"] (defScope (tpS 8)) := ⟨rfl, rfl, rfl, by decide +kernel, rfl, by decide +kernel, by decide +kernel⟩
theorem fn_is_integer (C : Cl K mg) : ∃ f fd, Def P w K mg base 1 "is_integer" ["thing"] 99 f_is_integer f fd := by
  obtain ⟨fd, F⟩ := C.says.def_ 0 (d := d8) rfl
  have bd := FunD.bindsA (ps := ["thing"]) F fun _ _ _ _ _ _ us hl => (by obtain ⟨_, us0, rfl, hl0⟩ := len_succ_ (n := 0) hl; obtain rfl := List.length_eq_zero_iff.mp hl0; rfl)
  have nd := (sc_is_integer).nd
  have ok : FnG P w K mg base 1 _ fd ["thing"] 99 f_is_integer := fnG_of F sc_is_integer fun cd A outer s H E hr => ⟨_, (dss_one (ds_ret (de_and (e_isi kl (T := .int) rfl C.fr_isinstance rfl C.fr_int (by decide +kernel) (de_var (i := 0))) (de_one (de_not (e_isi kl (T := .bool) rfl C.fr_isinstance rfl C.fr_bool (by decide +kernel) (de_var (i := 0))))))))⟩
  exact ⟨_, fd, C.at_is_integer, F.kp, bd, ok⟩
theorem sc_need_ring_length : FnScope ["length", "count"] ["length", "count"] (defScope (tpS 12)) := ⟨rfl, rfl, rfl, by decide +kernel, rfl, by decide +kernel, by decide +kernel⟩
theorem fn_need_ring_length (C : Cl K mg) : ∃ f fd, Def P w K mg base 1 "need_ring_length" ["length", "count"] 99 f_need_ring_length f fd := by
  obtain ⟨_, g_MOST_LENGTH⟩ := C.gi_MOST_LENGTH
  obtain ⟨fd, F⟩ := C.says.def_ 2 (d := d12) rfl
  have bd := FunD.bindsA (ps := ["length", "count"]) F fun _ _ _ _ _ _ us hl => (by obtain ⟨_, us0, rfl, hl0⟩ := len_succ_ (n := 1) hl; obtain ⟨_, us1, rfl, hl1⟩ := len_succ_ (n := 0) hl0; obtain rfl := List.length_eq_zero_iff.mp hl1; rfl)
  have nd := (sc_need_ring_length).nd
  have ok : FnG P w K mg base 1 _ fd ["length", "count"] 99 f_need_ring_length := fnG_of F sc_need_ring_length fun cd A outer s H E hr => ⟨_, (dss_one (ds_if (dt_not (dt_chain op_le op_le leD_ok leD_ok de_int (de_var (i := 0)) (de_callB (r := _) (call_min2 rfl) min2D_ok rfl C.fr_min (by decide +kernel) (da_cons (de_globI rfl g_MOST_LENGTH) (da_cons (de_var (i := 1)) da_nil)))))
    (dss_one ds_never)
    dss_nil))⟩
  exact ⟨_, fd, C.at_need_ring_length, F.kp, bd, ok⟩
theorem sc_ring_class : FnScope ["count", "length", "first", "found"] ["count", "length", "first"] (defScope (tpS 16)) := ⟨rfl, rfl, rfl, by decide +kernel, rfl, by decide +kernel, by decide +kernel⟩
theorem fn_ring_class (C : Cl K mg) : ∃ f fd, Def P w K mg base 1 "ring_class" ["count", "length", "first"] 99 f_ring_class f fd := by
  obtain ⟨fd, F⟩ := C.says.def_ 6 (d := d16) rfl
  have bd := FunD.bindsA (ps := ["count", "length", "first"]) F fun _ _ _ _ _ _ us hl => (by obtain ⟨_, us0, rfl, hl0⟩ := len_succ_ (n := 2) hl; obtain ⟨_, us1, rfl, hl1⟩ := len_succ_ (n := 1) hl0; obtain ⟨_, us2, rfl, hl2⟩ := len_succ_ (n := 0) hl1; obtain rfl := List.length_eq_zero_iff.mp hl2; rfl)
  have nd := (sc_ring_class).nd
  have ok : FnG P w K mg base 1 _ fd ["count", "length", "first"] 99 f_ring_class := fnG_of F sc_ring_class fun cd A outer s H E hr => ⟨_, (dss_cons (ds_setC rfl (i := 3) nd rfl (.inl rfl) (de_lst (da_cons (de_var (i := 2)) (da_cons (de_op op_mod modD_ok (de_op op_addD addD_ok (de_var (i := 2)) (de_var (i := 1))) (de_var (i := 0))) da_nil))))
    (dss_cons (ds_while po_of (dt_cmp (r := rNeD K) (op_neD (room_eq hr)) neD_ok (e_ix kl (de_vc (i := 3)) (de_un un_neg negD_ok de_int)) (de_var (i := 2)) rfl)
    (dss_one (ds_expr (k_append (K := K) (i := 3) rfl p_var (de_op op_mod modD_ok (de_op op_addD addD_ok (e_ix kl (de_vc (i := 3)) (de_un un_neg negD_ok de_int)) (de_var (i := 1))) (de_var (i := 0)))))))
    (dss_one (ds_retC (i := 3) rfl p_var))))⟩
  exact ⟨_, fd, C.at_ring_class, F.kp, bd, ok⟩
theorem sc_class_steps : FnScope ["sums", "days", "found", "day"] ["sums", "days"] (defScope (tpS 17)) := ⟨rfl, rfl, rfl, by decide +kernel, rfl, by decide +kernel, by decide +kernel⟩
theorem fn_class_steps (C : Cl K mg) : ∃ f fd, Def P w K mg base 1 "class_steps" ["sums", "days"] 99 f_class_steps f fd := by
  obtain ⟨fd, F⟩ := C.says.def_ 7 (d := d17) rfl
  have bd := FunD.bindsA (ps := ["sums", "days"]) F fun _ _ _ _ _ _ us hl => (by obtain ⟨_, us0, rfl, hl0⟩ := len_succ_ (n := 1) hl; obtain ⟨_, us1, rfl, hl1⟩ := len_succ_ (n := 0) hl0; obtain rfl := List.length_eq_zero_iff.mp hl1; rfl)
  have nd := (sc_class_steps).nd
  have ok : FnG P w K mg base 1 _ fd ["sums", "days"] 99 f_class_steps := fnG_of F sc_class_steps fun cd A outer s H E hr => ⟨_, (dss_cons (ds_setC rfl (i := 2) nd rfl (.inl rfl) (de_lst (da_cons de_int da_nil)))
    (dss_cons (ds_for po_of rfl (i_seq (K := K) (e_sl kl (de_var (i := 1)) do_none (do_some (de_un un_neg negD_ok de_int)))) (dg_name (i := 3) nd rfl (.inl rfl))
    (dss_one (ds_expr (k_append (K := K) (i := 2) rfl p_var (de_op op_sub subD_ok (de_op op_addD addD_ok (e_ix kl (de_vc (i := 2)) (de_un un_neg negD_ok de_int)) (e_ix kl (de_var (i := 0)) (de_op op_mod modD_ok (de_op op_addD addD_ok (de_var (i := 3)) de_int) (de_callB (r := rLenD K) DL.call_lenD (lenD_okk kl) rfl C.fr_len (by decide +kernel) (da_cons (de_var (i := 0)) da_nil))))) (e_ix kl (de_var (i := 0)) (de_var (i := 3))))))))
    (dss_one (ds_retC (i := 2) rfl p_var))))⟩
  exact ⟨_, fd, C.at_class_steps, F.kp, bd, ok⟩
theorem sc_law_bag : FnScope ["script", "stir", "cell"] ["script"] (defScope (tpS 22)) := ⟨rfl, rfl, rfl, by decide +kernel, rfl, by decide +kernel, by decide +kernel⟩
theorem fn_law_bag (C : Cl K mg) : ∃ f fd, Def P w K mg base 1 "_law_bag" ["script"] 99 f_law_bag f fd := by
  obtain ⟨fd, F⟩ := C.says.def_ 11 (d := d22) rfl
  have bd := FunD.bindsA (ps := ["script"]) F fun _ _ _ _ _ _ us hl => (by obtain ⟨_, us0, rfl, hl0⟩ := len_succ_ (n := 0) hl; obtain rfl := List.length_eq_zero_iff.mp hl0; rfl)
  have nd := (sc_law_bag).nd
  have ok : FnG P w K mg base 1 _ fd ["script"] 99 f_law_bag := fnG_of F sc_law_bag fun cd A outer s H E hr => ⟨_, (dss_cons (ds_set (i := 1) nd rfl (.inl rfl) de_int)
    (dss_cons (ds_for po_of rfl (i_seq (K := K) (e_sl kl (de_var (i := 0)) do_none (do_some de_int))) (dg_name (i := 2) nd rfl (.inl rfl))
    (dss_one (ds_set (i := 1) nd rfl (.inl rfl) (de_op op_mod modD_ok (de_callTy (r := _) call_int1 intD_ok rfl C.fr_int (by decide +kernel) (da_cons (de_op op_addD addD_ok (de_op op_addD addD_ok (de_op op_mulD mulD_ok (de_var (i := 1)) de_int) (de_op op_mod modD_ok (de_callTy (r := _) call_int1 intD_ok rfl C.fr_int (by decide +kernel) (da_cons (de_var (i := 2)) da_nil)) de_int)) de_int) da_nil)) de_int))))
    (dss_one (ds_ret (de_lst (da_cons (de_lc (own := [("cell", 2)]) rfl nd (i_seq (K := K) (e_sl kl (de_var (i := 0)) do_none (do_some de_int))) (by show blkC ["script", "stir", "cell"] (defScope (tpS 22)) _ _ = true; decide +kernel) ⟨fun _ _ _ _ _ => (dg_name (i := 2) nd rfl (.inl rfl)), (gw_name (by decide)), fun _ _ _ _ _ => ⟨pts_nil, evb_yes⟩, fun _ _ _ _ _ => (by exact (de_op op_mod modD_ok (de_callTy (r := _) call_int1 intD_ok rfl C.fr_int (by decide +kernel) (da_cons (de_callB (r := _) call_abs absD_ok rfl C.fr_abs (by decide +kernel) (da_cons (de_var (i := 2)) da_nil)) da_nil)) (de_op op_powW powD_ok (de_op op_powW powD_ok de_int de_int) de_int)))⟩) (da_cons de_int (da_cons de_int (da_cons (de_var (i := 1)) (da_cons de_int da_nil))))))))))⟩
  exact ⟨_, fd, C.at_law_bag, F.kp, bd, ok⟩
theorem sc_law_stirred : FnScope ["bag", "wide", "found", "k", "mixed"] ["bag", "wide"] (defScope (tpS 23)) := ⟨rfl, rfl, rfl, by decide +kernel, rfl, by decide +kernel, by decide +kernel⟩
theorem fn_law_stirred (C : Cl K mg) : ∃ f fd, Def P w K mg base 1 "_law_stirred" ["bag", "wide"] 0 f_law_stirred f fd := by
  obtain ⟨fd, F⟩ := C.says.def_ 12 (d := d23) rfl
  have bd := FunD.bindsA (ps := ["bag", "wide"]) F fun _ _ _ _ _ _ us hl => (by obtain ⟨_, us0, rfl, hl0⟩ := len_succ_ (n := 1) hl; obtain ⟨_, us1, rfl, hl1⟩ := len_succ_ (n := 0) hl0; obtain rfl := List.length_eq_zero_iff.mp hl1; rfl)
  have nd := (sc_law_stirred).nd
  have ok : FnG P w K mg base 1 _ fd ["bag", "wide"] 0 f_law_stirred := fnG_of F sc_law_stirred fun cd A outer s H E hr => ⟨_, (dss_cons (ds_set (i := 2) nd rfl (.inl rfl) de_int)
    (dss_cons (ds_for po_of rfl (di_rng1 rfl C.fr_range (da_cons (de_op op_addD addD_ok de_int (de_op op_fdivW fdivD_ok (e_bits (de_var (i := 1))) de_int)) da_nil)) (dg_name (i := 3) nd rfl (.inl rfl))
    (dss_cons (ds_setIx (i := 0) rfl p_var de_int (de_op op_addD addD_ok (e_ix kl (de_vc (i := 0)) de_int) de_int))
    (dss_cons (ds_set (i := 4) nd rfl (.inl rfl) (de_op op_addD addD_ok (de_op op_addD addD_ok (de_op op_addD addD_ok (de_op op_powW powD_ok (e_ix kl (de_vc (i := 0)) de_int) de_int) (de_op op_mulD mulD_ok de_int (e_ix kl (de_vc (i := 0)) de_int))) (de_op op_mulD mulD_ok de_int (e_ix kl (de_vc (i := 0)) de_int))) de_int))
    (dss_cons (ds_setIx (i := 0) rfl p_var de_int (de_op op_mod modD_ok (de_callTy (r := _) call_int1 intD_ok rfl C.fr_int (by decide +kernel) (da_cons (de_var (i := 4)) da_nil)) de_int))
    (dss_one (ds_set (i := 2) nd rfl (.inl rfl) (de_op op_addD addD_ok (de_op op_mulD mulD_ok (de_var (i := 2)) de_int) (de_op op_fdivW fdivD_ok (e_ix kl (de_vc (i := 0)) de_int) de_int))))))))
    (dss_one (ds_ret (de_op op_mod modD_ok (de_callTy (r := _) call_int1 intD_ok rfl C.fr_int (by decide +kernel) (da_cons (de_var (i := 2)) da_nil)) (de_var (i := 1)))))))⟩
  exact ⟨_, fd, C.at_law_stirred, F.kp, bd, ok⟩
theorem sc_law_told : FnScope ["row_here", "k", "j"] ["row_here", "k"] (defScope (tpS 26)) := ⟨rfl, rfl, rfl, by decide +kernel, rfl, by decide +kernel, by decide +kernel⟩
theorem fn_law_told (C : Cl K mg) : ∃ f fd, Def P w K mg base 1 "_law_told" ["row_here", "k"] 99 f_law_told f fd := by
  obtain ⟨fd, F⟩ := C.says.def_ 15 (d := d26) rfl
  have bd := FunD.bindsA (ps := ["row_here", "k"]) F fun _ _ _ _ _ _ us hl => (by obtain ⟨_, us0, rfl, hl0⟩ := len_succ_ (n := 1) hl; obtain ⟨_, us1, rfl, hl1⟩ := len_succ_ (n := 0) hl0; obtain rfl := List.length_eq_zero_iff.mp hl1; rfl)
  have nd := (sc_law_told).nd
  have ok : FnG P w K mg base 1 _ fd ["row_here", "k"] 99 f_law_told := fnG_of F sc_law_told fun cd A outer s H E hr => ⟨_, (dss_one (ds_ret (de_lc (own := [("j", 2)]) rfl nd (di_rng1 rfl C.fr_range (da_cons (de_op op_addD addD_ok (de_op op_sub subD_ok (de_callB (r := rLenD K) DL.call_lenD (lenD_okk kl) rfl C.fr_len (by decide +kernel) (da_cons (de_var (i := 0)) da_nil)) (de_var (i := 1))) de_int) da_nil)) (by show blkC ["row_here", "k", "j"] (defScope (tpS 26)) _ _ = true; decide +kernel) ⟨fun _ _ _ _ _ => (dg_name (i := 2) nd rfl (.inl rfl)), (gw_name (by decide)), fun _ _ _ _ _ => ⟨pts_nil, evb_yes⟩, fun _ _ _ _ _ => (by exact (de_callB (r := rSum K) (cr_sum rfl) sumD_ok rfl C.fr_sum (by decide +kernel) (da_cons (e_sl kl (de_var (i := 0)) (do_some (de_var (i := 2))) (do_some (de_op op_addD addD_ok (de_var (i := 2)) (de_var (i := 1))))) da_nil)))⟩)))⟩
  exact ⟨_, fd, C.at_law_told, F.kp, bd, ok⟩
theorem sc_law_shared : FnScope ["one", "two"] ["one", "two"] (defScope (tpS 28)) := ⟨rfl, rfl, rfl, by decide +kernel, rfl, by decide +kernel, by decide +kernel⟩
theorem fn_law_shared (C : Cl K mg) : ∃ f fd, Def P w K mg base 1 "_law_shared" ["one", "two"] 99 f_law_shared f fd := by
  obtain ⟨fd, F⟩ := C.says.def_ 17 (d := d28) rfl
  have bd := FunD.bindsA (ps := ["one", "two"]) F fun _ _ _ _ _ _ us hl => (by obtain ⟨_, us0, rfl, hl0⟩ := len_succ_ (n := 1) hl; obtain ⟨_, us1, rfl, hl1⟩ := len_succ_ (n := 0) hl0; obtain rfl := List.length_eq_zero_iff.mp hl1; rfl)
  have nd := (sc_law_shared).nd
  have ok : FnG P w K mg base 1 _ fd ["one", "two"] 99 f_law_shared := fnG_of F sc_law_shared fun cd A outer s H E hr => ⟨_, (dss_cons (ds_while po_of (dt_cmp op_gt gtD_ok (de_var (i := 1)) de_int rfl)
    (dss_one (ds_par2F (i := 0) (j := 1) rfl nd rfl rfl (by decide) rfl rfl (da_cons (de_var (i := 1)) (da_cons (de_op op_mod modD_ok (de_callTy (r := _) call_int1 intD_ok rfl C.fr_int (by decide +kernel) (da_cons (de_var (i := 0)) da_nil)) (de_var (i := 1))) da_nil)))))
    (dss_one (ds_ret (de_var (i := 0)))))⟩
  exact ⟨_, fd, C.at_law_shared, F.kp, bd, ok⟩
theorem sc_law_ways_k41 : FnScope ["totals", "k", "most", "rows", "day", "found", "row", "later", "j", "number"] ["totals", "k", "most"] (defScope (tpS 29)) := ⟨rfl, rfl, rfl, by decide +kernel, rfl, by decide +kernel, by decide +kernel⟩
theorem fn_law_ways_k41 (C : Cl K mg) : ∃ f fd, Def P w K mg base 1 "_law_ways" ["totals", "k", "most"] 99 f_law_ways_k41 f fd := by
  obtain ⟨fd, F⟩ := C.says.def_ 18 (d := d29) rfl
  have bd := FunD.bindsA (ps := ["totals", "k", "most"]) F fun _ _ _ _ _ _ us hl => (by obtain ⟨_, us0, rfl, hl0⟩ := len_succ_ (n := 2) hl; obtain ⟨_, us1, rfl, hl1⟩ := len_succ_ (n := 1) hl0; obtain ⟨_, us2, rfl, hl2⟩ := len_succ_ (n := 0) hl1; obtain rfl := List.length_eq_zero_iff.mp hl2; rfl)
  have nd := (sc_law_ways_k41).nd
  have ok : FnG P w K mg base 1 _ fd ["totals", "k", "most"] 99 f_law_ways_k41 := fnG_of F sc_law_ways_k41 fun cd A outer s H E hr => ⟨_, (dss_cons (ds_set (i := 3) nd rfl (.inl rfl) (de_lst (da_cons (de_lst da_nil) da_nil)))
    (dss_cons (ds_for po_of rfl (di_rng1 rfl C.fr_range (da_cons (de_var (i := 1)) da_nil)) (dg_name (i := 4) nd rfl (.inl rfl))
    (dss_cons (ds_set (i := 7) nd rfl (.inl rfl) (de_lst da_nil))
    (dss_cons (ds_for po_of rfl (i_seq (K := K) (de_var (i := 3))) (dg_name (i := 6) nd rfl (.inr rfl))
    (dss_one (ds_set (i := 7) nd rfl (.inl rfl) (de_op op_addD addD_ok (de_var (i := 7)) (de_lc (own := [("number", 9)]) rfl nd (di_rng1 rfl C.fr_range (da_cons (de_op op_addD addD_ok (de_var (i := 2)) de_int) da_nil)) (by show blkC ["totals", "k", "most", "rows", "day", "found", "row", "later", "j", "number"] (defScope (tpS 29)) _ _ = true; decide +kernel) ⟨fun _ _ _ _ _ => (dg_name (i := 9) nd rfl (.inl rfl)), (gw_name (by decide)), fun _ _ _ _ _ => ⟨pts_nil, evb_yes⟩, fun _ _ _ _ _ => (by exact (de_op op_addD addD_ok (de_var (i := 6)) (de_lst (da_cons (de_var (i := 9)) da_nil))))⟩)))))
    (dss_one (ds_set (i := 3) nd rfl (.inl rfl) (de_var (i := 7)))))))
    (dss_cons (ds_setC rfl (i := 5) nd rfl (.inl rfl) (de_lst da_nil))
    (dss_cons (ds_for po_of rfl (i_seq (K := K) (de_var (i := 3))) (dg_name (i := 6) nd rfl (.inr rfl))
    (dss_one (ds_if (dt_cmp (r := rEqD K) (op_eqD (room_eq hr)) eqD_ok (de_callB (r := rSum K) (cr_sum rfl) sumD_ok rfl C.fr_sum (by decide +kernel) (da_cons (de_var (i := 6)) da_nil)) (e_ix kl (de_var (i := 0)) de_int) rfl)
    (dss_cons (ds_for po_of rfl (di_rng2 rfl C.fr_range (da_cons de_int (da_cons (de_callB (r := rLenD K) DL.call_lenD (lenD_okk kl) rfl C.fr_len (by decide +kernel) (da_cons (de_var (i := 0)) da_nil)) da_nil))) (dg_name (i := 8) nd rfl (.inl rfl))
    (dss_one (ds_set (i := 6) nd rfl (.inr rfl) (de_op op_addD addD_ok (de_var (i := 6)) (de_lst (da_cons (de_op op_sub subD_ok (de_op op_addD addD_ok (e_ix kl (de_var (i := 6)) (de_op op_sub subD_ok (de_var (i := 8)) de_int)) (e_ix kl (de_var (i := 0)) (de_var (i := 8)))) (e_ix kl (de_var (i := 0)) (de_op op_sub subD_ok (de_var (i := 8)) de_int))) da_nil))))))
    (dss_one (ds_if (dt_w (dw_and (dt_cmp op_ge geD_ok (de_callB (r := rMin K) (cr_min rfl) minD_ok rfl C.fr_min (by decide +kernel) (da_cons (de_var (i := 6)) da_nil)) de_int rfl) (dw_and1 (dt_cmp op_le leD_ok (de_callB (r := rMax K) (cr_max rfl) maxD_ok rfl C.fr_max (by decide +kernel) (da_cons (de_var (i := 6)) da_nil)) (de_var (i := 2)) rfl))))
    (dss_one (ds_expr (k_append (K := K) (i := 5) rfl p_var (de_var (i := 6)))))
    dss_nil)))
    dss_nil)))
    (dss_one (ds_retC (i := 5) rfl p_var))))))⟩
  exact ⟨_, fd, C.at_law_ways_k41, F.kp, bd, ok⟩
theorem sc_law_ring : FnScope ["row_here", "k", "j"] ["row_here", "k"] (defScope (tpS 30)) := ⟨rfl, rfl, rfl, by decide +kernel, rfl, by decide +kernel, by decide +kernel⟩
theorem fn_law_ring (C : Cl K mg) : ∃ f fd, Def P w K mg base 1 "_law_ring" ["row_here", "k"] 99 f_law_ring f fd := by
  obtain ⟨fd, F⟩ := C.says.def_ 19 (d := d30) rfl
  have bd := FunD.bindsA (ps := ["row_here", "k"]) F fun _ _ _ _ _ _ us hl => (by obtain ⟨_, us0, rfl, hl0⟩ := len_succ_ (n := 1) hl; obtain ⟨_, us1, rfl, hl1⟩ := len_succ_ (n := 0) hl0; obtain rfl := List.length_eq_zero_iff.mp hl1; rfl)
  have nd := (sc_law_ring).nd
  have ok : FnG P w K mg base 1 _ fd ["row_here", "k"] 99 f_law_ring := fnG_of F sc_law_ring fun cd A outer s H E hr => ⟨_, (dss_one (ds_ret (de_lc (own := [("j", 2)]) rfl nd (di_rng1 rfl C.fr_range (da_cons (de_callB (r := rLenD K) DL.call_lenD (lenD_okk kl) rfl C.fr_len (by decide +kernel) (da_cons (de_var (i := 0)) da_nil)) da_nil)) (by show blkC ["row_here", "k", "j"] (defScope (tpS 30)) _ _ = true; decide +kernel) ⟨fun _ _ _ _ _ => (dg_name (i := 2) nd rfl (.inl rfl)), (gw_name (by decide)), fun _ _ _ _ _ => ⟨pts_nil, evb_yes⟩, fun _ _ _ _ _ => (by exact (de_callB (r := rSum K) (cr_sum rfl) sumD_ok rfl C.fr_sum (by decide +kernel) (da_cons (e_sl kl (de_op op_mulD mulD_ok (de_var (i := 0)) de_int) (do_some (de_var (i := 2))) (do_some (de_op op_addD addD_ok (de_var (i := 2)) (de_var (i := 1))))) da_nil)))⟩)))⟩
  exact ⟨_, fd, C.at_law_ring, F.kp, bd, ok⟩
theorem sc_are_integers : FnScope ["thing", "number"] ["thing"] (defScope (tpS 9)) := ⟨rfl, rfl, rfl, by decide +kernel, rfl, by decide +kernel, by decide +kernel⟩
theorem fn_are_integers (C : Cl K mg) : ∃ f fd, Def P w K mg base 2 "are_integers" ["thing"] 99 f_are_integers f fd := by
  obtain ⟨_, _, D_is_integer⟩ := fn_is_integer (P := P) (w := w) (base := base) C
  obtain ⟨fd, F⟩ := C.says.def_ 1 (d := d9) rfl
  have bd := FunD.bindsA (ps := ["thing"]) F fun _ _ _ _ _ _ us hl => (by obtain ⟨_, us0, rfl, hl0⟩ := len_succ_ (n := 0) hl; obtain rfl := List.length_eq_zero_iff.mp hl0; rfl)
  have nd := (sc_are_integers).nd
  have ok : FnG P w K mg base 2 _ fd ["thing"] 99 f_are_integers := fnG_of F sc_are_integers fun cd A outer s H E hr => ⟨_, (dss_one (ds_ret (de_and (e_isi kl (T := .list) rfl C.fr_isinstance rfl C.fr_list (by decide +kernel) (de_var (i := 0))) (de_one (de_callB (r := rAll K) (cr_all rfl) allD_ok rfl C.fr_all (by decide +kernel) (da_cons (de_lc (own := [("number", 1)]) rfl nd (i_seq (K := K) (de_var (i := 0))) (by show blkC ["thing", "number"] (defScope (tpS 9)) _ _ = true; decide +kernel) ⟨fun _ _ _ _ _ => (dg_name (i := 1) nd rfl (.inl rfl)), (gw_name (by decide)), fun _ _ _ _ _ => ⟨pts_nil, evb_yes⟩, fun _ _ _ _ _ => (by exact (de_call D_is_integer (hr.mono (by decide)) rfl trivial (da_cons (de_var (i := 1)) da_nil)))⟩) da_nil))))))⟩
  exact ⟨_, fd, C.at_are_integers, F.kp, bd, ok⟩
theorem sc_ring_share : FnScope ["count", "length"] ["count", "length"] (defScope (tpS 18)) := ⟨rfl, rfl, rfl, by decide +kernel, rfl, by decide +kernel, by decide +kernel⟩
theorem fn_ring_share (C : Cl K mg) : ∃ f fd, Def P w K mg base 2 "ring_share" ["count", "length"] 99 f_ring_share f fd := by
  obtain ⟨_, _, D_ring_class⟩ := fn_ring_class (P := P) (w := w) (base := base) C
  obtain ⟨fd, F⟩ := C.says.def_ 8 (d := d18) rfl
  have bd := FunD.bindsA (ps := ["count", "length"]) F fun _ _ _ _ _ _ us hl => (by obtain ⟨_, us0, rfl, hl0⟩ := len_succ_ (n := 1) hl; obtain ⟨_, us1, rfl, hl1⟩ := len_succ_ (n := 0) hl0; obtain rfl := List.length_eq_zero_iff.mp hl1; rfl)
  have nd := (sc_ring_share).nd
  have ok : FnG P w K mg base 2 _ fd ["count", "length"] 99 f_ring_share := fnG_of F sc_ring_share fun cd A outer s H E hr => ⟨_, (dss_one (ds_ret (de_op op_fdivW fdivD_ok (de_var (i := 0)) (de_op op_sub subD_ok (de_callB (r := rLenD K) DL.call_lenD (lenD_okk kl) rfl C.fr_len (by decide +kernel) (da_cons (de_call D_ring_class (hr.mono (by decide)) rfl tk_of (da_cons (de_var (i := 0)) (da_cons (de_var (i := 1)) (da_cons de_int da_nil)))) da_nil)) de_int))))⟩
  exact ⟨_, fd, C.at_ring_share, F.kp, bd, ok⟩
theorem sc_law_draw : FnScope ["bag", "wide", "found"] ["bag", "wide"] (defScope (tpS 24)) := ⟨rfl, rfl, rfl, by decide +kernel, rfl, by decide +kernel, by decide +kernel⟩
theorem fn_law_draw (C : Cl K mg) : ∃ f fd, Def P w K mg base 2 "_law_draw" ["bag", "wide"] 0 f_law_draw f fd := by
  obtain ⟨_, _, D_law_stirred⟩ := fn_law_stirred (P := P) (w := w) (base := base) C
  obtain ⟨fd, F⟩ := C.says.def_ 13 (d := d24) rfl
  have bd := FunD.bindsA (ps := ["bag", "wide"]) F fun _ _ _ _ _ _ us hl => (by obtain ⟨_, us0, rfl, hl0⟩ := len_succ_ (n := 1) hl; obtain ⟨_, us1, rfl, hl1⟩ := len_succ_ (n := 0) hl0; obtain rfl := List.length_eq_zero_iff.mp hl1; rfl)
  have nd := (sc_law_draw).nd
  have ok : FnG P w K mg base 2 _ fd ["bag", "wide"] 0 f_law_draw := fnG_of F sc_law_draw fun cd A outer s H E hr => ⟨_, (dss_cons (ds_if (dt_w (dw_and (dt_cmp (r := rEqD K) (op_eqD (room_eq hr)) eqD_ok (e_ix kl (de_vc (i := 0)) de_int) de_int rfl) (dw_and1 (dt_cmp op_lt ltD_ok (e_ix kl (de_vc (i := 0)) de_int) (de_callB (r := rLenD K) DL.call_lenD (lenD_okk kl) rfl C.fr_len (by decide +kernel) (da_cons (e_ix kl (de_vc (i := 0)) de_int) da_nil)) rfl))))
    (dss_cons (ds_setIx (i := 0) rfl p_var de_int (e_ix kl (e_ix kl (de_vc (i := 0)) de_int) (e_ix kl (de_vc (i := 0)) de_int)))
    (dss_one (ds_setIx (i := 0) rfl p_var de_int (de_op op_addD addD_ok (e_ix kl (de_vc (i := 0)) de_int) de_int))))
    (dss_one (ds_if (dt_cmp (r := rEqD K) (op_eqD (room_eq hr)) eqD_ok (e_ix kl (de_vc (i := 0)) de_int) de_int rfl)
    (dss_one (ds_ret (de_call D_law_stirred (hr.mono (by decide)) rfl tk_of (da_cons (de_vc (i := 0)) (da_cons (de_var (i := 1)) da_nil)))))
    dss_nil)))
    (dss_cons (ds_set (i := 2) nd rfl (.inl rfl) (de_op op_mod modD_ok (de_callTy (r := _) call_int1 intD_ok rfl C.fr_int (by decide +kernel) (da_cons (e_ix kl (de_vc (i := 0)) de_int) da_nil)) (de_var (i := 1))))
    (dss_cons (ds_setIx (i := 0) rfl p_var de_int (de_op op_fdivW fdivD_ok (e_ix kl (de_vc (i := 0)) de_int) (de_var (i := 1))))
    (dss_one (ds_ret (de_var (i := 2)))))))⟩
  exact ⟨_, fd, C.at_law_draw, F.kp, bd, ok⟩
theorem sc_law_open : FnScope ["totals", "k", "many", "added", "first", "rest", "day", "step"] ["totals", "k"] (defScope (tpS 31)) := ⟨rfl, rfl, rfl, by decide +kernel, rfl, by decide +kernel, by decide +kernel⟩
theorem fn_law_open (C : Cl K mg) : ∃ f fd, Def P w K mg base 2 "_law_open" ["totals", "k"] 99 f_law_open f fd := by
  obtain ⟨_, _, D_law_shared⟩ := fn_law_shared (P := P) (w := w) (base := base) C
  obtain ⟨fd, F⟩ := C.says.def_ 20 (d := d31) rfl
  have bd := FunD.bindsA (ps := ["totals", "k"]) F fun _ _ _ _ _ _ us hl => (by obtain ⟨_, us0, rfl, hl0⟩ := len_succ_ (n := 1) hl; obtain ⟨_, us1, rfl, hl1⟩ := len_succ_ (n := 0) hl0; obtain rfl := List.length_eq_zero_iff.mp hl1; rfl)
  have nd := (sc_law_open).nd
  have ok : FnG P w K mg base 2 _ fd ["totals", "k"] 99 f_law_open := fnG_of F sc_law_open fun cd A outer s H E hr => ⟨_, (dss_cons (ds_set (i := 2) nd rfl (.inl rfl) (de_callB (r := rLenD K) DL.call_lenD (lenD_okk kl) rfl C.fr_len (by decide +kernel) (da_cons (de_var (i := 0)) da_nil)))
    (dss_cons (ds_setC rfl (i := 3) nd rfl (.inl rfl) (de_op op_mulD mulD_ok (de_lst (da_cons de_non da_nil)) (de_var (i := 2))))
    (dss_cons (ds_for po_of rfl (di_rng1 rfl C.fr_range (da_cons (de_call D_law_shared (hr.mono (by decide)) rfl tk_of (da_cons (de_var (i := 2)) (da_cons (de_var (i := 1)) da_nil))) da_nil)) (dg_name (i := 4) nd rfl (.inl rfl))
    (dss_cons (ds_par2F (i := 6) (j := 7) rfl nd rfl rfl (by decide) rfl rfl (da_cons (de_var (i := 4)) (da_cons de_int da_nil)))
    (dss_cons (ds_while po_of (dt_cmp op_isD isD_ok (e_ix kl (de_vc (i := 3)) (de_var (i := 6))) de_non rfl)
    (dss_cons (ds_setIx (i := 3) rfl p_var (de_var (i := 6)) (de_var (i := 7)))
    (dss_cons (ds_set (i := 7) nd rfl (.inl rfl) (de_op op_sub subD_ok (de_op op_addD addD_ok (de_var (i := 7)) (e_ix kl (de_var (i := 0)) (de_op op_mod modD_ok (de_callTy (r := _) call_int1 intD_ok rfl C.fr_int (by decide +kernel) (da_cons (de_op op_addD addD_ok (de_var (i := 6)) de_int) da_nil)) (de_var (i := 2))))) (e_ix kl (de_var (i := 0)) (de_var (i := 6)))))
    (dss_one (ds_set (i := 6) nd rfl (.inl rfl) (de_op op_mod modD_ok (de_callTy (r := _) call_int1 intD_ok rfl C.fr_int (by decide +kernel) (da_cons (de_op op_addD addD_ok (de_var (i := 6)) (de_var (i := 1))) da_nil)) (de_var (i := 2))))))))
    (dss_one (ds_if (dt_cmp (r := rNeD K) (op_neD (room_eq hr)) neD_ok (de_var (i := 7)) de_int rfl)
    (dss_one (ds_ret de_str))
    dss_nil)))))
    (dss_cons (ds_set (i := 5) nd rfl (.inl rfl) (de_op op_sub subD_ok (e_ix kl (de_var (i := 0)) de_int) (de_callB (r := rSum K) (cr_sum rfl) sumD_ok rfl C.fr_sum (by decide +kernel) (da_cons (e_sl kl (de_vc (i := 3)) do_none (do_some (de_var (i := 1)))) da_nil))))
    (dss_one (ds_ret (de_ite (dt_cmp (r := rNeD K) (op_neD (room_eq hr)) neD_ok (de_op op_mod modD_ok (de_callTy (r := _) call_int1 intD_ok rfl C.fr_int (by decide +kernel) (da_cons (de_var (i := 5)) da_nil)) (de_op op_fdivW fdivD_ok (de_var (i := 1)) (de_call D_law_shared (hr.mono (by decide)) rfl tk_of (da_cons (de_var (i := 2)) (da_cons (de_var (i := 1)) da_nil))))) de_int rfl) de_str de_str)))))))⟩
  exact ⟨_, fd, C.at_law_open, F.kp, bd, ok⟩
theorem sc_is_ring_list : FnScope ["thing"] ["thing"] (defScope (tpS 13)) := ⟨rfl, rfl, rfl, by decide +kernel, rfl, by decide +kernel, by decide +kernel⟩
theorem fn_is_ring_list (C : Cl K mg) : ∃ f fd, Def P w K mg base 3 "is_ring_list" ["thing"] 99 f_is_ring_list f fd := by
  obtain ⟨_, _, D_are_integers⟩ := fn_are_integers (P := P) (w := w) (base := base) C
  obtain ⟨_, g_MOST_RING⟩ := C.gi_MOST_RING
  obtain ⟨fd, F⟩ := C.says.def_ 3 (d := d13) rfl
  have bd := FunD.bindsA (ps := ["thing"]) F fun _ _ _ _ _ _ us hl => (by obtain ⟨_, us0, rfl, hl0⟩ := len_succ_ (n := 0) hl; obtain rfl := List.length_eq_zero_iff.mp hl0; rfl)
  have nd := (sc_is_ring_list).nd
  have ok : FnG P w K mg base 3 _ fd ["thing"] 99 f_is_ring_list := fnG_of F sc_is_ring_list fun cd A outer s H E hr => ⟨_, (dss_one (ds_ret (de_and (e_isi kl (T := .list) rfl C.fr_isinstance rfl C.fr_list (by decide +kernel) (de_var (i := 0))) (de_and (de_chain op_le op_le leD_ok leD_ok de_int (de_callB (r := rLenD K) DL.call_lenD (lenD_okk kl) rfl C.fr_len (by decide +kernel) (da_cons (de_var (i := 0)) da_nil)) (de_globI rfl g_MOST_RING)) (de_one (de_call D_are_integers (hr.mono (by decide)) rfl tk_of (da_cons (de_var (i := 0)) da_nil)))))))⟩
  exact ⟨_, fd, C.at_is_ring_list, F.kp, bd, ok⟩
theorem sc_ring_story : FnScope ["sums", "length", "count", "share", "added", "first", "rest", "whole", "days", "steps", "day", "step"] ["sums", "length"] (defScope (tpS 19)) := ⟨rfl, rfl, rfl, by decide +kernel, rfl, by decide +kernel, by decide +kernel⟩
theorem fn_ring_story (C : Cl K mg) : ∃ f fd, Def P w K mg base 3 "ring_story" ["sums", "length"] 99 f_ring_story f fd := by
  obtain ⟨_, _, D_ring_share⟩ := fn_ring_share (P := P) (w := w) (base := base) C
  obtain ⟨_, _, D_ring_class⟩ := fn_ring_class (P := P) (w := w) (base := base) C
  obtain ⟨_, _, D_class_steps⟩ := fn_class_steps (P := P) (w := w) (base := base) C
  obtain ⟨fd, F⟩ := C.says.def_ 9 (d := d19) rfl
  have bd := FunD.bindsA (ps := ["sums", "length"]) F fun _ _ _ _ _ _ us hl => (by obtain ⟨_, us0, rfl, hl0⟩ := len_succ_ (n := 1) hl; obtain ⟨_, us1, rfl, hl1⟩ := len_succ_ (n := 0) hl0; obtain rfl := List.length_eq_zero_iff.mp hl1; rfl)
  have nd := (sc_ring_story).nd
  have ok : FnG P w K mg base 3 _ fd ["sums", "length"] 99 f_ring_story := fnG_of F sc_ring_story fun cd A outer s H E hr => ⟨_, (dss_cons (ds_set (i := 2) nd rfl (.inl rfl) (de_callB (r := rLenD K) DL.call_lenD (lenD_okk kl) rfl C.fr_len (by decide +kernel) (da_cons (de_var (i := 0)) da_nil)))
    (dss_cons (ds_set (i := 3) nd rfl (.inr rfl) (de_call D_ring_share (hr.mono (by decide)) rfl tk_of (da_cons (de_var (i := 2)) (da_cons (de_var (i := 1)) da_nil))))
    (dss_cons (ds_setC rfl (i := 4) nd rfl (.inr rfl) (de_op op_mulD mulD_ok (de_lst (da_cons de_int da_nil)) (de_var (i := 2))))
    (dss_cons (ds_for po_of rfl (di_rng1 rfl C.fr_range (da_cons (de_var (i := 3)) da_nil)) (dg_name (i := 5) nd rfl (.inl rfl))
    (dss_cons (ds_set (i := 8) nd rfl (.inl rfl) (de_call D_ring_class (hr.mono (by decide)) rfl tk_of (da_cons (de_var (i := 2)) (da_cons (de_var (i := 1)) (da_cons (de_var (i := 5)) da_nil)))))
    (dss_cons (ds_set (i := 9) nd rfl (.inl rfl) (de_call D_class_steps (hr.mono (by decide)) rfl tk_of (da_cons (de_var (i := 0)) (da_cons (de_var (i := 8)) da_nil))))
    (dss_cons (ds_if (dt_cmp (r := rNeD K) (op_neD (room_eq hr)) neD_ok (e_ix kl (de_var (i := 9)) (de_un un_neg negD_ok de_int)) de_int rfl)
    (dss_one (ds_ret (de_tup (da_cons de_str (da_cons (de_var (i := 8)) da_nil)))))
    dss_nil)
    (dss_one (ds_for po_of rfl (i_zip (K := K) rfl C.fr_zip (da_cons (e_sl kl (de_var (i := 8)) do_none (do_some (de_un un_neg negD_ok de_int))) (da_cons (de_var (i := 9)) da_nil))) (g_tup (K := K) rfl (dgs_cons (dg_name (i := 10) nd rfl (.inl rfl)) (dgs_cons (dg_name (i := 11) nd rfl (.inl rfl)) dgs_nil)))
    (dss_one (ds_setIx (i := 4) rfl p_var (de_var (i := 10)) (de_var (i := 11))))))))))
    (dss_cons (ds_set (i := 6) nd rfl (.inl rfl) (de_op op_sub subD_ok (e_ix kl (de_var (i := 0)) de_int) (de_callB (r := rSum K) (cr_sum rfl) sumD_ok rfl C.fr_sum (by decide +kernel) (da_cons (e_sl kl (de_vc (i := 4)) do_none (do_some (de_var (i := 1)))) da_nil))))
    (dss_cons (ds_if (dt_cmp (r := rNeD K) (op_neD (room_eq hr)) neD_ok (de_op op_mod modD_ok (de_var (i := 6)) (de_op op_fdivW fdivD_ok (de_var (i := 1)) (de_var (i := 3)))) de_int rfl)
    (dss_one (ds_ret (de_tup (da_cons de_str (da_cons (de_lst da_nil) da_nil)))))
    dss_nil)
    (dss_cons (ds_set (i := 7) nd rfl (.inr rfl) (de_op op_fdivW fdivD_ok (de_var (i := 6)) (de_op op_fdivW fdivD_ok (de_var (i := 1)) (de_var (i := 3)))))
    (dss_one (ds_ret (de_tupB (i := 3) (de_lc (own := [("day", 10)]) rfl nd (di_rng1 rfl C.fr_range (da_cons (de_op op_addD addD_ok (de_op op_sub subD_ok (de_var (i := 2)) (de_var (i := 3))) de_int) da_nil)) (by show blkC ["sums", "length", "count", "share", "added", "first", "rest", "whole", "days", "steps", "day", "step"] (defScope (tpS 19)) _ _ = true; decide +kernel) ⟨fun _ _ _ _ _ => (dg_name (i := 10) nd rfl (.inl rfl)), (gw_name (by decide)), fun _ _ _ _ _ => ⟨pts_nil, evb_yes⟩, fun _ _ _ _ _ => (by exact (de_op op_addD addD_ok (de_var (i := 7)) (de_callB (r := rSum K) (cr_sum rfl) sumD_ok rfl C.fr_sum (by decide +kernel) (da_cons (e_sl kl (de_vc (i := 4)) (do_some (de_var (i := 10))) (do_some (de_op op_addD addD_ok (de_var (i := 10)) (de_var (i := 3))))) da_nil))))⟩) p_var))))))))))⟩
  exact ⟨_, fd, C.at_ring_story, F.kp, bd, ok⟩
theorem sc_law_days_k41 : FnScope ["bag", "many", "most", "way", "k"] ["bag", "many", "most"] (defScope (tpS 27)) := ⟨rfl, rfl, rfl, by decide +kernel, rfl, by decide +kernel, by decide +kernel⟩
theorem fn_law_days_k41 (C : Cl K mg) : ∃ f fd, Def P w K mg base 3 "_law_days" ["bag", "many", "most"] 0 f_law_days_k41 f fd := by
  obtain ⟨_, _, D_law_draw⟩ := fn_law_draw (P := P) (w := w) (base := base) C
  obtain ⟨fd, F⟩ := C.says.def_ 16 (d := d27) rfl
  have bd := FunD.bindsA (ps := ["bag", "many", "most"]) F fun _ _ _ _ _ _ us hl => (by obtain ⟨_, us0, rfl, hl0⟩ := len_succ_ (n := 2) hl; obtain ⟨_, us1, rfl, hl1⟩ := len_succ_ (n := 1) hl0; obtain ⟨_, us2, rfl, hl2⟩ := len_succ_ (n := 0) hl1; obtain rfl := List.length_eq_zero_iff.mp hl2; rfl)
  have nd := (sc_law_days_k41).nd
  have ok : FnG P w K mg base 3 _ fd ["bag", "many", "most"] 0 f_law_days_k41 := fnG_of F sc_law_days_k41 fun cd A outer s H E hr => ⟨_, (dss_cons (ds_set (i := 3) nd rfl (.inl rfl) (de_call D_law_draw (hr.mono (by decide)) rfl tk_of (da_cons (de_vc (i := 0)) (da_cons de_int da_nil))))
    (dss_cons (ds_if (dt_cmp (r := rEqD K) (op_eqD (room_eq hr)) eqD_ok (de_var (i := 3)) de_int rfl)
    (dss_one (ds_ret (de_lc (own := [("k", 4)]) rfl nd (di_rng1 rfl C.fr_range (da_cons (de_var (i := 1)) da_nil)) (by show blkC ["bag", "many", "most", "way", "k"] (defScope (tpS 27)) _ _ = true; decide +kernel) ⟨fun _ _ _ _ _ => (dg_name (i := 4) nd rfl (.inl rfl)), (gw_name (by decide)), fun _ _ _ _ _ => ⟨pts_nil, evb_yes⟩, fun _ _ _ _ _ => (by exact (de_op op_mulD mulD_ok (de_var (i := 2)) (de_call D_law_draw (hr.mono (by decide)) rfl trivial (da_cons (de_vc (i := 0)) (da_cons de_int da_nil)))))⟩)))
    dss_nil)
    (dss_one (ds_ret (de_lc (own := [("k", 4)]) rfl nd (di_rng1 rfl C.fr_range (da_cons (de_var (i := 1)) da_nil)) (by show blkC ["bag", "many", "most", "way", "k"] (defScope (tpS 27)) _ _ = true; decide +kernel) ⟨fun _ _ _ _ _ => (dg_name (i := 4) nd rfl (.inl rfl)), (gw_name (by decide)), fun _ _ _ _ _ => ⟨pts_nil, evb_yes⟩, fun _ _ _ _ _ => (by exact (de_call D_law_draw (hr.mono (by decide)) rfl trivial (da_cons (de_vc (i := 0)) (da_cons (de_op op_addD addD_ok (de_var (i := 2)) de_int) da_nil))))⟩)))))⟩
  exact ⟨_, fd, C.at_law_days_k41, F.kp, bd, ok⟩
theorem sc_need_ring : FnScope ["sums", "length"] ["sums", "length"] (defScope (tpS 14)) := ⟨rfl, rfl, rfl, by decide +kernel, rfl, by decide +kernel, by decide +kernel⟩
theorem fn_need_ring (C : Cl K mg) : ∃ f fd, Def P w K mg base 4 "need_ring" ["sums", "length"] 99 f_need_ring f fd := by
  obtain ⟨_, _, D_is_ring_list⟩ := fn_is_ring_list (P := P) (w := w) (base := base) C
  obtain ⟨_, _, D_need_ring_length⟩ := fn_need_ring_length (P := P) (w := w) (base := base) C
  obtain ⟨fd, F⟩ := C.says.def_ 4 (d := d14) rfl
  have bd := FunD.bindsA (ps := ["sums", "length"]) F fun _ _ _ _ _ _ us hl => (by obtain ⟨_, us0, rfl, hl0⟩ := len_succ_ (n := 1) hl; obtain ⟨_, us1, rfl, hl1⟩ := len_succ_ (n := 0) hl0; obtain rfl := List.length_eq_zero_iff.mp hl1; rfl)
  have nd := (sc_need_ring).nd
  have ok : FnG P w K mg base 4 _ fd ["sums", "length"] 99 f_need_ring := fnG_of F sc_need_ring fun cd A outer s H E hr => ⟨_, (dss_cons (ds_if (dt_not (dt_truK (K := K) (de_call D_is_ring_list (hr.mono (by decide)) rfl tk_of (da_cons (de_var (i := 0)) da_nil))))
    (dss_one ds_never)
    dss_nil)
    (dss_one (ds_expr (de_call D_need_ring_length (hr.mono (by decide)) rfl tk_of (da_cons (de_var (i := 1)) (da_cons (de_callB (r := rLenD K) DL.call_lenD (lenD_okk kl) rfl C.fr_len (by decide +kernel) (da_cons (de_var (i := 0)) da_nil)) da_nil))))))⟩
  exact ⟨_, fd, C.at_need_ring, F.kp, bd, ok⟩
theorem sc_ring_sums : FnScope ["numbers", "length", "twice", "day"] ["numbers", "length"] (defScope (tpS 15)) := ⟨rfl, rfl, rfl, by decide +kernel, rfl, by decide +kernel, by decide +kernel⟩
theorem fn_ring_sums (C : Cl K mg) : ∃ f fd, Def P w K mg base 4 "ring_sums" ["numbers", "length"] 99 f_ring_sums f fd ∧ BKw fd ["numbers", "length"] ["length", "numbers"] [1, 0] := by
  obtain ⟨_, _, D_is_ring_list⟩ := fn_is_ring_list (P := P) (w := w) (base := base) C
  obtain ⟨_, _, D_need_ring_length⟩ := fn_need_ring_length (P := P) (w := w) (base := base) C
  obtain ⟨fd, F⟩ := C.says.def_ 5 (d := d15) rfl
  have bd := FunD.bindsA (ps := ["numbers", "length"]) F fun _ _ _ _ _ _ us hl => (by obtain ⟨_, us0, rfl, hl0⟩ := len_succ_ (n := 1) hl; obtain ⟨_, us1, rfl, hl1⟩ := len_succ_ (n := 0) hl0; obtain rfl := List.length_eq_zero_iff.mp hl1; rfl)
  have nd := (sc_ring_sums).nd
  have ok : FnG P w K mg base 4 _ fd ["numbers", "length"] 99 f_ring_sums := fnG_of F sc_ring_sums fun cd A outer s H E hr => ⟨_, (dss_cons (ds_if (dt_not (dt_truK (K := K) (de_call D_is_ring_list (hr.mono (by decide)) rfl tk_of (da_cons (de_var (i := 0)) da_nil))))
    (dss_one ds_never)
    dss_nil)
    (dss_cons (ds_expr (de_call D_need_ring_length (hr.mono (by decide)) rfl tk_of (da_cons (de_var (i := 1)) (da_cons (de_callB (r := rLenD K) DL.call_lenD (lenD_okk kl) rfl C.fr_len (by decide +kernel) (da_cons (de_var (i := 0)) da_nil)) da_nil))))
    (dss_cons (ds_set (i := 2) nd rfl (.inr rfl) (de_op op_addD addD_ok (de_var (i := 0)) (de_var (i := 0))))
    (dss_one (ds_ret (de_lc (own := [("day", 3)]) rfl nd (di_rng1 rfl C.fr_range (da_cons (de_callB (r := rLenD K) DL.call_lenD (lenD_okk kl) rfl C.fr_len (by decide +kernel) (da_cons (de_var (i := 0)) da_nil)) da_nil)) (by show blkC ["numbers", "length", "twice", "day"] (defScope (tpS 15)) _ _ = true; decide +kernel) ⟨fun _ _ _ _ _ => (dg_name (i := 3) nd rfl (.inl rfl)), (gw_name (by decide)), fun _ _ _ _ _ => ⟨pts_nil, evb_yes⟩, fun _ _ _ _ _ => (by exact (de_callB (r := rSum K) (cr_sum rfl) sumD_ok rfl C.fr_sum (by decide +kernel) (da_cons (e_sl kl (de_var (i := 2)) (do_some (de_var (i := 3))) (do_some (de_op op_addD addD_ok (de_var (i := 3)) (de_var (i := 1))))) da_nil)))⟩))))))⟩
  refine ⟨_, fd, ⟨C.at_ring_sums, F.kp, bd, ok⟩, ?_⟩
  · obtain ⟨_, _, _, _, _, _, _, _, _, _, rfl, _, _, hD, _⟩ := F.ex
    rcases hD with ⟨_, rfl⟩ | ⟨e, _⟩
    rotate_left
    · exact absurd rfl e
    exact fun s ws hl => BindsTo.of_eq (by obtain ⟨_, ws0, rfl, hl0⟩ := len_succ_ (n := 1) hl; obtain ⟨_, ws1, rfl, hl1⟩ := len_succ_ (n := 0) hl0; obtain rfl := List.length_eq_zero_iff.mp hl1; rfl)
theorem sc_ring_line : FnScope ["sums", "length", "line", "share"] ["sums", "length"] (defScope (tpS 20)) := ⟨rfl, rfl, rfl, by decide +kernel, rfl, by decide +kernel, by decide +kernel⟩
theorem fn_ring_line (C : Cl K mg) : ∃ f fd, Def P w K mg base 5 "ring_line" ["sums", "length"] 99 f_ring_line f fd ∧ BKw fd ["sums", "length"] ["length", "sums"] [1, 0] := by
  obtain ⟨_, _, D_need_ring⟩ := fn_need_ring (P := P) (w := w) (base := base) C
  obtain ⟨_, _, D_ring_story⟩ := fn_ring_story (P := P) (w := w) (base := base) C
  obtain ⟨fd, F⟩ := C.says.def_ 10 (d := d20) rfl
  have bd := FunD.bindsA (ps := ["sums", "length"]) F fun _ _ _ _ _ _ us hl => (by obtain ⟨_, us0, rfl, hl0⟩ := len_succ_ (n := 1) hl; obtain ⟨_, us1, rfl, hl1⟩ := len_succ_ (n := 0) hl0; obtain rfl := List.length_eq_zero_iff.mp hl1; rfl)
  have nd := (sc_ring_line).nd
  have ok : FnG P w K mg base 5 _ fd ["sums", "length"] 99 f_ring_line := fnG_of F sc_ring_line fun cd A outer s H E hr => ⟨_, (dss_cons (ds_expr (de_call D_need_ring (hr.mono (by decide)) rfl tk_of (da_cons (de_var (i := 0)) (da_cons (de_var (i := 1)) da_nil))))
    (dss_cons (ds_asgT (K := K) (i := 2) (j := 3) rfl (de_call D_ring_story (hr.mono (by decide)) rfl tk_of (da_cons (de_var (i := 0)) (da_cons (de_var (i := 1)) da_nil))) (g_tup (K := K) rfl (dgs_cons (dg_name (i := 2) nd rfl (.inl rfl)) (dgs_cons (dg_name (i := 3) nd rfl (.inl rfl)) dgs_nil))))
    (dss_cons (ds_if (dt_truK (K := K) (e_isi kl (T := .str) rfl C.fr_isinstance rfl C.fr_str (by decide +kernel) (de_vc (i := 2))))
    (dss_one ds_never)
    dss_nil)
    (dss_one (ds_retC (i := 2) rfl p_var)))))⟩
  refine ⟨_, fd, ⟨C.at_ring_line, F.kp, bd, ok⟩, ?_⟩
  · obtain ⟨_, _, _, _, _, _, _, _, _, _, rfl, _, _, hD, _⟩ := F.ex
    rcases hD with ⟨_, rfl⟩ | ⟨e, _⟩
    rotate_left
    · exact absurd rfl e
    exact fun s ws hl => BindsTo.of_eq (by obtain ⟨_, ws0, rfl, hl0⟩ := len_succ_ (n := 1) hl; obtain ⟨_, ws1, rfl, hl1⟩ := len_succ_ (n := 0) hl0; obtain rfl := List.length_eq_zero_iff.mp hl1; rfl)
theorem sc_law_alike : FnScope ["found", "due", "k"] ["found", "due"] (defScope (tpS 25)) := ⟨rfl, rfl, rfl, by decide +kernel, rfl, by decide +kernel, by decide +kernel⟩
theorem fnr_law_alike (C : Cl K mg) (n : Nat) : ∃ f fd, Def P w K mg base (0 + n) "_law_alike" ["found", "due"] 99 (r_law_alike n) f fd := by
  obtain ⟨fd, F⟩ := C.says.def_ 14 (d := d25) rfl
  have bd := FunD.bindsA (ps := ["found", "due"]) F fun _ _ _ _ _ _ us hl => (by obtain ⟨_, us0, rfl, hl0⟩ := len_succ_ (n := 1) hl; obtain ⟨_, us1, rfl, hl1⟩ := len_succ_ (n := 0) hl0; obtain rfl := List.length_eq_zero_iff.mp hl1; rfl)
  have nd := (sc_law_alike).nd
  have main : ∀ n, FnG P w K mg base (0 + n) (He.ga K "_law_alike") fd ["found", "due"] 99 (r_law_alike n) := by
    intro n
    induction n with
    | zero => exact fnG_bad
    | succ n ih =>
      have D_law_alike : Def P w K mg base (0 + n) "_law_alike" ["found", "due"] 99 (r_law_alike n) _ fd := ⟨C.at_law_alike, F.kp, bd, ih⟩
      exact fnG_of F sc_law_alike fun cd A outer s H E hr => ⟨_, (dss_cons (ds_if (dt_truK (K := K) (e_isi2 kl (T := .list) (U := .tuple) rfl C.fr_isinstance rfl C.fr_list (by decide +kernel) rfl C.fr_tuple (by decide +kernel) (de_var (i := 1))))
    (dss_cons (ds_if (dt_w (dw_or (dt_not (dt_truK (K := K) (e_isi2 kl (T := .list) (U := .tuple) rfl C.fr_isinstance rfl C.fr_list (by decide +kernel) rfl C.fr_tuple (by decide +kernel) (de_var (i := 0))))) (dw_or1 (dt_cmp (r := rNeD K) (op_neD (room_eq hr)) neD_ok (e_isi kl (T := .list) rfl C.fr_isinstance rfl C.fr_list (by decide +kernel) (de_var (i := 0))) (e_isi kl (T := .list) rfl C.fr_isinstance rfl C.fr_list (by decide +kernel) (de_var (i := 1))) rfl))))
    (dss_one (ds_ret de_bl))
    dss_nil)
    (dss_cons (ds_if (dt_cmp (r := rNeD K) (op_neD (room_eq hr)) neD_ok (de_callB (r := rLenD K) DL.call_lenD (lenD_okk kl) rfl C.fr_len (by decide +kernel) (da_cons (de_var (i := 0)) da_nil)) (de_callB (r := rLenD K) DL.call_lenD (lenD_okk kl) rfl C.fr_len (by decide +kernel) (da_cons (de_var (i := 1)) da_nil)) rfl)
    (dss_one (ds_ret de_bl))
    dss_nil)
    (dss_one (ds_ret (de_callB (r := rAll K) (cr_all rfl) allD_ok rfl C.fr_all (by decide +kernel) (da_cons (de_lc (own := [("k", 2)]) rfl nd (di_rng1 rfl C.fr_range (da_cons (de_callB (r := rLenD K) DL.call_lenD (lenD_okk kl) rfl C.fr_len (by decide +kernel) (da_cons (de_var (i := 1)) da_nil)) da_nil)) (by show blkC ["found", "due", "k"] (defScope (tpS 25)) _ _ = true; decide +kernel) ⟨fun _ _ _ _ _ => (dg_name (i := 2) nd rfl (.inl rfl)), (gw_name (by decide)), fun _ _ _ _ _ => ⟨pts_nil, evb_yes⟩, fun _ _ _ _ _ => (by exact (de_call D_law_alike (hr.mono (by first | omega | exact Nat.le_refl _ | exact Nat.le_add_left _ _ | exact Nat.le_add_right _ _)) rfl trivial (da_cons (e_ix kl (de_var (i := 0)) (de_var (i := 2))) (da_cons (e_ix kl (de_var (i := 1)) (de_var (i := 2))) da_nil))))⟩) da_nil))))))
    dss_nil)
    (dss_cons (ds_if (dt_w (dw_or (dt_cmp (r := rNeD K) (op_neD (room_eq hr)) neD_ok (e_isi kl (T := .bool) rfl C.fr_isinstance rfl C.fr_bool (by decide +kernel) (de_var (i := 0))) (e_isi kl (T := .bool) rfl C.fr_isinstance rfl C.fr_bool (by decide +kernel) (de_var (i := 1))) rfl) (dw_or1 (dt_cmp (r := rNeD K) (op_neD (room_eq hr)) neD_ok (e_isi kl (T := .int) rfl C.fr_isinstance rfl C.fr_int (by decide +kernel) (de_var (i := 0))) (e_isi kl (T := .int) rfl C.fr_isinstance rfl C.fr_int (by decide +kernel) (de_var (i := 1))) rfl))))
    (dss_one (ds_ret de_bl))
    dss_nil)
    (dss_one (ds_ret (de_and (de_cmp (r := rEqD K) (op_eqD (room_eq hr)) eqD_ok (e_isi kl (T := .str) rfl C.fr_isinstance rfl C.fr_str (by decide +kernel) (de_var (i := 0))) (e_isi kl (T := .str) rfl C.fr_isinstance rfl C.fr_str (by decide +kernel) (de_var (i := 1))) rfl) (de_one (de_cmp (r := rEqD K) (op_eqD (room_eq hr)) eqD_ok (de_var (i := 0)) (de_var (i := 1)) rfl)))))))⟩
  exact ⟨_, fd, C.at_law_alike, F.kp, bd, main n⟩
theorem fn_law_alike (C : Cl K mg) : ∃ f fd, Def P w K mg base 20 "_law_alike" ["found", "due"] 99 f_law_alike f fd := fnr_law_alike C 20
theorem sc_law_k41 : FnScope ["script", "bag", "turn", "told", "due", "many", "days_here", "k", "most", "before", "line", "kept", "number"] ["script"] (defScope (tpS 32)) := ⟨rfl, rfl, rfl, by decide +kernel, rfl, by decide +kernel, by decide +kernel⟩
theorem law_ok (C : Cl K mg) {fd : FuncData} (F : FunD K d32.name d32.qual d32.params d32.body d32.scope (d32.dvs K) (d32.kws K) (He.fAd K d32.at_) fd) (base : Heap) : FnG P w K mg base 21 (He.ga K "law") fd ["script"] 99 f_law_k41 := by
  obtain ⟨_, _, D_law_bag⟩ := fn_law_bag (P := P) (w := w) (base := base) C
  obtain ⟨_, _, D_law_draw⟩ := fn_law_draw (P := P) (w := w) (base := base) C
  obtain ⟨_, _, D_law_days_k41⟩ := fn_law_days_k41 (P := P) (w := w) (base := base) C
  obtain ⟨_, _, D_law_ring⟩ := fn_law_ring (P := P) (w := w) (base := base) C
  obtain ⟨_, _, D_ring_sums, B_ring_sums⟩ := fn_ring_sums (P := P) (w := w) (base := base) C
  obtain ⟨_, _, D_law_alike⟩ := fn_law_alike (P := P) (w := w) (base := base) C
  obtain ⟨_, _, D_law_told⟩ := fn_law_told (P := P) (w := w) (base := base) C
  obtain ⟨_, _, D_law_shared⟩ := fn_law_shared (P := P) (w := w) (base := base) C
  obtain ⟨_, _, D_ring_line, B_ring_line⟩ := fn_ring_line (P := P) (w := w) (base := base) C
  have nd := (sc_law_k41).nd
  exact fnG_of F sc_law_k41 fun cd A outer s H E hr => ⟨_, (dss_cons (ds_setC rfl (i := 1) nd rfl (.inr rfl) (de_call D_law_bag (hr.mono (by decide)) rfl tk_of (da_cons (de_var (i := 0)) da_nil)))
    (dss_cons (ds_for po_of rfl (di_rng1 rfl C.fr_range (da_cons de_int da_nil)) (dg_name (i := 2) nd rfl (.inl rfl))
    (dss_cons (ds_set (i := 5) nd rfl (.inl rfl) (e_ix kl (de_lst (da_cons (de_op op_addD addD_ok de_int (de_call D_law_draw (hr.mono (by decide)) rfl tk_of (da_cons (de_vc (i := 1)) (da_cons de_int da_nil)))) (da_cons (de_op op_addD addD_ok de_int (de_call D_law_draw (hr.mono (by decide)) rfl tk_of (da_cons (de_vc (i := 1)) (da_cons de_int da_nil)))) da_nil))) (de_call D_law_draw (hr.mono (by decide)) rfl tk_of (da_cons (de_vc (i := 1)) (da_cons de_int da_nil)))))
    (dss_cons (ds_asg (de_tup (da_cons (de_op op_addD addD_ok de_int (de_call D_law_draw (hr.mono (by decide)) rfl tk_of (da_cons (de_vc (i := 1)) (da_cons (de_callB (r := _) (call_min2 rfl) min2D_ok rfl C.fr_min (by decide +kernel) (da_cons de_int (da_cons (de_var (i := 5)) da_nil))) da_nil)))) (da_cons (e_ix kl (de_lst (da_cons de_int (da_cons de_int (da_cons (de_op op_powW powD_ok de_int de_int) da_nil)))) (de_call D_law_draw (hr.mono (by decide)) rfl tk_of (da_cons (de_vc (i := 1)) (da_cons de_int da_nil)))) da_nil))) (g_tup (K := K) rfl (dgs_cons (dg_name (i := 7) nd rfl (.inl rfl)) (dgs_cons (dg_name (i := 8) nd rfl (.inr rfl)) dgs_nil))))
    (dss_cons (ds_setLc (own := [("number", 12)]) (i := 6) rfl nd rfl rfl (sw_true rfl rfl rfl rfl) (i_seq (K := K) (de_call D_law_days_k41 (hr.mono (by decide)) rfl tk_of (da_cons (de_vc (i := 1)) (da_cons (de_var (i := 5)) (da_cons (de_var (i := 8)) da_nil))))) (by show blkC ["script", "bag", "turn", "told", "due", "many", "days_here", "k", "most", "before", "line", "kept", "number"] (defScope (tpS 32)) _ _ = true; decide +kernel) ⟨fun _ _ _ _ _ => (dg_name (i := 12) nd rfl (.inl rfl)), (gw_name (by decide)), fun _ _ _ _ _ => ⟨pts_nil, evb_yes⟩, fun _ _ _ _ _ => (by exact (de_op op_sub subD_ok (de_var (i := 12)) (de_op op_fdivW fdivD_ok (de_op op_mulD mulD_ok (de_call D_law_draw (hr.mono (by decide)) rfl trivial (da_cons (de_vc (i := 1)) (da_cons de_int da_nil))) (de_var (i := 8))) de_int)))⟩)
    (dss_cons (ds_par2F (i := 9) (j := 4) rfl nd rfl rfl (by decide) rfl rfl (da_cons (de_callTy (r := rListD K) call_listD' listD_ok' rfl C.fr_list (by decide +kernel) (da_cons (de_var (i := 6)) da_nil)) (da_cons (de_call D_law_ring (hr.mono (by decide)) rfl tk_of (da_cons (de_var (i := 6)) (da_cons (de_var (i := 7)) da_nil))) da_nil)))
    (dss_cons (ds_setC rfl (i := 3) nd rfl (.inl rfl) (de_callK D_ring_sums B_ring_sums (hr.mono (by decide)) rfl tk_of (dk_cons (de_var (i := 7)) (dk_cons (de_var (i := 6)) dk_nil))))
    (dss_cons (ds_if (dt_w (dw_or (dt_not (dt_truK (K := K) (de_call D_law_alike (hr.mono (by decide)) rfl tk_of (da_cons (de_vc (i := 3)) (da_cons (de_var (i := 4)) da_nil))))) (dw_or1 (dt_cmp (r := rNeD K) (op_neD (room_eq hr)) neD_ok (de_var (i := 6)) (de_var (i := 9)) rfl))))
    (dss_one (ds_ret de_bl))
    dss_nil)
    (dss_cons (ds_expr (k_append (K := K) (i := 3) rfl p_var de_int))
    (dss_cons (ds_if (dt_cmp (r := rNeD K) (op_neD (room_eq hr)) neD_ok (de_call D_ring_sums (hr.mono (by decide)) rfl tk_of (da_cons (de_var (i := 6)) (da_cons (de_var (i := 7)) da_nil))) (de_var (i := 4)) rfl)
    (dss_one (ds_ret de_bl))
    dss_nil)
    (dss_cons (ds_par2F (i := 10) (j := 11) rfl nd rfl rfl (by decide) rfl rfl (da_cons (de_call D_law_told (hr.mono (by decide)) rfl tk_of (da_cons (de_var (i := 6)) (da_cons (de_call D_law_shared (hr.mono (by decide)) rfl tk_of (da_cons (de_var (i := 5)) (da_cons (de_var (i := 7)) da_nil))) da_nil))) (da_cons (de_callTy (r := rListD K) call_listD' listD_ok' rfl C.fr_list (by decide +kernel) (da_cons (de_var (i := 4)) da_nil)) da_nil)))
    (dss_cons (ds_setC rfl (i := 3) nd rfl (.inl rfl) (de_callK D_ring_line B_ring_line (hr.mono (by decide)) rfl tk_of (dk_cons (de_var (i := 7)) (dk_cons (de_var (i := 4)) dk_nil))))
    (dss_cons (ds_if (dt_w (dw_or (dt_not (dt_truK (K := K) (de_call D_law_alike (hr.mono (by decide)) rfl tk_of (da_cons (de_vc (i := 3)) (da_cons (de_var (i := 10)) da_nil))))) (dw_or1 (dt_cmp (r := rNeD K) (op_neD (room_eq hr)) neD_ok (de_var (i := 4)) (de_var (i := 11)) rfl))))
    (dss_one (ds_ret de_bl))
    dss_nil)
    (dss_cons (ds_expr (k_append (K := K) (i := 3) rfl p_var de_int))
    (dss_one (ds_if (dt_cmp (r := rNeD K) (op_neD (room_eq hr)) neD_ok (de_call D_ring_line (hr.mono (by decide)) rfl tk_of (da_cons (de_var (i := 4)) (da_cons (de_var (i := 7)) da_nil))) (de_var (i := 10)) rfl)
    (dss_one (ds_ret de_bl))
    dss_nil)))))))))))))))
    (dss_cons (ds_setC rfl (i := 3) nd rfl (.inl rfl) (de_lst (da_cons (de_call D_ring_line (hr.mono (by decide)) rfl tk_of (da_cons (de_lst (da_cons de_int (da_cons de_int (da_cons de_int (da_cons de_int da_nil))))) (da_cons de_int da_nil))) (da_cons (de_call D_ring_line (hr.mono (by decide)) rfl tk_of (da_cons (de_lst (da_cons de_int (da_cons de_int (da_cons de_int (da_cons de_int (da_cons de_int da_nil)))))) (da_cons de_int da_nil))) (da_cons (de_call D_ring_sums (hr.mono (by decide)) rfl tk_of (da_cons (de_lst (da_cons de_int (da_cons de_int (da_cons de_int (da_cons de_int (da_cons de_int da_nil)))))) (da_cons de_int da_nil))) da_nil)))))
    (dss_cons (ds_setC rfl (i := 3) nd rfl (.inl rfl) (de_op op_addD addD_ok (de_vc (i := 3)) (de_lst (da_cons (de_call D_ring_line (hr.mono (by decide)) rfl tk_of (da_cons (de_lst (da_cons de_int da_nil)) (da_cons de_int da_nil))) (da_cons (de_call D_ring_line (hr.mono (by decide)) rfl tk_of (da_cons (de_lst (da_cons de_int (da_cons de_int (da_cons de_int da_nil)))) (da_cons de_int da_nil))) (da_cons (de_call D_ring_line (hr.mono (by decide)) rfl tk_of (da_cons (de_call D_ring_sums (hr.mono (by decide)) rfl tk_of (da_cons (de_op op_mulD mulD_ok (de_lst (da_cons (de_op op_sub subD_ok (de_op op_powW powD_ok de_int de_int) de_int) da_nil)) de_int) (da_cons de_int da_nil))) (da_cons de_int da_nil))) da_nil))))))
    (dss_cons (ds_set (i := 4) nd rfl (.inl rfl) (de_lst (da_cons (de_lst (da_cons de_int (da_cons de_int (da_cons de_int da_nil)))) (da_cons (de_lst (da_cons de_int (da_cons de_int (da_cons de_int (da_cons de_int (da_cons de_int da_nil)))))) (da_cons (de_lst (da_cons de_int (da_cons de_int (da_cons de_int (da_cons de_int (da_cons de_int da_nil)))))) (da_cons (de_lst (da_cons de_int da_nil)) (da_cons (de_lst (da_cons de_int da_nil)) (da_cons (de_op op_mulD mulD_ok (de_lst (da_cons (de_op op_sub subD_ok (de_op op_powW powD_ok de_int de_int) de_int) da_nil)) de_int) da_nil))))))))
    (dss_cons (ds_if (dt_not (dt_truK (K := K) (de_call D_law_alike (hr.mono (by decide)) rfl tk_of (da_cons (de_vc (i := 3)) (da_cons (de_var (i := 4)) da_nil)))))
    (dss_one (ds_ret de_bl))
    dss_nil)
    (dss_one (ds_ret (de_call D_law_alike (hr.mono (by decide)) rfl tk_of (da_cons (de_call D_ring_line (hr.mono (by decide)) rfl tk_of (da_cons (de_call D_ring_sums (hr.mono (by decide)) rfl tk_of (da_cons (de_op op_mulD mulD_ok (de_lst (da_cons (de_op op_sub subD_ok de_int (de_op op_powW powD_ok de_int de_int)) da_nil)) de_int) (da_cons de_int da_nil))) (da_cons de_int da_nil))) (da_cons (de_op op_mulD mulD_ok (de_lst (da_cons (de_op op_sub subD_ok de_int (de_op op_mulD mulD_ok de_int (de_op op_powW powD_ok de_int de_int))) da_nil)) de_int) da_nil)))))))))))⟩
end
abbrev R : PySem.W.OpenRow := PySem.W.OpenLaw.row PySem.Challenge.rw_weeksums_k41_rings_in_a_row
abbrev hk : PySem.W.Hook := He.hookD 4 fa fn
def ob (s : PySem.W.SharedT) : He.AlD := He.obsDG 4 fa fn (HandSHeadRun.getT s)
theorem ob_eq (s : PySem.W.SharedT) : ob s = hk.obs s.abs := He.obsDG_eq (HandSHeadRun.getT_eq s)
theorem run (w : World) : HandSHeadRun.RunEq R (PySem.W.view R.prog [32]) hk ob 20000 ((["__name__", "SumError", "InvalidSums", "InvalidNumbers", "InvalidLength", "Disagree", "MOST_LENGTH", "is_integer", "are_integers", "MOST_RING", "need_ring_length", "is_ring_list", "need_ring", "ring_sums", "ring_class", "class_steps", "ring_share", "ring_story", "ring_line", "_law_bag", "_law_stirred", "_law_draw", "_law_alike", "_law_told", "_law_days", "_law_shared", "_law_ways", "_law_ring", "_law_open"] : List Str)) w := by
  intro os
  kernel_rfl
theorem cl_of {K : PySem.W.Frag} {h : Heap} {mg : Str → Option Value} (X : K.In h) (G : h.Ns mainGlobals mg) (c : He.SaysD fa fn K) : Cl K mg where
  says := c
  at_is_integer := He.glo_ok X G (c.fact 0 (f := .glo "is_integer") rfl)
  at_are_integers := He.glo_ok X G (c.fact 1 (f := .glo "are_integers") rfl)
  at_need_ring_length := He.glo_ok X G (c.fact 2 (f := .glo "need_ring_length") rfl)
  at_is_ring_list := He.glo_ok X G (c.fact 3 (f := .glo "is_ring_list") rfl)
  at_need_ring := He.glo_ok X G (c.fact 4 (f := .glo "need_ring") rfl)
  at_ring_sums := He.glo_ok X G (c.fact 5 (f := .glo "ring_sums") rfl)
  at_ring_class := He.glo_ok X G (c.fact 6 (f := .glo "ring_class") rfl)
  at_class_steps := He.glo_ok X G (c.fact 7 (f := .glo "class_steps") rfl)
  at_ring_share := He.glo_ok X G (c.fact 8 (f := .glo "ring_share") rfl)
  at_ring_story := He.glo_ok X G (c.fact 9 (f := .glo "ring_story") rfl)
  at_ring_line := He.glo_ok X G (c.fact 10 (f := .glo "ring_line") rfl)
  at_law_bag := He.glo_ok X G (c.fact 11 (f := .glo "_law_bag") rfl)
  at_law_stirred := He.glo_ok X G (c.fact 12 (f := .glo "_law_stirred") rfl)
  at_law_draw := He.glo_ok X G (c.fact 13 (f := .glo "_law_draw") rfl)
  at_law_alike := He.glo_ok X G (c.fact 14 (f := .glo "_law_alike") rfl)
  at_law_told := He.glo_ok X G (c.fact 15 (f := .glo "_law_told") rfl)
  at_law_days_k41 := He.glo_ok X G (c.fact 16 (f := .glo "_law_days") rfl)
  at_law_shared := He.glo_ok X G (c.fact 17 (f := .glo "_law_shared") rfl)
  at_law_ways_k41 := He.glo_ok X G (c.fact 18 (f := .glo "_law_ways") rfl)
  at_law_ring := He.glo_ok X G (c.fact 19 (f := .glo "_law_ring") rfl)
  at_law_open := He.glo_ok X G (c.fact 20 (f := .glo "_law_open") rfl)
  at_law_k41 := He.glo_ok X G (c.fact 21 (f := .glo "law") rfl)
  fr_abs := He.free_ok X G (c.fact 22 (f := .free "abs") rfl)
  fr_all := He.free_ok X G (c.fact 23 (f := .free "all") rfl)
  fr_bool := He.free_ok X G (c.fact 24 (f := .free "bool") rfl)
  fr_int := He.free_ok X G (c.fact 25 (f := .free "int") rfl)
  fr_isinstance := He.free_ok X G (c.fact 26 (f := .free "isinstance") rfl)
  fr_len := He.free_ok X G (c.fact 27 (f := .free "len") rfl)
  fr_list := He.free_ok X G (c.fact 28 (f := .free "list") rfl)
  fr_max := He.free_ok X G (c.fact 29 (f := .free "max") rfl)
  fr_min := He.free_ok X G (c.fact 30 (f := .free "min") rfl)
  fr_range := He.free_ok X G (c.fact 31 (f := .free "range") rfl)
  fr_str := He.free_ok X G (c.fact 32 (f := .free "str") rfl)
  fr_sum := He.free_ok X G (c.fact 33 (f := .free "sum") rfl)
  fr_tuple := He.free_ok X G (c.fact 34 (f := .free "tuple") rfl)
  fr_zip := He.free_ok X G (c.fact 35 (f := .free "zip") rfl)
  gi_MOST_LENGTH := He.int_ok X G (c.fact 36 (f := .int "MOST_LENGTH" 8) rfl)
  gi_MOST_RING := He.int_ok X G (c.fact 37 (f := .int "MOST_RING" 60) rfl)
end G

open PySem PySem.W PySem.Calls PyProof.Rows
theorem PySem.Challenge.cw_weeksums_k41_rings_in_a_row_holds : PySem.Challenge.rw_weeksums_k41_rings_in_a_row.Holds := by
  w_on; o_law
  refine HandSHeadRun.head_any (r := OpenLaw.row PySem.Challenge.rw_weeksums_k41_rings_in_a_row) (q := view (OpenLaw.row PySem.Challenge.rw_weeksums_k41_rings_in_a_row).prog [32]) (H := G.hk) (ob := G.ob) (M := 20000) (loose := (["__name__", "SumError", "InvalidSums", "InvalidNumbers", "InvalidLength", "Disagree", "MOST_LENGTH", "is_integer", "are_integers", "MOST_RING", "need_ring_length", "is_ring_list", "need_ring", "ring_sums", "ring_class", "class_steps", "ring_share", "ring_story", "ring_line", "_law_bag", "_law_stirred", "_law_draw", "_law_alike", "_law_told", "_law_days", "_law_shared", "_law_ways", "_law_ring", "_law_open"] : List Str)) (d := HandSHeadRun.topDef (OpenLaw.row PySem.Challenge.rw_weeksums_k41_rings_in_a_row).prog 32) (kwd := []) G.ob_eq
    (by kernel_rfl) (fun s => by kernel_rfl) G.run (by kernel_rfl) (by kernel_rfl) (by kernel_rfl) (by rfl) (by first | assumption | decide +kernel) (by decide +kernel) ⟨rfl, rfl, rfl, rfl, rfl, by decide +kernel⟩ ?hw ?hc
  case hw => w_witness2
  case hc =>
    refine DL.walk_ofG (l := PySem.Challenge.rw_weeksums_k41_rings_in_a_row) (n := 63) (k := 21) (x := "script") (fD := G.f_law_k41) rfl (by decide) (by kernel_rfl) ⟨rfl, by decide, by decide⟩ ?F G.plain_law_k41
    intro w mg fa h Y G0 hmg0
    obtain ⟨K, KX, c⟩ := Y
    have hmg : mg ("law" : PySem.Str) = some (.ref fa) := by
      have e : (HandSHeadRun.topDef (OpenLaw.row PySem.Challenge.rw_weeksums_k41_rings_in_a_row).prog 32).name = ("law" : PySem.Str) := by kernel_rfl
      rw [← e]
      exact hmg0
    have e := hmg.symm.trans (He.glo_ok KX G0 (c.fact 21 (f := .glo "law") rfl))
    cases e
    obtain ⟨fd, F⟩ := c.def_ 21 (d := G.d32) rfl
    have b := L2.FunD.bindsA (ps := ["script"]) F fun _ _ _ _ _ _ us hl => match us, hl with | [_], _ => rfl
    refine ⟨K, fd, fun _ => none, KX, fun s v => b s [v] rfl, (fun _ _ q => nomatch q), fun kl klo hkl base inb nsb => ?_⟩
    exact G.law_ok (G.cl_of KX G0 c) F base
