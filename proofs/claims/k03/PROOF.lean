import PyProof.Rows.All
import Wide.All
import OpenK.AllK
import Wide.FinOn
import HandS.ForMost
import HandS.ForExc
import HandS.DictComp
import HandS.ExcInit
import HandS.Lambda
import HandS.IsInst
import HandS.Deep
import HandS.Style
import HandS.More
import HandS.ListItems
import KE.DatumOrd
import HandS.Conv
import PyProof.Rows.TupMore
import HandS.ExcOwn
import HandS.OwnIter
import OpenK.KOps
import HandS.WordsExc
import HandS.ExcField
import HandS.TryMany
import KE.KDictList
import PyProof.ReprRoads
import PyProof.RowDictHeap
import HandS.Zip
import HandS.EndTab
import HandS.ExcIs
import PySem.Challenge.RW_hearths_k03_whole_woods_and_spread
set_option Elab.async false
set_option linter.all false
set_option maxRecDepth 100000
set_option maxHeartbeats 4000000
/-! DLa: data trees without a heap (D), what a value stands for (Rep), what a name owns (Own), the state of a def's names (SI). -/
namespace DL
open PySem PySem.Spec PyProof.Rows L2

abbrev St := L2.St
inductive D where
  | non | bl (b : Bool) | int (i : Int) | str (x : Str)
  | lst (xs : List D) | tup (xs : List D) | dic (kvs : List (Key × D)) | ins (C : Addr) (fs : List (Str × D))
  | spr (n : Nat) | opq (v : V)
  /-- a thing that is known to be the very object w -/
  | tag (w : V) (d : D)
  /-- the script: a list that is locked, or one of the module's own -/
  | scr (K : PySem.W.Frag) (is : List Int)

/-- F: the addresses of what never changes any more -/
abbrev Fz := Addr → Prop

/-- a list that never changes -/
def ScrAt (F : Fz) (H : Hp) (K : PySem.W.Frag) (a : Addr) (xs : List V) : Prop :=
  (F a ∧ ∃ o, H a = some (.frz o (.lst xs))) ∨ ∃ (o : Obj) (its : Array Value) (n : Nat), K.lookup a = some o ∧ o.cls = .type "list" ∧ o.dict = none ∧ o.data = .seq its n ∧ its.size ≤ sizeLine ∧ Vals xs its.toList
theorem ScrAt.sql {F : Fz} {H : Hp} {K : PySem.W.Frag} {a : Addr} {xs : List V} (h : ScrAt F H K a xs) : SqL K H a xs := by
  rcases h with ⟨_, o, h⟩ | h
  · exact .inl (.inr ⟨o, h⟩)
  · exact .inr h
mutual
def Rep (F : Fz) (H : Hp) : D → V → Prop
  | .non, v => v = .non
  | .bl b, v => v = .bl b
  | .int i, v => v = .int i
  | .str x, v => v = .str x
  | .opq w, v => v = w
  | .tag w d, v => v = w ∧ Rep F H d v
  | .spr _, v => ∃ a, v = .ref a
  | .scr K is, v => ∃ a, v = .ref a ∧ ScrAt F H K a (is.map V.int)
  | .lst ds, v => ∃ a vs, v = .ref a ∧ F a ∧ H a = some (.lst vs) ∧ RepL F H ds vs
  | .tup ds, v => ∃ a vs, v = .ref a ∧ F a ∧ H a = some (.tup vs) ∧ RepL F H ds vs
  | .dic kvs, v => ∃ a ws, v = .ref a ∧ F a ∧ Rd H a (.dK ws) ∧ RepK F H kvs ws
  | .ins C fs, v => ∃ a dx ws, v = .ref a ∧ F a ∧ H a = some (.ins C dx ws) ∧ RepS F H fs ws
def RepL (F : Fz) (H : Hp) : List D → List V → Prop
  | [], vs => vs = []
  | d :: ds, vs => ∃ v r, vs = v :: r ∧ Rep F H d v ∧ RepL F H ds r
def RepK (F : Fz) (H : Hp) : List (Key × D) → List (Key × V) → Prop
  | [], ws => ws = []
  | p :: r, ws => ∃ q s, ws = q :: s ∧ RepP F H p q ∧ RepK F H r s
def RepP (F : Fz) (H : Hp) : Key × D → Key × V → Prop
  | (k, d), q => q.1 = k ∧ Rep F H d q.2
def RepS (F : Fz) (H : Hp) : List (Str × D) → List (Str × V) → Prop
  | [], ws => ws = []
  | p :: r, ws => ∃ q s, ws = q :: s ∧ RepQ F H p q ∧ RepS F H r s
def RepQ (F : Fz) (H : Hp) : Str × D → Str × V → Prop
  | (k, d), q => q.1 = k ∧ Rep F H d q.2
end

/-- a node that never changes any more may be locked -/
def Kp (x y : Option HO) : Prop := y = x ∨ (∃ o ws, x = some (.dK ws) ∧ y = some (.frz o (.dK ws))) ∨ ∃ ps more, x = some (.tbl ps) ∧ y = some (.tbl (ps ++ more))
theorem Kp.refl (x : Option HO) : Kp x x := .inl rfl
theorem Kp.of {x y : Option HO} (e : y = x) : Kp x y := .inl e
theorem Kp.trans {x y z : Option HO} (a : Kp x y) (b : Kp y z) : Kp x z := by
  rcases b with e | ⟨o, ws, e1, e2⟩ | ⟨ps, more, e1, e2⟩
  · rw [e]; exact a
  · rcases a with e | ⟨o', ws', e3, e4⟩ | ⟨ps', more', e3, e4⟩
    · exact .inr (.inl ⟨o, ws, e ▸ e1, e2⟩)
    · rw [e4] at e1; cases e1
    · rw [e4] at e1; cases e1
  · rcases a with e | ⟨o', ws', e3, e4⟩ | ⟨ps', more', e3, e4⟩
    · exact .inr (.inr ⟨ps, more, e ▸ e1, e2⟩)
    · rw [e4] at e1; cases e1
    · rw [e4] at e1
      cases e1
      exact .inr (.inr ⟨ps', more' ++ more, e3, by rw [e2, Array.append_assoc]⟩)
theorem Kp.keep {x y : Option HO} {o : HO} (a : Kp x y) (e : x = some o) (n : ∀ ws, o ≠ .dK ws) (m : ∀ ps, o ≠ .tbl ps := by intro _ z; cases z) : y = some o := by
  rcases a with q | ⟨o', ws, e1, e2⟩ | ⟨ps, more, e1, e2⟩
  · rw [q, e]
  · rw [e] at e1; cases e1; exact absurd rfl (n ws)
  · rw [e] at e1; cases e1; exact absurd rfl (m ps)
theorem Kp.some {x y : Option HO} (a : Kp x y) (e : x ≠ none) : y ≠ none := by
  rcases a with q | ⟨o', ws, e1, e2⟩ | ⟨ps, more, e1, e2⟩
  · rw [q]; exact e
  · rw [e2]; simp
  · rw [e2]; simp
/-- the tables of code objects that lambdas are made by, and the names that their codes bear -/
class LamT where
  L : List (Addr × Str)
/-- a table: frozen but that it grows; each code object that it tells is frozen and bears the name -/
def TabP (F : Fz) (H : Hp) (p : Addr × Str) : Prop := F p.1 ∧ ∃ ps : Array Value, H p.1 = some (.tbl ps) ∧ TriplesOk ps.toList ∧ ∀ (pos : Pos) (cv : Value), codeAmong pos ps.toList = some cv → ∃ c, cv = .ref c ∧ F c ∧ H c = some (LamX.CodeO c p.2)
theorem TabP.tabs {F : Fz} {H : Hp} {p : Addr × Str} (t : TabP F H p) : LamX.TabS H p.1 p.2 := by
  obtain ⟨_, ps, h1, h2, h3⟩ := t
  exact ⟨ps, h1, h2, fun pos cv hc => by
    obtain ⟨c, e1, _, e2⟩ := h3 pos cv hc
    exact ⟨c, e1, e2⟩⟩
theorem TabP.of {F F' : Fz} {H H' : Hp} {p : Addr × Str} (t : TabP F H p) (up : ∀ a, F a → F' a) (kp : ∀ a, F a → H' a = H a) : TabP F' H' p := by
  obtain ⟨f, ps, h1, h2, h3⟩ := t
  exact ⟨up _ f, ps, (kp _ f).trans h1, h2, fun pos cv hc => by
    obtain ⟨c, e1, e2, e3⟩ := h3 pos cv hc
    exact ⟨c, e1, up _ e2, (kp _ e2).trans e3⟩⟩
/-- .. where dicts may be locked -/
theorem TabP.lock {F F' : Fz} {H H' : Hp} {p : Addr × Str} (t : TabP F H p) (up : ∀ a, F a → F' a) (kp : ∀ a o, F a → H a = some o → (∀ ws, o ≠ .dK ws) → H' a = some o) : TabP F' H' p := by
  obtain ⟨f, ps, h1, h2, h3⟩ := t
  exact ⟨up _ f, ps, kp _ _ f h1 (fun _ z => nomatch z), h2, fun pos cv hc => by
    obtain ⟨c, e1, e2, e3⟩ := h3 pos cv hc
    exact ⟨c, e1, up _ e2, kp _ _ e2 e3 (fun _ z => nomatch z)⟩⟩
variable [LamT]
/-- from one heap to a later one: what never changes is as it was, but that a dict may be locked -/
structure Ext (F : Fz) (H : Hp) (F' : Fz) (H' : Hp) : Prop where
  up : ∀ a, F a → F' a
  kp : ∀ a, F a → Kp (H a) (H' a)
  tb : ∀ p ∈ LamT.L, TabP F H p → TabP F' H' p
theorem Ext.of {F F' : Fz} {H H' : Hp} (up : ∀ a, F a → F' a) (kp : ∀ a, F a → H' a = H a) : Ext F H F' H' := ⟨up, fun a h => .inl (kp a h), fun _ _ t => t.of up kp⟩
theorem Ext.refl (F : Fz) (H : Hp) : Ext F H F H := ⟨fun _ h => h, fun _ _ => .inl rfl, fun _ _ t => t⟩
theorem Ext.trans {F F1 F2 : Fz} {H H1 H2 : Hp} (x : Ext F H F1 H1) (y : Ext F1 H1 F2 H2) : Ext F H F2 H2 :=
  ⟨fun a h => y.up a (x.up a h), fun a h => (x.kp a h).trans (y.kp a (x.up a h)), fun p h t => y.tb p h (x.tb p h t)⟩

theorem rd_eq {H H' : Hp} {a : Addr} {ws : List (Key × V)} (e : Kp (H a) (H' a)) (r : Rd H a (.dK ws)) : Rd H' a (.dK ws) := by
  rcases e with e | ⟨o, vs, e1, e2⟩ | ⟨ps, more, e1, e2⟩
  · rcases r with r | ⟨o, r⟩
    · exact .inl (e.trans r)
    · exact .inr ⟨o, e.trans r⟩
  · rcases r with r | ⟨o', r⟩
    · rw [r] at e1; cases e1; exact .inr ⟨o, e2⟩
    · rw [r] at e1; cases e1
  · rcases r with r | ⟨o', r⟩
    · rw [r] at e1; cases e1
    · rw [r] at e1; cases e1

section
variable {F F' : Fz} {H H' : Hp}
mutual
theorem Rep.ext (x : Ext F H F' H') : ∀ (d : D) (v : V), Rep F H d v → Rep F' H' d v
  | .non, _, h => h
  | .bl _, _, h => h
  | .int _, _, h => h
  | .str _, _, h => h
  | .opq _, _, h => h
  | .tag _ d, v, h => ⟨h.1, Rep.ext x d v h.2⟩
  | .spr _, _, h => h
  | .scr K is, _, h => by
    obtain ⟨a, e, h⟩ := h
    refine ⟨a, e, ?_⟩
    rcases h with ⟨f, o, h⟩ | h
    · exact .inl ⟨x.up a f, o, (x.kp a f).keep h (fun _ z => nomatch z)⟩
    · exact .inr h
  | .lst ds, v, h => by
    obtain ⟨a, vs, e, f, h1, h2⟩ := h
    exact ⟨a, vs, e, x.up a f, (x.kp a f).keep h1 (fun _ z => nomatch z), RepL.ext x ds vs h2⟩
  | .tup ds, v, h => by
    obtain ⟨a, vs, e, f, h1, h2⟩ := h
    exact ⟨a, vs, e, x.up a f, (x.kp a f).keep h1 (fun _ z => nomatch z), RepL.ext x ds vs h2⟩
  | .dic kvs, v, h => by
    obtain ⟨a, vs, e, f, h1, h2⟩ := h
    exact ⟨a, vs, e, x.up a f, rd_eq (x.kp a f) h1, RepK.ext x kvs vs h2⟩
  | .ins C fs, v, h => by
    obtain ⟨a, dx, vs, e, f, h1, h2⟩ := h
    exact ⟨a, dx, vs, e, x.up a f, (x.kp a f).keep h1 (fun _ z => nomatch z), RepS.ext x fs vs h2⟩
theorem RepL.ext (x : Ext F H F' H') : ∀ (ds : List D) (vs : List V), RepL F H ds vs → RepL F' H' ds vs
  | [], _, h => h
  | d :: ds, _, h => by
    obtain ⟨v, r, e, h1, h2⟩ := h
    exact ⟨v, r, e, Rep.ext x d v h1, RepL.ext x ds r h2⟩
theorem RepK.ext (x : Ext F H F' H') : ∀ (ds : List (Key × D)) (vs : List (Key × V)), RepK F H ds vs → RepK F' H' ds vs
  | [], _, h => h
  | p :: ds, _, h => by
    obtain ⟨v, r, e, h1, h2⟩ := h
    exact ⟨v, r, e, RepP.ext x p v h1, RepK.ext x ds r h2⟩
theorem RepP.ext (x : Ext F H F' H') : ∀ (p : Key × D) (q : Key × V), RepP F H p q → RepP F' H' p q
  | (k, d), q, h => ⟨h.1, Rep.ext x d q.2 h.2⟩
theorem RepS.ext (x : Ext F H F' H') : ∀ (ds : List (Str × D)) (vs : List (Str × V)), RepS F H ds vs → RepS F' H' ds vs
  | [], _, h => h
  | p :: ds, _, h => by
    obtain ⟨v, r, e, h1, h2⟩ := h
    exact ⟨v, r, e, RepQ.ext x p v h1, RepS.ext x ds r h2⟩
theorem RepQ.ext (x : Ext F H F' H') : ∀ (p : Str × D) (q : Str × V), RepQ F H p q → RepQ F' H' p q
  | (k, d), q, h => ⟨h.1, Rep.ext x d q.2 h.2⟩
end
end

/-! ### lists of things, related place by place -/
def OwnL (P : D → V → List Addr → Prop) : List D → List V → List Addr → Prop
  | [], vs, l => vs = [] ∧ l = []
  | d :: ds, vs, l => ∃ v r l1 l2, vs = v :: r ∧ l = l1 ++ l2 ∧ P d v l1 ∧ OwnL P ds r l2
def OwnK {κ : Type} (P : D → V → List Addr → Prop) : List (κ × D) → List (κ × V) → List Addr → Prop
  | [], vs, l => vs = [] ∧ l = []
  | p :: ds, vs, l => ∃ v r l1 l2, vs = (p.1, v) :: r ∧ l = l1 ++ l2 ∧ P p.2 v l1 ∧ OwnK P ds r l2

/-- a bound that is never reckoned -/
@[irreducible] def bigB : Nat := 2 ^ 1100000
/-- the spring of draws, of which k more may be drawn: the cells left, the rest of a great one, how many were drawn, the mix -/
structure SprOk (k : Nat) (is : List Int) (i j r : Int) : Prop where
  cells : ∀ x ∈ is, x.natAbs < bigB
  few : is.length ≤ 63
  i0 : 0 ≤ i
  iB : i.natAbs < bigB
  j0 : 0 ≤ j
  jk : j + (k : Int) ≤ 2 ^ 40
  r0 : 0 ≤ r
  rB : r < 2147483647

/-- v stands for d; down to the depth n its objects are owned: l are their addresses -/
def Own (F : Fz) (H : Hp) : Nat → D → V → List Addr → Prop
  | 0, d, v, l => l = [] ∧ Rep F H d v
  | n + 1, .lst ds, v, l => ∃ a vs ls, v = .ref a ∧ H a = some (.lst vs) ∧ OwnL (Own F H n) ds vs ls ∧ l = a :: ls
  | n + 1, .dic kvs, v, l => ∃ a ws ls, v = .ref a ∧ H a = some (.dK ws) ∧ OwnK (Own F H n) kvs ws ls ∧ l = a :: ls
  | n + 1, .ins C fs, v, l => ∃ a dx ws ls, v = .ref a ∧ H a = some (.ins C dx ws) ∧ OwnK (Own F H n) fs ws ls ∧ l = a :: ls
  | _ + 1, .spr k, v, l => ∃ a b is i j r, v = .ref a ∧ H a = some (.lst [.ref b, .int i, .int j, .int r]) ∧ H b = some (.lst (is.map V.int)) ∧ SprOk k is i j r ∧ l = [a, b]
  | n + 1, .tag w d, v, l => v = w ∧ Own F H n d v l
  | _ + 1, d, v, l => l = [] ∧ Rep F H d v

theorem OwnL.imp {P P' : D → V → List Addr → Prop} : ∀ {ds : List D} {vs : List V} {l : List Addr}, OwnL P ds vs l → (∀ d v l', (∀ a ∈ l', a ∈ l) → P d v l' → P' d v l') → OwnL P' ds vs l
  | [], _, _, h, _ => h
  | d :: ds, _, _, h, f => by
    obtain ⟨v, r, l1, l2, e1, e2, h1, h2⟩ := h
    subst e2
    exact ⟨v, r, l1, l2, e1, rfl, f d v l1 (fun a m => List.mem_append_left _ m) h1, h2.imp fun d v l' hm p => f d v l' (fun a m => List.mem_append_right _ (hm a m)) p⟩
theorem OwnK.imp {κ : Type} {P P' : D → V → List Addr → Prop} : ∀ {ds : List (κ × D)} {vs : List (κ × V)} {l : List Addr}, OwnK P ds vs l → (∀ d v l', (∀ a ∈ l', a ∈ l) → P d v l' → P' d v l') → OwnK P' ds vs l
  | [], _, _, h, _ => h
  | d :: ds, _, _, h, f => by
    obtain ⟨v, r, l1, l2, e1, e2, h1, h2⟩ := h
    subst e2
    exact ⟨v, r, l1, l2, e1, rfl, f d.2 v l1 (fun a m => List.mem_append_left _ m) h1, h2.imp fun d v l' hm p => f d v l' (fun a m => List.mem_append_right _ (hm a m)) p⟩

section
variable {F F' : Fz} {H H' : Hp}
/-- owned things stay, where their objects do -/
theorem Own.ext (x : Ext F H F' H') : ∀ (n : Nat) (d : D) (v : V) (l : List Addr), Own F H n d v l → (∀ a ∈ l, H' a = H a) → Own F' H' n d v l
  | 0, d, v, l, h, _ => ⟨h.1, h.2.ext x⟩
  | n + 1, .lst ds, v, l, h, k => by
    obtain ⟨a, vs, ls, e, h1, h2, rfl⟩ := h
    exact ⟨a, vs, ls, e, (k a List.mem_cons_self).trans h1, h2.imp fun d v l' hm p => Own.ext x n d v l' p fun b hb => k b (List.mem_cons_of_mem _ (hm b hb)), rfl⟩
  | n + 1, .dic kvs, v, l, h, k => by
    obtain ⟨a, vs, ls, e, h1, h2, rfl⟩ := h
    exact ⟨a, vs, ls, e, (k a List.mem_cons_self).trans h1, h2.imp fun d v l' hm p => Own.ext x n d v l' p fun b hb => k b (List.mem_cons_of_mem _ (hm b hb)), rfl⟩
  | n + 1, .ins C fs, v, l, h, k => by
    obtain ⟨a, dx, vs, ls, e, h1, h2, rfl⟩ := h
    exact ⟨a, dx, vs, ls, e, (k a List.mem_cons_self).trans h1, h2.imp fun d v l' hm p => Own.ext x n d v l' p fun b hb => k b (List.mem_cons_of_mem _ (hm b hb)), rfl⟩
  | n + 1, .spr c, v, l, h, k => by
    obtain ⟨a, b, is, i, j, r, e, h1, h2, h3, rfl⟩ := h
    exact ⟨a, b, is, i, j, r, e, (k a (by simp)).trans h1, (k b (by simp)).trans h2, h3, rfl⟩
  | n + 1, .non, _, _, h, _ => ⟨h.1, h.2.ext x⟩
  | n + 1, .bl _, _, _, h, _ => ⟨h.1, h.2.ext x⟩
  | n + 1, .int _, _, _, h, _ => ⟨h.1, h.2.ext x⟩
  | n + 1, .str _, _, _, h, _ => ⟨h.1, h.2.ext x⟩
  | n + 1, .tup _, _, _, h, _ => ⟨h.1, h.2.ext x⟩
  | n + 1, .opq _, _, _, h, _ => ⟨h.1, h.2.ext x⟩
  | n + 1, .tag _ d, v, l, h, k => ⟨h.1, Own.ext x n d v l h.2 k⟩
  | n + 1, .scr _ _, _, _, h, _ => ⟨h.1, h.2.ext x⟩

theorem OwnL.rep : ∀ {ds : List D} {vs : List V} {l : List Addr}, OwnL (fun d v _ => Rep F H d v) ds vs l → RepL F H ds vs
  | [], _, _, h => h.1
  | d :: ds, _, _, h => by
    obtain ⟨v, r, l1, l2, e1, e2, h1, h2⟩ := h
    exact ⟨v, r, e1, h1, h2.rep⟩
theorem OwnK.repK : ∀ {ds : List (Key × D)} {vs : List (Key × V)} {l : List Addr}, OwnK (fun d v _ => Rep F H d v) ds vs l → RepK F H ds vs
  | [], _, _, h => h.1
  | d :: ds, _, _, h => by
    obtain ⟨v, r, l1, l2, e1, e2, h1, h2⟩ := h
    refine ⟨_, r, e1, ?_, h2.repK⟩
    cases d
    exact ⟨rfl, h1⟩
theorem OwnK.repS : ∀ {ds : List (Str × D)} {vs : List (Str × V)} {l : List Addr}, OwnK (fun d v _ => Rep F H d v) ds vs l → RepS F H ds vs
  | [], _, _, h => h.1
  | d :: ds, _, _, h => by
    obtain ⟨v, r, l1, l2, e1, e2, h1, h2⟩ := h
    refine ⟨_, r, e1, ?_, h2.repS⟩
    cases d
    exact ⟨rfl, h1⟩
/-- owned things are frozen -/
theorem Own.freeze (up : ∀ a, F a → F' a) : ∀ (n : Nat) (d : D) (v : V) (l : List Addr), Own F H n d v l → (∀ a ∈ l, F' a) → Rep F' H d v
  | 0, d, v, l, h, _ => h.2.ext (.of up fun _ _ => rfl)
  | n + 1, .lst ds, v, l, h, k => by
    obtain ⟨a, vs, ls, e, h1, h2, rfl⟩ := h
    exact ⟨a, vs, e, k a List.mem_cons_self, h1, OwnL.rep (h2.imp fun d v l' hm p => Own.freeze up n d v l' p fun b hb => k b (List.mem_cons_of_mem _ (hm b hb)))⟩
  | n + 1, .dic kvs, v, l, h, k => by
    obtain ⟨a, vs, ls, e, h1, h2, rfl⟩ := h
    exact ⟨a, vs, e, k a List.mem_cons_self, .inl h1, OwnK.repK (h2.imp fun d v l' hm p => Own.freeze up n d v l' p fun b hb => k b (List.mem_cons_of_mem _ (hm b hb)))⟩
  | n + 1, .ins C fs, v, l, h, k => by
    obtain ⟨a, dx, vs, ls, e, h1, h2, rfl⟩ := h
    exact ⟨a, dx, vs, e, k a List.mem_cons_self, h1, OwnK.repS (h2.imp fun d v l' hm p => Own.freeze up n d v l' p fun b hb => k b (List.mem_cons_of_mem _ (hm b hb)))⟩
  | n + 1, .spr c, v, l, h, k => by
    obtain ⟨a, b, is, i, j, r, e, h1, h2, h3, rfl⟩ := h
    exact ⟨a, e⟩
  | n + 1, .non, _, _, h, _ => h.2.ext (.of up fun _ _ => rfl)
  | n + 1, .bl _, _, _, h, _ => h.2.ext (.of up fun _ _ => rfl)
  | n + 1, .int _, _, _, h, _ => h.2.ext (.of up fun _ _ => rfl)
  | n + 1, .str _, _, _, h, _ => h.2.ext (.of up fun _ _ => rfl)
  | n + 1, .tup _, _, _, h, _ => h.2.ext (.of up fun _ _ => rfl)
  | n + 1, .opq _, _, _, h, _ => h.2.ext (.of up fun _ _ => rfl)
  | n + 1, .tag _ d, v, l, h, k => ⟨h.1, Own.freeze up n d v l h.2 k⟩
  | n + 1, .scr _ _, _, _, h, _ => h.2.ext (.of up fun _ _ => rfl)
end

/-! ### the state of a def's names -/
/-- a name's slot: how deep it owns, what it holds -/
abbrev Sl := Nat × D
abbrev DSt := List (Option Sl)
/-- the entry of a def (or of a part of it): what was frozen, the heap, what may be changed, what of this may be frozen; the slots of its mutable arguments -/
structure En where
  F0 : Fz
  H0 : Hp
  pin : Fz
  frp : Fz
  io : List (Nat × V)
def En.ios (en : En) : List Nat := en.io.map (·.1)

/-- what holds of a heap since the entry -/
structure Since (en : En) (F : Fz) (H : Hp) : Prop where
  up : ∀ a, en.F0 a → F a
  fr : ∀ a, F a → en.F0 a ∨ en.H0 a = none ∨ en.frp a
  tr : ∀ a, F a → H a ≠ none
  kp : ∀ a o, en.H0 a = some o → ¬ en.pin a → ¬ en.F0 a → H a = some o
  kF : ∀ a, en.F0 a → Kp (en.H0 a) (H a)
  dm : ∀ a, en.H0 a ≠ none → H a ≠ none
  pH : ∀ a, en.pin a → en.H0 a ≠ none
  pf : ∀ a, en.frp a → en.pin a
  tb : ∀ p ∈ LamT.L, TabP F H p

structure SI (en : En) (ρ : DSt) (σ : St) (H : Hp) (F : Fz) (fp : Nat → List Addr) : Prop extends Since en F H where
  sl : ∀ i n d, ρ[i]? = some (some (n, d)) → ∃ v, σ[i]? = some (some v) ∧ Own F H n d v (fp i)
  nd : ∀ i, (fp i).Nodup
  dj : ∀ i j a, i ≠ j → a ∈ fp i → a ∉ fp j
  nF : ∀ i a, a ∈ fp i → ¬ F a
  tf : ∀ i a, a ∈ fp i → H a ≠ none
  own : ∀ i a, a ∈ fp i → en.H0 a = none ∨ (en.pin a ∧ (i ∈ en.ios ∨ en.frp a))
  io : ∀ p ∈ en.io, σ[p.1]? = some (some p.2)
  len : ρ.length = σ.length
  pinF : ∀ a, en.pin a → F a → en.frp a

section
variable {en : En} {ρ : DSt} {σ : St} {H H' : Hp} {F F' : Fz} {fp : Nat → List Addr}
/-- a new object, not frozen, or frozen -/
theorem SI.free (S : SI en ρ σ H F fp) {p : Addr} (hp : H p = none) : en.H0 p = none ∧ ¬ F p ∧ (∀ i, p ∉ fp i) ∧ ¬ en.F0 p := by
  have nF : ¬ F p := fun h => S.tr p h hp
  refine ⟨?_, nF, fun i h => S.tf i p h hp, fun h => nF (S.up p h)⟩
  cases e : en.H0 p with
  | none => rfl
  | some o => exact absurd hp (S.dm p (by rw [e]; simp))
theorem Since.nF0 (S : Since en F H) {a : Addr} {o : HO} (e : en.H0 a = some o) (n : ¬ en.pin a) (m : ¬ en.F0 a) : ¬ F a := fun q =>
  (S.fr a q).elim m fun z => z.elim (fun z => by rw [e] at z; cases z) fun z => n (S.pf a z)
theorem SI.nF0 (S : SI en ρ σ H F fp) {a : Addr} {o : HO} (e : en.H0 a = some o) (n : ¬ en.pin a) (m : ¬ en.F0 a) : ¬ F a := S.toSince.nF0 e n m
/-- the heap goes on -/
theorem SI.go (S : SI en ρ σ H F fp) (x : Ext F H F' H') (hf : ∀ i a, a ∈ fp i → H' a = H a ∧ ¬ F' a) (hn : ∀ a, F' a → F a ∨ en.H0 a = none ∨ en.frp a) (ht : ∀ a, F' a → H' a ≠ none) (hk : ∀ a o, H a = some o → ¬ F a → H' a = some o) (hpin : ∀ a, en.pin a → F' a → en.frp a) :
    SI en ρ σ H' F' fp where
  up := fun a h => x.up a (S.up a h)
  fr := fun a h => by
    rcases hn a h with h | h
    · exact S.fr a h
    · exact .inr h
  tr := ht
  kp := fun a o e n m => hk a o (S.kp a o e n m) fun q => (S.fr a q).elim m fun z => z.elim (fun z => by rw [e] at z; cases z) fun z => n (S.pf a z)
  kF := fun a h => (S.kF a h).trans (x.kp a (S.up a h))
  tb := fun p h => x.tb p h (S.tb p h)
  pH := S.pH
  pf := S.pf
  dm := fun a e => by
    by_cases hF : F a
    · exact (x.kp a hF).some (S.dm a e)
    · cases q : H a with
      | none => exact absurd q (S.dm a e)
      | some o => rw [hk a o q hF]; simp
  sl := fun i n d e => by
    obtain ⟨v, h1, h2⟩ := S.sl i n d e
    exact ⟨v, h1, h2.ext x _ _ _ _ fun a ha => (hf i a ha).1⟩
  nd := S.nd
  dj := S.dj
  nF := fun i a h => (hf i a h).2
  tf := fun i a h => by rw [(hf i a h).1]; exact S.tf i a h
  own := S.own
  io := S.io
  len := S.len
  pinF := hpin
/-- a new object at p, frozen at once -/
def addF (F : Fz) (p : Addr) : Fz := fun a => F a ∨ a = p
theorem Ext.new {p : Addr} {o : HO} (hp : ¬ F p) : Ext F H (addF F p) (upd H p o) := .of (fun _ h => .inl h) fun a h => upd_ne fun e => hp (e ▸ h)
theorem SI.new (S : SI en ρ σ H F fp) {p : Addr} {o : HO} (hp : H p = none) : SI en ρ σ (upd H p o) (addF F p) fp := by
  obtain ⟨h0, nF, nf, nF0⟩ := S.free hp
  refine S.go (Ext.new nF) (fun i a h => ?_) (fun a h => ?_) (fun a h => ?_) (fun a o' e _ => ?_) fun a h => ?_
  · have ne : a ≠ p := fun e => nf i (e ▸ h)
    exact ⟨upd_ne ne, fun q => q.elim (S.nF i a h) ne⟩
  · rcases h with h | h
    · exact .inl h
    · exact .inr (.inl (h ▸ h0))
  · rcases h with h | h
    · rw [upd_ne (show a ≠ p from fun e => nF (e ▸ h))]; exact S.tr a h
    · rw [h, upd_same]; simp
  · rw [upd_ne (ne_of_none e hp)]; exact e
  · have hh : H a ≠ none := S.dm a (S.pH a h)
    exact fun q => q.elim (S.pinF a h) fun e => absurd (e ▸ hp) hh
end
end DL

/-! DLb: the judgements over data: expressions (PV), tests (PB), arguments (PVs), statements (PSd, PSsd). -/
namespace DL
open PySem PySem.Spec PyProof.Rows L2
variable [LamT]

/-! ### what an expression leaves: a thing that is frozen, or owned by nobody yet -/
structure Tmp (en : En) (F : Fz) (H : Hp) (fp : Nat → List Addr) (s : Sl) (v : V) (l : List Addr) : Prop where
  own : Own F H s.1 s.2 v l
  nd : l.Nodup
  ok : ∀ a ∈ l, ¬ F a ∧ H a ≠ none ∧ en.H0 a = none ∧ ¬ en.pin a ∧ ∀ i, a ∉ fp i

abbrev TO := DSt → (Sl → DSt → Prop) → Prop
abbrev TB := DSt → (Bool → DSt → Prop) → Prop
abbrev TDs := DSt → (List D → DSt → Prop) → Prop
def MonoD {α : Type} (t : DSt → (α → DSt → Prop) → Prop) : Prop := ∀ ρ Q Q', (∀ d ρ', Q d ρ' → Q' d ρ') → t ρ Q → t ρ Q'

def lift (en : En) (t : TO) : TE := fun σ H Q => ∃ ρ F fp, SI en ρ σ H F fp ∧ t ρ fun s ρ' => ∀ v H' F' fp' l, SI en ρ' σ H' F' fp' → Ext F H F' H' → Tmp en F' H' fp' s v l → Q v H'
def liftB (en : En) (t : TB) : TT := fun σ H Q => ∃ ρ F fp, SI en ρ σ H F fp ∧ t ρ fun b ρ' => ∀ H' F' fp', SI en ρ' σ H' F' fp' → Ext F H F' H' → Q b H'
def liftL (en : En) (t : TDs) : TA := fun σ H Q => ∃ ρ F fp, SI en ρ σ H F fp ∧ t ρ fun ds ρ' => ∀ vs H' F' fp', SI en ρ' σ H' F' fp' → Ext F H F' H' → RepL F' H' ds vs → Q vs H'

structure PV (X : Cx) (en : En) (e : Expr) (t : TO) : Prop where
  run : PE X e (lift en t)
  mono : MonoD t
structure PB (X : Cx) (en : En) (e : Expr) (t : TB) : Prop where
  run : PT X e (liftB en t)
  mono : MonoD t
structure PBw (X : Cx) (en : En) (e : Expr) (t : TB) : Prop where
  run : PW X e (liftB en t)
  mono : MonoD t
structure PVs (X : Cx) (en : En) (es : List Expr) (t : TDs) : Prop where
  run : PA X es (liftL en t)
  mono : MonoD t

theorem _root_.L2.PE.imp {X : Cx} {e : Expr} {t t' : TE} (h : PE X e t) (k : ∀ σ H Q, t' σ H Q → t σ H Q) : PE X e t' := ⟨fun p s σ H Q I q => h.run p s σ H Q I (k _ _ _ q)⟩
theorem _root_.L2.PT.imp {X : Cx} {e : Expr} {t t' : TT} (h : PT X e t) (k : ∀ σ H Q, t' σ H Q → t σ H Q) : PT X e t' := ⟨fun p s σ H Q I q => h.run p s σ H Q I (k _ _ _ q)⟩
theorem _root_.L2.PW.imp {X : Cx} {e : Expr} {t t' : TT} (h : PW X e t) (k : ∀ σ H Q, t' σ H Q → t σ H Q) : PW X e t' := ⟨fun w p s σ H Q I q => h.run w p s σ H Q I (k _ _ _ q)⟩
theorem _root_.L2.PA.imp {X : Cx} {e : List Expr} {t t' : TA} (h : PA X e t) (k : ∀ σ H Q, t' σ H Q → t σ H Q) : PA X e t' := ⟨fun w p s σ H Q I q => h.run w p s σ H Q I (k _ _ _ q)⟩
theorem _root_.L2.PS.imp {X : Cx} {e : Stmt} {t t' : TS} (h : PS X e t) (k : ∀ D σ H, t' D σ H → t D σ H) : PS X e t' := ⟨fun p s σ H D I q => h.run p s σ H D I (k _ _ _ q)⟩
theorem _root_.L2.PSs.imp {X : Cx} {e : List Stmt} {t t' : TS} (h : PSs X e t) (k : ∀ D σ H, t' D σ H → t D σ H) : PSs X e t' := ⟨fun p s σ H D I q => h.run p s σ H D I (k _ _ _ q)⟩

section
variable {en : En} {ρ : DSt} {σ : St} {H H' : Hp} {F F' : Fz} {fp : Nat → List Addr} {s : Sl} {v : V} {l : List Addr}
def addL (F : Fz) (l : List Addr) : Fz := fun a => F a ∨ a ∈ l
theorem Ext.addL (F : Fz) (H : Hp) (l : List Addr) : Ext F H (addL F l) H := .of (fun _ h => .inl h) fun _ _ => rfl
/-- what is left is frozen -/
theorem Tmp.freeze (T : Tmp en F H fp s v l) (S : SI en ρ σ H F fp) : SI en ρ σ H (addL F l) fp ∧ Rep (addL F l) H s.2 v := by
  refine ⟨S.go (Ext.addL F H l) (fun i a h => ⟨rfl, fun q => ?_⟩) (fun a h => ?_) (fun a h => ?_) (fun _ _ e _ => e) (fun a h q => ?_), T.own.freeze (fun _ h => .inl h) _ _ _ _ fun a h => .inr h⟩
  · rcases q with q | q
    · exact S.nF i a h q
    · exact (T.ok a q).2.2.2.2 i h
  · rcases h with h | h
    · exact .inl h
    · exact .inr (.inl (T.ok a h).2.2.1)
  · rcases h with h | h
    · exact S.tr a h
    · exact (T.ok a h).2.1
  · rcases q with q | q
    · exact S.pinF a h q
    · exact absurd h (T.ok a q).2.2.2.1
theorem Tmp.flat {d : D} (r : Rep F H d v) : Tmp en F H fp (0, d) v [] := ⟨⟨rfl, r⟩, List.nodup_nil, fun _ h => absurd h (by simp)⟩
end

/-! ### what an operator answers -/
inductive Ans (F : Fz) (H : Hp) : Sl → V → Fz → Hp → List Addr → Prop
  | same {d : D} {w : V} : Rep F H d w → Ans F H (0, d) w F H []
  | new {p : Addr} {o : HO} {d : D} : H p = none → Own F (upd H p o) 1 d (.ref p) [p] → Ans F H (1, d) (.ref p) F (upd H p o) [p]
  | newF {p : Addr} {o : HO} {d : D} : H p = none → Rep (addF F p) (upd H p o) d (.ref p) → Ans F H (0, d) (.ref p) (addF F p) (upd H p o) []
section
variable {en : En} {ρ : DSt} {σ : St} {H H' : Hp} {F F' : Fz} {fp : Nat → List Addr} {s : Sl} {v : V} {l : List Addr}
/-- a new object that nobody owns yet -/
theorem SI.newO (S : SI en ρ σ H F fp) {p : Addr} {o : HO} (hp : H p = none) : SI en ρ σ (upd H p o) F fp ∧ Ext F H F (upd H p o) := by
  obtain ⟨h0, nF, nf, nF0⟩ := S.free hp
  have x : Ext F H F (upd H p o) := .of (fun _ h => h) fun a h => upd_ne fun e => nF (e ▸ h)
  refine ⟨S.go x (fun i a h => ⟨upd_ne fun e => nf i (e ▸ h), S.nF i a h⟩) (fun _ h => .inl h) (fun a h => ?_) (fun a o' e _ => ?_) S.pinF, x⟩
  · rw [upd_ne (show a ≠ p from fun e => nF (e ▸ h))]; exact S.tr a h
  · rw [upd_ne (ne_of_none e hp)]; exact e
theorem Ans.step (A : Ans F H s v F' H' l) (S : SI en ρ σ H F fp) : SI en ρ σ H' F' fp ∧ Ext F H F' H' ∧ Tmp en F' H' fp s v l := by
  cases A with
  | same r => exact ⟨S, Ext.refl _ _, Tmp.flat r⟩
  | @new p o d hp ow =>
    obtain ⟨h0, nF, nf, nF0⟩ := S.free hp
    obtain ⟨S', x⟩ := S.newO (o := o) hp
    refine ⟨S', x, ow, by simp, fun a h => ?_⟩
    have e : a = p := by simpa using h
    subst e
    refine ⟨nF, by rw [upd_same]; simp, h0, fun q => S.pH _ q h0, nf⟩
  | @newF p o d hp r =>
    obtain ⟨h0, nF, nf, nF0⟩ := S.free hp
    exact ⟨S.new hp, Ext.new nF, Tmp.flat r⟩
end
abbrev W1 := D → (Sl → Prop) → Prop
abbrev W2 := D → D → (Sl → Prop) → Prop
abbrev WL := List D → (Sl → Prop) → Prop
def Mono1 (g : W1) : Prop := ∀ x k k', (∀ d, k d → k' d) → g x k → g x k'
def Mono2 (g : W2) : Prop := ∀ x y k k', (∀ d, k d → k' d) → g x y k → g x y k'
def MonoL (g : WL) : Prop := ∀ x k k', (∀ d, k d → k' d) → g x k → g x k'
def Fits1 (r : V → Hp → VK → Prop) (g : W1) : Prop := ∀ (x : D) (v : V) (F : Fz) (H : Hp) (Q : VK) (k : Sl → Prop), (∀ a, F a → H a ≠ none) → Rep F H x v → g x k →
  (∀ s w F' H' l, k s → Ans F H s w F' H' l → Q w H') → r v H Q
def Fits2 (r : R2) (g : W2) : Prop := ∀ (x y : D) (v u : V) (F : Fz) (H : Hp) (Q : VK) (k : Sl → Prop), (∀ a, F a → H a ≠ none) → Rep F H x v → Rep F H y u → g x y k →
  (∀ s w F' H' l, k s → Ans F H s w F' H' l → Q w H') → r v u H Q
def FitsL (r : List V → Hp → VK → Prop) (g : WL) : Prop := ∀ (xs : List D) (vs : List V) (F : Fz) (H : Hp) (Q : VK) (k : Sl → Prop), (∀ a, F a → H a ≠ none) → RepL F H xs vs → g xs k →
  (∀ s w F' H' l, k s → Ans F H s w F' H' l → Q w H') → r vs H Q

/-! ### expressions in a row -/
def dU (g : W1) (ta : TO) : TO := fun ρ Q => ta ρ fun x ρ1 => g x.2 fun s => Q s ρ1
def dB (g : W2) (ta tb : TO) : TO := fun ρ Q => ta ρ fun x ρ1 => tb ρ1 fun y ρ2 => g x.2 y.2 fun s => Q s ρ2
def dL (g : WL) (ta : TDs) : TO := fun ρ Q => ta ρ fun x ρ1 => g x fun s => Q s ρ1
def dNil : TDs := fun ρ Q => Q [] ρ
def dCons (ta : TO) (tb : TDs) : TDs := fun ρ Q => ta ρ fun x ρ1 => tb ρ1 fun xs ρ2 => Q (x.2 :: xs) ρ2
section
variable {X : Cx} {en : En} {a b e : Expr} {es : List Expr} {ta tb : TO} {tl : TDs}
theorem lift_one {σ : St} {H : Hp} {Q : VK} {r : V → Hp → VK → Prop} {g : W1} (A : PV X en a ta) (hr : Fits1 r g) (h : lift en (dU g ta) σ H Q) : tUn r (lift en ta) σ H Q := by
  obtain ⟨ρ, F, fp, S, h⟩ := h
  refine ⟨ρ, F, fp, S, A.mono _ _ _ (fun x ρ1 hx v1 H1 F1 fp1 l1 S1 E1 T1 => ?_) h⟩
  obtain ⟨S1', R1⟩ := T1.freeze S1
  have E1' := E1.trans (Ext.addL F1 H1 l1)
  refine hr x.2 v1 _ H1 Q _ S1'.tr R1 hx fun s w F' H' l hk A => ?_
  obtain ⟨S2, E2, T2⟩ := A.step S1'
  exact hk w H' F' fp1 l S2 (E1'.trans E2) T2
theorem lift_two {σ : St} {H : Hp} {Q : VK} {r : R2} {g : W2} (A : PV X en a ta) (B : PV X en b tb) (hr : Fits2 r g) (h : lift en (dB g ta tb) σ H Q) : tOp r (lift en ta) (lift en tb) σ H Q := by
  obtain ⟨ρ, F, fp, S, h⟩ := h
  refine ⟨ρ, F, fp, S, A.mono _ _ _ (fun x ρ1 hx v1 H1 F1 fp1 l1 S1 E1 T1 => ?_) h⟩
  obtain ⟨S1', R1⟩ := T1.freeze S1
  have E1' := E1.trans (Ext.addL F1 H1 l1)
  refine ⟨ρ1, _, fp1, S1', B.mono _ _ _ (fun y ρ2 hy v2 H2 F2 fp2 l2 S2 E2 T2 => ?_) hx⟩
  obtain ⟨S2', R2⟩ := T2.freeze S2
  have E2' := E2.trans (Ext.addL F2 H2 l2)
  refine hr x.2 y.2 v1 v2 _ H2 Q _ S2'.tr (R1.ext E2') R2 hy fun s w F' H' l hk A => ?_
  obtain ⟨S3, E3, T3⟩ := A.step S2'
  exact hk w H' F' fp2 l S3 ((E1'.trans E2').trans E3) T3
theorem lift_lst {σ : St} {H : Hp} {Q : VK} {r : List V → Hp → VK → Prop} {g : WL} (A : PVs X en es tl) (hr : FitsL r g) (h : lift en (dL g tl) σ H Q) : tCB r (liftL en tl) σ H Q := by
  obtain ⟨ρ, F, fp, S, h⟩ := h
  refine ⟨ρ, F, fp, S, A.mono _ _ _ (fun x ρ1 hx v1 H1 F1 fp1 S1 E1 R1 => ?_) h⟩
  refine hr x v1 _ H1 Q _ S1.tr R1 hx fun s w F' H' l hk A => ?_
  obtain ⟨S2, E2, T2⟩ := A.step S1
  exact hk w H' F' fp1 l S2 (E1.trans E2) T2
theorem mono_U {g : W1} (hg : Mono1 g) (A : MonoD ta) : MonoD (dU g ta) := fun ρ Q Q' k h => A ρ _ _ (fun x ρ1 q => hg _ _ _ (fun s => k s ρ1) q) h
theorem mono_B {g : W2} (hg : Mono2 g) (A : MonoD ta) (B : MonoD tb) : MonoD (dB g ta tb) := fun ρ Q Q' k h => A ρ _ _ (fun x ρ1 q => B _ _ _ (fun y ρ2 q => hg _ _ _ _ (fun s => k s ρ2) q) q) h
theorem mono_L {g : WL} (hg : MonoL g) (A : MonoD tl) : MonoD (dL g tl) := fun ρ Q Q' k h => A ρ _ _ (fun x ρ1 q => hg _ _ _ (fun s => k s ρ1) q) h

theorem v_nil : PVs X en [] dNil := ⟨pa_nil.imp fun σ H Q h => by
  obtain ⟨ρ, F, fp, S, h⟩ := h
  exact h [] H F fp S (Ext.refl _ _) rfl, fun _ _ _ k h => k _ _ h⟩
theorem v_cons (A : PV X en e ta) (B : PVs X en es tl) (hs : starEach (e :: es) X.env = (false, eval e X.env) :: starEach es X.env := by rfl) : PVs X en (e :: es) (dCons ta tl) := by
  refine ⟨(pa_cons A.run B.run hs).imp fun σ H Q h => ?_, fun ρ Q Q' k h => A.mono _ _ _ (fun x ρ1 q => B.mono _ _ _ (fun xs ρ2 q => k _ _ q) q) h⟩
  obtain ⟨ρ, F, fp, S, h⟩ := h
  refine ⟨ρ, F, fp, S, A.mono _ _ _ (fun x ρ1 hx v1 H1 F1 fp1 l1 S1 E1 T1 => ?_) h⟩
  obtain ⟨S1', R1⟩ := T1.freeze S1
  have E1' := E1.trans (Ext.addL F1 H1 l1)
  exact ⟨ρ1, _, fp1, S1', B.mono _ _ _ (fun xs ρ2 hxs vs H2 F2 fp2 S2 E2 R2 => hxs (v1 :: vs) H2 F2 fp2 S2 (E1'.trans E2) ⟨v1, vs, rfl, R1.ext E2, R2⟩) hx⟩

/-! ### names, constants, displays -/
def dC (d : D) : TO := fun ρ Q => Q (0, d) ρ
theorem v_const {d : D} {w : V} (h : PE X e (tC w)) (r : ∀ F H, Rep F H d w) : PV X en e (dC d) := ⟨h.imp fun σ H Q q => by
  obtain ⟨ρ, F, fp, S, q⟩ := q
  exact q w H F fp [] S (Ext.refl _ _) (Tmp.flat (r F H)), fun _ _ _ k h => k _ _ h⟩
theorem v_int {i j pos} : PV X en (.Constant (.int i) j pos) (dC (.int i)) := v_const pe_int fun _ _ => rfl
theorem v_bl {b j pos} : PV X en (.Constant (.bool b) j pos) (dC (.bl b)) := v_const pe_bl fun _ _ => rfl
theorem v_non {j pos} : PV X en (.Constant .none j pos) (dC .non) := v_const pe_non fun _ _ => rfl
theorem v_str {x j pos} : PV X en (.Constant (.str x) j pos) (dC (.str x)) := v_const pe_str fun _ _ => rfl

theorem nio {en : En} {l : List Nat} {i : Nat} (h : en.ios = l) (c : l.contains i = false) : i ∉ en.ios := by
  rw [h]
  intro m
  rw [List.contains_iff_mem.mpr m] at c
  cases c
/-- a name: what it holds is frozen from here on -/
def dVar (i : Nat) : TO := fun ρ Q => ∃ n d, ρ[i]? = some (some (n, d)) ∧ Q (0, d) (ρ.set i (some (0, d)))
theorem v_var (i : Nat) {x : Str} {pos : Pos} (hN : X.N[i]? = some x := by rfl) (hv : Vis X.env.scope x := by first | exact Or.inl rfl | exact Or.inr (Or.inl rfl) | exact Or.inr (Or.inr rfl)) (hio : i ∉ en.ios)
    (hd : (x == ("__debug__" : Str)) = false := by decide) (hcd : (x == ("__classdict__" : Str)) = false := by decide) : PV X en (.Name x pos) (dVar i) := by
  refine ⟨(pe_var hN hv hd hcd).imp fun σ H Q q => ?_, fun _ _ _ k ⟨n, d, h1, h2⟩ => ⟨n, d, h1, k _ _ h2⟩⟩
  obtain ⟨ρ, F, fp, S, n, d, h1, h2⟩ := q
  obtain ⟨v, e, ow⟩ := S.sl i n d h1
  refine ⟨v, e, h2 v H (addL F (fp i)) (fun j => if j = i then [] else fp j) [] ?_ (Ext.addL _ _ _) (Tmp.flat (ow.freeze (fun _ h => .inl h) _ _ _ _ fun a h => .inr h))⟩
  have sub : ∀ j a, a ∈ (if j = i then [] else fp j) → j ≠ i ∧ a ∈ fp j := fun j a h => by
    split at h
    · exact absurd h (by simp)
    · exact ⟨by assumption, h⟩
  have pi0 : ∀ a, a ∈ fp i → en.H0 a = none ∨ en.frp a := fun a h => by
    rcases S.own i a h with q | q
    · exact .inl q
    · exact .inr (q.2.resolve_left hio)
  refine { up := fun a h => .inl (S.up a h), fr := fun a h => ?_, tr := fun a h => ?_, kp := S.kp, kF := S.kF, tb := fun p h => (S.tb p h).of (fun _ z => .inl z) (fun _ _ => rfl), dm := S.dm, pH := S.pH, pf := S.pf, sl := fun j m d' hj => ?_, nd := fun j => ?_, dj := fun j j' a hne h h' => ?_, nF := fun j a h => ?_, tf := fun j a h => S.tf j a (sub j a h).2, own := fun j a h => S.own j a (sub j a h).2, io := S.io, len := by rw [List.length_set]; exact S.len, pinF := fun a h => ?_ }
  · rcases h with h | h
    · exact S.fr a h
    · exact .inr (pi0 a h)
  · rcases h with h | h
    · exact S.tr a h
    · exact S.tf i a h
  · by_cases hji : j = i
    · subst hji
      have hlt : j < ρ.length := (List.getElem?_eq_some_iff.mp h1).1
      rw [List.getElem?_set_self hlt] at hj
      cases hj
      exact ⟨v, e, by simp only [if_pos]; exact ⟨rfl, ow.freeze (fun _ h => .inl h) _ _ _ _ fun a h => .inr h⟩⟩
    · rw [List.getElem?_set_ne (Ne.symm hji)] at hj
      obtain ⟨v', e', ow'⟩ := S.sl j m d' hj
      exact ⟨v', e', by simp only [if_neg hji]; exact ow'.ext (Ext.addL _ _ _) _ _ _ _ fun _ _ => rfl⟩
  · by_cases hji : j = i
    · simp [hji]
    · simp only [if_neg hji]; exact S.nd j
  · exact S.dj j j' a hne (sub j a h).2 (sub j' a h').2
  · obtain ⟨hji, h⟩ := sub j a h
    intro q
    rcases q with q | q
    · exact S.nF j a h q
    · exact S.dj j i a hji h q
  · intro q
    rcases q with q | q
    · exact S.pinF a h q
    · exact (pi0 a q).resolve_left (S.pH a h)
end
end DL

/-! DLc: tests, statements, blocks over data. -/
namespace DL
open PySem PySem.Spec PyProof.Rows L2
variable [LamT]

/-! ### tests -/
/-- a test that is a truth -/
def dT (t : TO) : TB := fun ρ Q => t ρ fun s ρ' => ∃ b, s.2 = .bl b ∧ Q b ρ'
def dNot (t : TB) : TB := fun ρ Q => t ρ fun b ρ' => Q (!b) ρ'
def dAnd (t u : TB) : TB := fun ρ Q => t ρ fun b ρ1 => if b = true then u ρ1 Q else Q false ρ1
def dOr (t u : TB) : TB := fun ρ Q => t ρ fun b ρ1 => if b = true then Q true ρ1 else u ρ1 Q
section
variable {X : Cx} {en : En} {a b e : Expr} {ta tb : TO} {ua ub : TB} {pos : Pos} {rest : List Expr}
theorem t_val (A : PV X en e ta) (he : ∀ whole, isTrue e X.env whole = (do let v ← whole; standAt e.pos; holding [v] (truthy v)) := by intro _; rfl) : PB X en e (dT ta) := by
  refine ⟨(pt_val A.run he).imp fun σ H Q q => ?_, fun ρ Q Q' k h => A.mono _ _ _ (fun s ρ' ⟨b, h1, h2⟩ => ⟨b, h1, k _ _ h2⟩) h⟩
  obtain ⟨ρ, F, fp, S, q⟩ := q
  refine ⟨ρ, F, fp, S, A.mono _ _ _ (fun s ρ1 ⟨b, h1, h2⟩ v H1 F1 fp1 l S1 E1 T1 => ?_) q⟩
  obtain ⟨S1', R1⟩ := T1.freeze S1
  rw [h1] at R1
  exact ⟨b, R1, h2 H1 _ fp1 S1' (E1.trans (Ext.addL _ _ _))⟩
theorem t_not (A : PB X en a ua) : PB X en (.UnaryOp .Not a pos) (dNot ua) := by
  refine ⟨(pt_not A.run).imp fun σ H Q q => ?_, fun ρ Q Q' k h => A.mono _ _ _ (fun b ρ' h => k _ _ h) h⟩
  obtain ⟨ρ, F, fp, S, q⟩ := q
  exact ⟨ρ, F, fp, S, q⟩
theorem mono_and (A : MonoD ua) (B : MonoD ub) : MonoD (dAnd ua ub) := fun ρ Q Q' k h => A _ _ _ (fun b ρ1 h => by
  cases b with
  | true => rw [if_pos rfl] at h ⊢; exact B _ _ _ k h
  | false => rw [if_neg Bool.false_ne_true] at h ⊢; exact k _ _ h) h
theorem mono_or (A : MonoD ua) (B : MonoD ub) : MonoD (dOr ua ub) := fun ρ Q Q' k h => A _ _ _ (fun b ρ1 h => by
  cases b with
  | true => rw [if_pos rfl] at h ⊢; exact k _ _ h
  | false => rw [if_neg Bool.false_ne_true] at h ⊢; exact B _ _ _ k h) h
theorem w_and1 (A : PB X en a ua) : PBw X en (.BoolOp .And [a] pos) ua := ⟨pw_and1 A.run, A.mono⟩
theorem w_or1 (A : PB X en a ua) : PBw X en (.BoolOp .Or [a] pos) ua := ⟨pw_or1 A.run, A.mono⟩
theorem w_and (A : PB X en a ua) (B : PBw X en (.BoolOp .And (b :: rest) pos) ub) : PBw X en (.BoolOp .And (a :: b :: rest) pos) (dAnd ua ub) := by
  refine ⟨(pw_and A.run B.run).imp fun σ H Q q => ?_, mono_and A.mono B.mono⟩
  obtain ⟨ρ, F, fp, S, q⟩ := q
  refine ⟨ρ, F, fp, S, A.mono _ _ _ (fun b ρ1 h H1 F1 fp1 S1 E1 => ?_) q⟩
  cases b with
  | true =>
    rw [if_pos rfl] at h ⊢
    exact ⟨ρ1, F1, fp1, S1, B.mono _ _ _ (fun b ρ2 h H2 F2 fp2 S2 E2 => h H2 F2 fp2 S2 (E1.trans E2)) h⟩
  | false =>
    rw [if_neg Bool.false_ne_true] at h ⊢
    exact h H1 F1 fp1 S1 E1
theorem w_or (A : PB X en a ua) (B : PBw X en (.BoolOp .Or (b :: rest) pos) ub) : PBw X en (.BoolOp .Or (a :: b :: rest) pos) (dOr ua ub) := by
  refine ⟨(pw_or A.run B.run).imp fun σ H Q q => ?_, mono_or A.mono B.mono⟩
  obtain ⟨ρ, F, fp, S, q⟩ := q
  refine ⟨ρ, F, fp, S, A.mono _ _ _ (fun b ρ1 h H1 F1 fp1 S1 E1 => ?_) q⟩
  cases b with
  | true =>
    rw [if_pos rfl] at h ⊢
    exact h H1 F1 fp1 S1 E1
  | false =>
    rw [if_neg Bool.false_ne_true] at h ⊢
    exact ⟨ρ1, F1, fp1, S1, B.mono _ _ _ (fun b ρ2 h H2 F2 fp2 S2 E2 => h H2 F2 fp2 S2 (E1.trans E2)) h⟩
theorem t_w (A : PBw X en a ua) : PB X en a ua := ⟨A.run.pt, A.mono⟩

/-! ### and, or, not, if as values -/
def dAndV (ta tb : TO) : TO := fun ρ Q => ta ρ fun x ρ1 => ∃ c, x.2 = .bl c ∧ if c = true then tb ρ1 Q else Q (0, .bl false) ρ1
def dOrV (ta tb : TO) : TO := fun ρ Q => ta ρ fun x ρ1 => ∃ c, x.2 = .bl c ∧ if c = true then Q (0, .bl true) ρ1 else tb ρ1 Q
def dNotV (ta : TO) : TO := fun ρ Q => ta ρ fun x ρ1 => ∃ c, x.2 = .bl c ∧ Q (0, .bl (!c)) ρ1
def dIfV (u : TB) (ta tb : TO) : TO := fun ρ Q => u ρ fun c ρ1 => if c = true then ta ρ1 Q else tb ρ1 Q
theorem v_one {op} (A : PV X en a ta) : PV X en (.BoolOp op [a] pos) ta := ⟨pe_one A.run, A.mono⟩
theorem v_and (A : PV X en a ta) (B : PV X en (.BoolOp .And (b :: rest) pos) tb) : PV X en (.BoolOp .And (a :: b :: rest) pos) (dAndV ta tb) := by
  refine ⟨(pe_and A.run B.run).imp fun σ H Q q => ?_, fun ρ Q Q' k h => A.mono _ _ _ (fun x ρ1 ⟨c, h1, h2⟩ => ⟨c, h1, ?_⟩) h⟩
  · obtain ⟨ρ, F, fp, S, q⟩ := q
    refine ⟨ρ, F, fp, S, A.mono _ _ _ (fun x ρ1 ⟨c, h1, h2⟩ v H1 F1 fp1 l S1 E1 T1 => ?_) q⟩
    obtain ⟨S1', R1⟩ := T1.freeze S1
    have E1' := E1.trans (Ext.addL F1 H1 l)
    rw [h1] at R1
    refine ⟨c, R1, ?_⟩
    cases c with
    | true =>
      rw [if_pos rfl] at h2 ⊢
      exact ⟨ρ1, _, fp1, S1', B.mono _ _ _ (fun y ρ2 h v H2 F2 fp2 l S2 E2 T2 => h v H2 F2 fp2 l S2 (E1'.trans E2) T2) h2⟩
    | false =>
      rw [if_neg Bool.false_ne_true] at h2 ⊢
      exact h2 (.bl false) H1 _ fp1 [] S1' E1' (Tmp.flat rfl)
  · cases c with
    | true => rw [if_pos rfl] at h2 ⊢; exact B.mono _ _ _ k h2
    | false => rw [if_neg Bool.false_ne_true] at h2 ⊢; exact k _ _ h2
theorem v_or (A : PV X en a ta) (B : PV X en (.BoolOp .Or (b :: rest) pos) tb) : PV X en (.BoolOp .Or (a :: b :: rest) pos) (dOrV ta tb) := by
  refine ⟨(pe_or A.run B.run).imp fun σ H Q q => ?_, fun ρ Q Q' k h => A.mono _ _ _ (fun x ρ1 ⟨c, h1, h2⟩ => ⟨c, h1, ?_⟩) h⟩
  · obtain ⟨ρ, F, fp, S, q⟩ := q
    refine ⟨ρ, F, fp, S, A.mono _ _ _ (fun x ρ1 ⟨c, h1, h2⟩ v H1 F1 fp1 l S1 E1 T1 => ?_) q⟩
    obtain ⟨S1', R1⟩ := T1.freeze S1
    have E1' := E1.trans (Ext.addL F1 H1 l)
    rw [h1] at R1
    refine ⟨c, R1, ?_⟩
    cases c with
    | true =>
      rw [if_pos rfl] at h2 ⊢
      exact h2 (.bl true) H1 _ fp1 [] S1' E1' (Tmp.flat rfl)
    | false =>
      rw [if_neg Bool.false_ne_true] at h2 ⊢
      exact ⟨ρ1, _, fp1, S1', B.mono _ _ _ (fun y ρ2 h v H2 F2 fp2 l S2 E2 T2 => h v H2 F2 fp2 l S2 (E1'.trans E2) T2) h2⟩
  · cases c with
    | true => rw [if_pos rfl] at h2 ⊢; exact k _ _ h2
    | false => rw [if_neg Bool.false_ne_true] at h2 ⊢; exact B.mono _ _ _ k h2
theorem v_not (A : PV X en a ta) : PV X en (.UnaryOp .Not a pos) (dNotV ta) := by
  refine ⟨(pe_not A.run).imp fun σ H Q q => ?_, fun ρ Q Q' k h => A.mono _ _ _ (fun x ρ1 ⟨c, h1, h2⟩ => ⟨c, h1, k _ _ h2⟩) h⟩
  obtain ⟨ρ, F, fp, S, q⟩ := q
  refine ⟨ρ, F, fp, S, A.mono _ _ _ (fun x ρ1 ⟨c, h1, h2⟩ v H1 F1 fp1 l S1 E1 T1 => ?_) q⟩
  obtain ⟨S1', R1⟩ := T1.freeze S1
  rw [h1] at R1
  exact ⟨c, R1, h2 (.bl (!c)) H1 _ fp1 [] S1' (E1.trans (Ext.addL F1 H1 l)) (Tmp.flat rfl)⟩
theorem v_if {c : Expr} {uc : TB} (C : PB X en c uc) (A : PV X en a ta) (B : PV X en b tb) : PV X en (.IfExp c a b pos) (dIfV uc ta tb) := by
  refine ⟨(pe_ifExp C.run A.run B.run).imp fun σ H Q q => ?_, fun ρ Q Q' k h => C.mono _ _ _ (fun c ρ1 h => ?_) h⟩
  · obtain ⟨ρ, F, fp, S, q⟩ := q
    refine ⟨ρ, F, fp, S, C.mono _ _ _ (fun c ρ1 h H1 F1 fp1 S1 E1 => ?_) q⟩
    cases c with
    | true =>
      rw [if_pos rfl] at h ⊢
      exact ⟨ρ1, F1, fp1, S1, A.mono _ _ _ (fun y ρ2 h v H2 F2 fp2 l S2 E2 T2 => h v H2 F2 fp2 l S2 (E1.trans E2) T2) h⟩
    | false =>
      rw [if_neg Bool.false_ne_true] at h ⊢
      exact ⟨ρ1, F1, fp1, S1, B.mono _ _ _ (fun y ρ2 h v H2 F2 fp2 l S2 E2 T2 => h v H2 F2 fp2 l S2 (E1.trans E2) T2) h⟩
  · cases c with
    | true => rw [if_pos rfl] at h ⊢; exact A.mono _ _ _ k h
    | false => rw [if_neg Bool.false_ne_true] at h ⊢; exact B.mono _ _ _ k h
end

/-! ### statements -/
structure DE where
  nx : DSt → Prop
  rt : Sl → DSt → Prop
  bk : DSt → Prop := fun _ => False
  ct : DSt → Prop := fun _ => False
structure DE.Le (A B : DE) : Prop where
  nx : ∀ ρ, A.nx ρ → B.nx ρ
  rt : ∀ s ρ, A.rt s ρ → B.rt s ρ
  bk : ∀ ρ, A.bk ρ → B.bk ρ
  ct : ∀ ρ, A.ct ρ → B.ct ρ
theorem DE.Le.refl (A : DE) : DE.Le A A := ⟨fun _ h => h, fun _ _ h => h, fun _ h => h, fun _ h => h⟩
abbrev TSd := DE → DSt → Prop
def MonoS (t : TSd) : Prop := ∀ A B ρ, DE.Le A B → t A ρ → t B ρ
def AtS (en : En) (F₀ : Fz) (H₀ : Hp) (P : DSt → Prop) : St → Hp → Prop := fun σ H => ∃ ρ F fp, SI en ρ σ H F fp ∧ Ext F₀ H₀ F H ∧ P ρ
def RtS (en : En) (P : Sl → DSt → Prop) : VK := fun v H => ∃ ρ σ F fp s l, SI en ρ σ H F fp ∧ Tmp en F H fp s v l ∧ P s ρ
/-- the ends B are wide enough for A -/
structure EnLe (en : En) (F₀ : Fz) (H₀ : Hp) (A : DE) (B : Ends) : Prop where
  nx : ∀ σ H, AtS en F₀ H₀ A.nx σ H → B.nx σ H
  rt : ∀ v H, RtS en A.rt v H → B.rt v H
  bk : ∀ σ H, AtS en F₀ H₀ A.bk σ H → B.bk σ H
  ct : ∀ σ H, AtS en F₀ H₀ A.ct σ H → B.ct σ H
theorem EnLe.ext {en : En} {F F' : Fz} {H H' : Hp} {A : DE} {B : Ends} (L : EnLe en F H A B) (x : Ext F H F' H') : EnLe en F' H' A B where
  nx := fun σ H ⟨ρ, F, fp, S, y, h⟩ => L.nx σ H ⟨ρ, F, fp, S, x.trans y, h⟩
  rt := L.rt
  bk := fun σ H ⟨ρ, F, fp, S, y, h⟩ => L.bk σ H ⟨ρ, F, fp, S, x.trans y, h⟩
  ct := fun σ H ⟨ρ, F, fp, S, y, h⟩ => L.ct σ H ⟨ρ, F, fp, S, x.trans y, h⟩
def liftS (en : En) (t : TSd) : TS := fun B σ H => ∃ A ρ F fp, EnLe en F H A B ∧ SI en ρ σ H F fp ∧ t A ρ
structure PSd (X : Cx) (en : En) (st : Stmt) (t : TSd) : Prop where
  run : PS X st (liftS en t)
  mono : MonoS t
structure PSsd (X : Cx) (en : En) (st : List Stmt) (t : TSd) : Prop where
  run : PSs X st (liftS en t)
  mono : MonoS t
section
variable {X : Cx} {en : En} {st : Stmt} {rest : List Stmt} {e : Expr} {t u : TSd} {te : TO} {pos : Pos}
def dNext : TSd := fun A ρ => A.nx ρ
def dSeq (t u : TSd) : TSd := fun A ρ => t { A with nx := u A } ρ
theorem s_nil : PSsd X en [] dNext := ⟨pss_nil.imp fun B σ H h => by
  obtain ⟨A, ρ, F, fp, L, S, h⟩ := h
  exact L.nx _ _ ⟨ρ, F, fp, S, Ext.refl _ _, h⟩, fun A B ρ L h => L.nx _ h⟩
theorem s_cons (P : PSd X en st t) (R : PSsd X en rest u) : PSsd X en (st :: rest) (dSeq t u) := by
  refine ⟨(pss_cons P.run R.run).imp fun B σ H h => ?_, fun A B ρ L h => P.mono { A with nx := u A } { B with nx := u B } ρ ⟨fun ρ h => R.mono A B ρ L h, L.rt, L.bk, L.ct⟩ h⟩
  obtain ⟨A, ρ, F, fp, L, S, h⟩ := h
  exact ⟨{ A with nx := u A }, ρ, F, fp, ⟨fun σ H ⟨ρ', F', fp', S', x', h'⟩ => ⟨A, ρ', F', fp', L.ext x', S', h'⟩, L.rt, L.bk, L.ct⟩, S, h⟩
theorem s_one (P : PSd X en st t) : PSsd X en [st] t := ⟨pss_one P.run, P.mono⟩
def dBreak : TSd := fun A ρ => A.bk ρ
def dCont : TSd := fun A ρ => A.ct ρ
theorem s_pass : PSd X en (.Pass pos) dNext := ⟨ps_pass.imp fun B σ H h => by
  obtain ⟨A, ρ, F, fp, L, S, h⟩ := h
  exact L.nx _ _ ⟨ρ, F, fp, S, Ext.refl _ _, h⟩, fun A B ρ L h => L.nx _ h⟩
theorem s_break : PSd X en (.Break pos) dBreak := ⟨ps_break.imp fun B σ H h => by
  obtain ⟨A, ρ, F, fp, L, S, h⟩ := h
  exact L.bk _ _ ⟨ρ, F, fp, S, Ext.refl _ _, h⟩, fun A B ρ L h => L.bk _ h⟩
theorem s_continue : PSd X en (.Continue pos) dCont := ⟨ps_continue.imp fun B σ H h => by
  obtain ⟨A, ρ, F, fp, L, S, h⟩ := h
  exact L.ct _ _ ⟨ρ, F, fp, S, Ext.refl _ _, h⟩, fun A B ρ L h => L.ct _ h⟩
def dExpr (te : TO) : TSd := fun A ρ => te ρ fun _ ρ' => A.nx ρ'
theorem s_expr (E : PV X en e te) (hs : swapsWith e none pos.line X.env = pure false := by rfl) : PSd X en (.Expr e pos) (dExpr te) := by
  refine ⟨(ps_expr E.run hs).imp fun B σ H h => ?_, fun A B ρ L h => E.mono _ _ _ (fun _ ρ' h => L.nx _ h) h⟩
  obtain ⟨A, ρ, F, fp, L, S, h⟩ := h
  exact ⟨ρ, F, fp, S, E.mono _ _ _ (fun s ρ1 h v H1 F1 fp1 l S1 E1 T1 => L.nx _ _ ⟨ρ1, F1, fp1, S1, E1, h⟩) h⟩
def dRet (te : TO) : TSd := fun A ρ => te ρ A.rt
theorem s_ret (E : PV X en e te) : PSd X en (.Return (some e) pos) (dRet te) := by
  refine ⟨(ps_ret E.run).imp fun B σ H h => ?_, fun A B ρ L h => E.mono _ _ _ (fun s ρ' h => L.rt _ _ h) h⟩
  obtain ⟨A, ρ, F, fp, L, S, h⟩ := h
  exact ⟨ρ, F, fp, S, E.mono _ _ _ (fun s ρ1 h v H1 F1 fp1 l S1 E1 T1 => L.rt _ _ ⟨ρ1, σ, F1, fp1, s, l, S1, T1, h⟩) h⟩
def dRetN : TSd := fun A ρ => A.rt (0, .non) ρ
theorem s_retN : PSd X en (.Return none pos) dRetN := ⟨ps_retN.imp fun B σ H h => by
  obtain ⟨A, ρ, F, fp, L, S, h⟩ := h
  exact L.rt _ _ ⟨ρ, σ, F, fp, _, [], S, Tmp.flat (d := .non) rfl, h⟩, fun A B ρ L h => L.rt _ _ h⟩
def dIf (c : TB) (t u : TSd) : TSd := fun A ρ => c ρ fun b ρ1 => if b = true then t A ρ1 else u A ρ1
theorem s_if {c : Expr} {a b : List Stmt} {uc : TB} (C : PB X en c uc) (P : PSsd X en a t) (R : PSsd X en b u) : PSd X en (.If c a b pos) (dIf uc t u) := by
  refine ⟨(ps_if C.run P.run R.run).imp fun B σ H h => ?_, fun A B ρ L h => C.mono _ _ _ (fun c ρ1 h => ?_) h⟩
  · obtain ⟨A, ρ, F, fp, L, S, h⟩ := h
    refine ⟨ρ, F, fp, S, C.mono _ _ _ (fun c ρ1 h H1 F1 fp1 S1 E1 => ?_) h⟩
    cases c with
    | true => rw [if_pos rfl] at h ⊢; exact ⟨A, ρ1, F1, fp1, L.ext E1, S1, h⟩
    | false => rw [if_neg Bool.false_ne_true] at h ⊢; exact ⟨A, ρ1, F1, fp1, L.ext E1, S1, h⟩
  · cases c with
    | true => rw [if_pos rfl] at h ⊢; exact P.mono _ _ _ L h
    | false => rw [if_neg Bool.false_ne_true] at h ⊢; exact R.mono _ _ _ L h

/-! ### x = e -/
/-- a slot takes a thing -/
theorem SI.store {ρ : DSt} {σ : St} {H : Hp} {F : Fz} {fp : Nat → List Addr} (S : SI en ρ σ H F fp) {i : Nat} {s : Sl} {v : V} {l : List Addr} (T : Tmp en F H fp s v l) (hi : i ∉ en.ios) :
    SI en (ρ.set i (some s)) (σ.set i (some v)) H F (fun j => if j = i then l else fp j) := by
  have key : ∀ j a, a ∈ (if j = i then l else fp j) → (j = i ∧ a ∈ l) ∨ (j ≠ i ∧ a ∈ fp j) := fun j a h => by
    split at h
    · exact .inl ⟨by assumption, h⟩
    · exact .inr ⟨by assumption, h⟩
  refine { up := S.up, fr := S.fr, tr := S.tr, kp := S.kp, kF := S.kF, tb := S.tb, dm := S.dm, pH := S.pH, pf := S.pf, sl := fun j m d' hj => ?_, nd := fun j => ?_, dj := fun j j' a hne h h' => ?_, nF := fun j a h => ?_, tf := fun j a h => ?_, own := fun j a h => ?_, io := fun p hp => ?_, len := by rw [List.length_set, List.length_set]; exact S.len, pinF := S.pinF }
  · by_cases hji : j = i
    · subst hji
      have hlt : j < ρ.length := by
        have := (List.getElem?_eq_some_iff.mp hj).1
        rwa [List.length_set] at this
      rw [List.getElem?_set_self hlt] at hj
      cases hj
      refine ⟨v, List.getElem?_set_self (by rw [← S.len]; exact hlt), ?_⟩
      simp only [if_pos]
      exact T.own
    · rw [List.getElem?_set_ne (Ne.symm hji)] at hj
      obtain ⟨v', e', ow'⟩ := S.sl j m d' hj
      exact ⟨v', by rw [List.getElem?_set_ne (Ne.symm hji)]; exact e', by simp only [if_neg hji]; exact ow'⟩
  · by_cases hji : j = i
    · simp only [if_pos hji]; exact T.nd
    · simp only [if_neg hji]; exact S.nd j
  · rcases key j a h with ⟨e, h⟩ | ⟨ne, h⟩ <;> rcases key j' a h' with ⟨e', h'⟩ | ⟨ne', h'⟩
    · exact hne (e.trans e'.symm)
    · exact (T.ok a h).2.2.2.2 j' h'
    · exact (T.ok a h').2.2.2.2 j h
    · exact S.dj j j' a hne h h'
  · rcases key j a h with ⟨e, h⟩ | ⟨ne, h⟩
    · exact (T.ok a h).1
    · exact S.nF j a h
  · rcases key j a h with ⟨e, h⟩ | ⟨ne, h⟩
    · exact (T.ok a h).2.1
    · exact S.tf j a h
  · rcases key j a h with ⟨e, h⟩ | ⟨ne, h⟩
    · exact .inl (T.ok a h).2.2.1
    · exact S.own j a h
  · rw [List.getElem?_set_ne (show i ≠ p.1 from fun e => hi (e ▸ List.mem_map.mpr ⟨p, hp, rfl⟩))]
    exact S.io p hp
def dSet (i : Nat) (te : TO) : TSd := fun A ρ => te ρ fun s ρ' => A.nx (ρ'.set i (some s))
theorem s_set (i : Nat) {x : Str} {pos' : Pos} (E : PV X en e te) (hio : i ∉ en.ios) (hN : X.N.Nodup) (hi : X.N[i]? = some x := by rfl) (hx : Loc X.env.scope x := by first | exact Or.inl rfl | exact Or.inr rfl)
    (hs : swapsWith e (some (.Name x pos')) pos.line X.env = pure false := by rfl) (hf : X.fn x = true ∨ X.env.scope.names.lookup x = some .local := by first | exact .inl rfl | exact .inr rfl) : PSd X en (.Assign [.Name x pos'] e pos) (dSet i te) := by
  refine ⟨(ps_set hN hi hx E.run hs hf).imp fun B σ H h => ?_, fun A B ρ L h => E.mono _ _ _ (fun s ρ' h => L.nx _ h) h⟩
  obtain ⟨A, ρ, F, fp, L, S, h⟩ := h
  exact ⟨ρ, F, fp, S, E.mono _ _ _ (fun s ρ1 h v H1 F1 fp1 l S1 E1 T1 => L.nx _ _ ⟨_, F1, _, S1.store T1 hio, E1, h⟩) h⟩
end
end DL

/-! DLd: defs over data: what a def promises (SpD), the def by its body (fn_d), its call (v_call, v_callI). -/
namespace DL
open PySem PySem.Spec PyProof.Rows L2
variable [LamT]

/-- an exception: its class, its fields -/
structure Exc where
  cls : Addr
  fs : List (Str × D)
def ExcRep (F : Fz) (H : Hp) (cls : Value) (dx : Option Addr) (x : Exc) : Prop := cls = .ref x.cls ∧ (x.fs = [] ∨ ∃ d ws, dx = some d ∧ H d = some (.xd ws) ∧ RepS F H x.fs ws)
/-- the arguments with what they own; the end: the answer, and what the mutable argument holds then; the end by an exception -/
abbrev SpD := List Sl → (Sl → Sl → Prop) → (Exc → Prop) → Prop

structure ArgsOk (io : Option Nat) (F : Fz) (H : Hp) (args : List Sl) (vs : List V) (l : List Addr) : Prop where
  len : args.length = vs.length
  rep : ∀ i s v, args[i]? = some s → vs[i]? = some v → io ≠ some i → s.1 = 0 ∧ Rep F H s.2 v
  own : ∀ i, io = some i → ∃ s v, args[i]? = some s ∧ vs[i]? = some v ∧ Own F H s.1 s.2 v l
  nil : io = none → l = []
  nd : l.Nodup
  ok : ∀ a ∈ l, ¬ F a ∧ H a ≠ none
  tr : ∀ a, F a → H a ≠ none
  tb : ∀ p ∈ LamT.L, TabP F H p
def OutOk (io : Option Nat) (F : Fz) (H : Hp) (out : Sl) (vs : List V) (lo : List Addr) : Prop :=
  match io with
  | none => lo = []
  | some p => ∃ v, vs[p]? = some v ∧ Own F H out.1 out.2 v lo
abbrev enOf (F : Fz) (H : Hp) (l : List Addr) (io : List (Nat × V)) : En := ⟨F, H, fun a => a ∈ l, fun _ => False, io⟩
structure RetOk (io : Option Nat) (F : Fz) (H : Hp) (l : List Addr) (r out : Sl) (vs : List V) (v : V) (F' : Fz) (H' : Hp) (lr lo : List Addr) : Prop where
  since : Since (enOf F H l []) F' H'
  ret : Own F' H' r.1 r.2 v lr
  out : OutOk io F' H' out vs lo
  nd : (lr ++ lo).Nodup
  ok : ∀ a ∈ lr ++ lo, ¬ F' a ∧ H' a ≠ none
  fr : ∀ a ∈ lr, H a = none
  fo : ∀ a ∈ lo, H a = none ∨ a ∈ l
  lF : ∀ a ∈ l, ¬ F' a
def spOf (io : Option Nat) (sp : SpD) : Sp := fun vs H Q E => ∃ (args : List Sl) (F : Fz) (l : List Addr), ArgsOk io F H args vs l ∧
  sp args (fun r out => ∀ v F' H' lr lo, RetOk io F H l r out vs v F' H' lr lo → Q v H')
    (fun x => ∀ cls dx F' H', Since (enOf F H l []) F' H' → (∀ a ∈ l, ¬ F' a) → ExcRep F' H' cls dx x → E cls dx H')

/-- what is wished of an exception, by the slots at which it is raised -/
abbrev RX := Exc → DSt → Prop
def wOf (en : En) (R : RX) : WX := fun cls dx σ H => ∃ ρ F fp x, SI en ρ σ H F fp ∧ ExcRep F H cls dx x ∧ R x ρ
def R0 : RX := fun _ _ => False
theorem takesR0 {X : Cx} {en : En} : Takes X (wOf en R0) := takes0.imp fun _ _ _ _ h => by
  obtain ⟨_, _, _, _, _, _, h⟩ := h
  exact h

/-! ### room for calls, with no repr under way; what a def promises there -/
structure Room (k : Nat) (A : Around) : Prop extends L2.Room k A where
  gd : A.guards = some []
theorem Room.mono {j k : Nat} {A : Around} (r : Room k A) (h : j ≤ k) : Room j A := ⟨r.toRoom.mono h, r.gd⟩
theorem Room.deeper {k : Nat} {A : Around} (r : Room (k + 1) A) (env : Env) : Room k (A.deeper env) := ⟨r.toRoom.deeper env, r.gd⟩
theorem Room.in1 {k : Nat} {A : Around} (r : Room (k + 1) A) : Room k A.in1 := ⟨r.toRoom.in1, r.gd⟩
theorem Room.make {k : Nat} {A : Around} (r : Room (k + 1) A) (C : Addr) (us : List Value) (kw : List (Str × Value)) : Room k (A.under (.builtin "type.__call__" ⟨.ref C :: us, kw⟩)) :=
  ⟨r.toRoom.make C us kw, by
    have e : (Code.builtin "type.__call__" ⟨.ref C :: us, kw⟩).guards = [] := by
      unfold Code.guards
      rw [if_neg]
      show ¬ guardIds.contains "type.__call__" = true
      decide
    unfold Around.under
    rw [e]
    exact r.gd⟩
structure FnOk (P : Program) (w : World) (K : PySem.W.Frag) (mg : Str → Option Value) (base : Heap) (CX : CXT) (k : Nat) (f : Addr) (fd : FuncData) (ps : List Str) (sp : Sp) : Prop where
  len : ∀ vs H Q E, sp vs H Q E → vs.length = ps.length
  run : ∀ (A : Around) (outer : List Env) (s : Shared) (H : Hp) (args : Args) (us : List Value) (vs : List V) (Q : VK) (E : XK), Room k A → Env0 P w K mg base A outer s H → BindsTo s fd args (ps.zip us) → Vals vs us → sp vs H Q E →
    codeAny (model P w) A (.call (.ref f) args) (CR CX outer P w H s Q E) s
theorem FnOk.mono {P : Program} {w : World} {K : PySem.W.Frag} {mg : Str → Option Value} {base : Heap} {CX : CXT} {j k : Nat} {f : Addr} {fd : FuncData} {ps : List Str} {sp : Sp} (F : FnOk P w K mg base CX j f fd ps sp) (h : j ≤ k) : FnOk P w K mg base CX k f fd ps sp :=
  ⟨F.len, fun A outer s H args us vs Q E hr => F.run A outer s H args us vs Q E (hr.mono h)⟩
section
variable {X : Cx} {CX : CXT} {k : Nat} {f : Addr} {fd : FuncData} {ps : List Str} {sp : Sp} {x : Str} {p pos : Pos} {e : Expr} {es : List Expr} {ta : TA}
theorem run_fnS {pins : List (Addr × Obj)} {σ : St} {H : Hp} {s : Shared} {Q : VK} {us : List Value} {vs : List V} {E : XK} (F : FnOk X.prog X.w X.K X.mg X.base CX k f fd ps sp) (hr : Room k X.A) (hb : Binds X.K fd ps []) (hx : PassesAt CX X σ E) (I : Inv X pins σ H s) (r : Vals vs us)
    (h : sp vs H Q E) : wpAny (model X.prog X.w) X.A (call (.ref f) us) (EP X pins σ Q) X.xe s := by
  have bd := hb s us I.kIn (by rw [List.append_nil, ← r.length]; exact F.len _ _ _ _ h)
  rw [List.append_nil] at bd
  refine wpAny_call (codeAny_mono (F.run X.A X.stack s H ⟨us, []⟩ us vs Q E hr I.env0 bd r h) fun r' s' out => ?_)
  match r', out with
  | .error e, out => exact hx pins H s e s' I out
  | .ok (.ret u), out => exact I.after out
  | .ok .next, out => exact out.elim
  | .ok .brk, out => exact out.elim
  | .ok .cont, out => exact out.elim
theorem pe_callS {E : St → XK} (F : FnOk X.prog X.w X.K X.mg X.base CX k f fd ps sp) (hr : Room k X.A) (hg : Gl X x) (hm : X.mg x = some (.ref f)) (hk : PySem.W.keepIn X.K (.ref f) = true) (hb : Binds X.K fd ps []) (hx : ∀ σ, PassesAt CX X σ (E σ))
    (ha : PA X (e :: es) ta) (hdb : (x == ("__debug__" : Str)) = false) (he : starEach (e :: es) X.env = (false, eval e X.env) :: starEach es X.env) (hpl : (backTo pos (starEach es X.env)).any (·.1) = false) : PE X (.Call (.Name x p) (e :: es) [] pos) (tCallS sp E ta) :=
  ⟨fun pins s σ H Q I h => wpAny_Call_Name_kw (ld_glob I hg hm (PySem.W.callWith_K (h₀ := X.base) I.ok.mod.kin hk (thn (ha.run pos pins s σ H _ I h) fun us s1 ⟨vs, H1, I1, r, q⟩ => ⟨I1.kIn, run_fnS F hr hb (hx σ) I1 r q⟩) he hpl) hdb)⟩
end
/-! ### a def by its body -/
def outS (io : Option Nat) (K : Sl → Prop) (ρ : DSt) : Prop :=
  match io with
  | none => K (0, .non)
  | some p => ∃ s, ρ[p]? = some (some s) ∧ K s
def fnE (io : Option Nat) (ret : Sl → Sl → Prop) : DE := { nx := outS io (ret (0, .non)), rt := fun s ρ => outS io (ret s) ρ }
def start0 (n : Nat) (args : List Sl) : DSt := args.map some ++ List.replicate (n - args.length) none
def ioOf (io : Option Nat) (vs : List V) : List (Nat × V) :=
  match io with
  | none => []
  | some p => match vs[p]? with
    | some v => [(p, v)]
    | none => []
section
variable {P : Program} {w : World} {K : PySem.W.Frag} {mg : Str → Option Value} {base : Heap}
theorem si_start {io : Option Nat} {N : List Str} {F : Fz} {H : Hp} {args : List Sl} {vs : List V} {l : List Addr} (A : ArgsOk io F H args vs l) (hN : vs.length ≤ N.length) :
    SI (enOf F H l (ioOf io vs)) (start0 N.length args) (L2.start N vs) H F (fun j => if io = some j then l else []) := by
  have sub : ∀ j a, a ∈ (if io = some j then l else []) → io = some j ∧ a ∈ l := fun j a h => by
    split at h
    · exact ⟨by assumption, h⟩
    · exact absurd h (by simp)
  refine { up := fun _ h => h, fr := fun _ h => .inl h, tr := A.tr, kp := fun _ _ e _ _ => e, kF := fun _ _ => .inl rfl, tb := A.tb, dm := fun _ h => h, pH := fun a h => (A.ok a h).2, pf := fun _ h => h.elim, sl := fun i n d h => ?_, nd := fun i => ?_, dj := fun i j a hne h h' => ?_, nF := fun i a h => (A.ok a (sub i a h).2).1, tf := fun i a h => (A.ok a (sub i a h).2).2, own := fun i a h => .inr ⟨(sub i a h).2, .inl ?_⟩, io := fun p hp => ?_, len := ?_, pinF := fun a h q => (A.ok a h).1 q }
  · unfold start0 at h
    by_cases hi : i < args.length
    · rw [List.getElem?_append_left (by simpa using hi), List.getElem?_map] at h
      cases e : args[i]? with
      | none => rw [e] at h; cases h
      | some s =>
        rw [e] at h
        cases h
        have hi' : i < vs.length := by rw [← A.len]; exact hi
        obtain ⟨v, hv⟩ : ∃ v, vs[i]? = some v := ⟨vs[i], List.getElem?_eq_getElem hi'⟩
        refine ⟨v, ?_, ?_⟩
        · unfold L2.start
          rw [List.getElem?_append_left (by simpa using hi'), List.getElem?_map, hv]
          rfl
        · by_cases hp : io = some i
          · obtain ⟨s, v', h1, h2, h3⟩ := A.own i hp
            rw [e] at h1; cases h1
            rw [hv] at h2; cases h2
            simp only [if_pos hp]
            exact h3
          · obtain ⟨h0, r⟩ := A.rep i _ v e hv hp
            have h0 : n = 0 := h0
            subst h0
            simp only [if_neg hp]
            exact ⟨rfl, r⟩
    · rw [List.getElem?_append_right (by simpa using hi), List.getElem?_replicate] at h
      split at h <;> cases h
  · by_cases hp : io = some i
    · simp only [if_pos hp]; exact A.nd
    · simp only [if_neg hp]; exact List.nodup_nil
  · have e := (sub i a h).1
    have e' := (sub j a h').1
    rw [e] at e'
    exact hne (Option.some.inj e')
  · have e := (sub i a h).1
    obtain ⟨s, v, h1, h2, h3⟩ := A.own i e
    unfold En.ios ioOf
    rw [e]
    simp [h2]
  · unfold ioOf at hp
    cases io with
    | none => exact absurd (show p ∈ ([] : List (Nat × V)) from hp) (by simp)
    | some q =>
      obtain ⟨s, v, h1, h2, h3⟩ := A.own q rfl
      have hp' : p ∈ [(q, v)] := by simpa [h2] using hp
      have e : p = (q, v) := by simpa using hp'
      subst e
      unfold L2.start
      have hq : q < vs.length := (List.getElem?_eq_some_iff.mp h2).1
      show (List.map some vs ++ _)[q]? = _
      rw [List.getElem?_append_left (by simpa using hq), List.getElem?_map, h2]
      rfl
  · unfold start0 L2.start
    rw [List.length_append, List.length_append, List.length_map, List.length_map, List.length_replicate, List.length_replicate, A.len]

theorem ios_of {io : Option Nat} {F : Fz} {H : Hp} {args : List Sl} {vs : List V} {l : List Addr} (A : ArgsOk io F H args vs l) : (enOf F H l (ioOf io vs)).ios = io.toList := by
  cases io with
  | none => rfl
  | some p =>
    obtain ⟨s, v, h1, h2, h3⟩ := A.own p rfl
    unfold En.ios ioOf
    simp [h2]

/-- the body of a def over data -/
theorem body_d {qual : Str} {st : Stmt} {f : Addr} {N ps : List Str} {k : Nat} {io : Option Nat} {sp : SpD} {t : RX → TSd} {cdv : Value} {A : Around} {outer : List Env} {s : Shared} {H : Hp} {vs : List V} {Q : VK} {E : XK} (S : FnScope N ps (defScope st))
    (hl : ∀ args ret exc, sp args ret exc → args.length = ps.length) (hr : Room k (A.deeper (envOfC qual (defScope st) s.heap.objs.size f cdv)))
    (hw : ∀ (en : En) (R : RX), en.ios = io.toList →
      Takes (cxOf (L2.CX P w) P w K mg base N qual (defScope st) f cdv A outer s H E) (wOf en R) →
      PassesOwn (model P w) (A.deeper (envOfC qual (defScope st) s.heap.objs.size f cdv)) (envOfC qual (defScope st) s.heap.objs.size f cdv) (cxOf (L2.CX P w) P w K mg base N qual (defScope st) f cdv A outer s H E).xe →
      PSsd (cxOf (L2.CX P w) P w K mg base N qual (defScope st) f cdv A outer s H E) en (defBody st) (t R))
    (hc : ∀ args ret exc, sp args ret exc → t (fun x _ => exc x) (fnE io ret) (start0 N.length args)) (h : spOf io sp vs H Q E) :
    ∃ t, PSs (cxOf (L2.CX P w) P w K mg base N qual (defScope st) f cdv A outer s H E) (defBody st) t ∧ t { nx := fun _ H' => Q .non H', rt := Q } (L2.start N vs) H := by
  obtain ⟨args, F, l, a, h⟩ := h
  have hlen := hl _ _ _ h
  have hpl : ps.length ≤ N.length := by have := congrArg List.length S.pre; rw [List.length_take] at this; omega
  have si := si_start (N := N) a (by rw [← a.len, hlen]; exact hpl)
  have tk0 : Takes (cxOf (L2.CX P w) P w K mg base N qual (defScope st) f cdv A outer s H E) (fun cls d _ H => E cls d H) := takes_of rfl rfl rfl rfl
  have W := hw (enOf F H l (ioOf io vs)) (fun x _ => ∀ cls dx F' H', Since (enOf F H l []) F' H' → (∀ a ∈ l, ¬ F' a) → ExcRep F' H' cls dx x → E cls dx H') (ios_of a) (tk0.imp fun cls d σ H' hx => ?_) (passes_of rfl)
  · refine ⟨_, W.run, ?_⟩
    refine ⟨_, start0 N.length args, F, _, ?_, si, hc _ _ _ h⟩
    have key : ∀ (r out : Sl) (v : V) (ρ : DSt) (σ : St) (H' : Hp) (F' : Fz) (fp : Nat → List Addr) (lr : List Addr), SI (enOf F H l (ioOf io vs)) ρ σ H' F' fp → Tmp (enOf F H l (ioOf io vs)) F' H' fp r v lr →
        (∀ p, io = some p → ρ[p]? = some (some out)) → ∃ lo, RetOk io F H l r out vs v F' H' lr lo := fun r out v ρ σ H' F' fp lr S' T ho => by
      have base : Since (enOf F H l []) F' H' := ⟨S'.up, S'.fr, S'.tr, S'.kp, S'.kF, S'.dm, S'.pH, fun _ h => h.elim, S'.tb⟩
      cases io with
      | none =>
        refine ⟨[], base, T.own, rfl, by rw [List.append_nil]; exact T.nd, fun b hb => ?_, fun b hb => (T.ok b hb).2.2.1, fun b hb => absurd hb (by simp), fun b hb => S'.pinF b hb⟩
        rw [List.append_nil] at hb
        exact ⟨(T.ok b hb).1, (T.ok b hb).2.1⟩
      | some p =>
        obtain ⟨sl, v0, h1, h2, h3⟩ := a.own p rfl
        obtain ⟨v1, e1, ow⟩ := S'.sl p out.1 out.2 (ho p rfl)
        have eio : σ[p]? = some (some v0) := S'.io (p, v0) (by simp [ioOf, h2])
        rw [eio] at e1
        cases e1
        refine ⟨fp p, base, T.own, ⟨v0, h2, ow⟩, ?_, fun b hb => ?_, fun b hb => (T.ok b hb).2.2.1, fun b hb => ?_, fun b hb => S'.pinF b hb⟩
        · exact List.nodup_append.mpr ⟨T.nd, S'.nd p, fun b hb c hc e => (T.ok b hb).2.2.2.2 p (e ▸ hc)⟩
        · rcases List.mem_append.mp hb with hb | hb
          · exact ⟨(T.ok b hb).1, (T.ok b hb).2.1⟩
          · exact ⟨S'.nF p b hb, S'.tf p b hb⟩
        · rcases S'.own p b hb with q | q
          · exact .inl q
          · exact .inr q.1
    have outK : ∀ {ρ : DSt} {K : Sl → Prop}, outS io K ρ → ∃ out, (∀ p, io = some p → ρ[p]? = some (some out)) ∧ K out := fun {ρ K} h => by
      cases io with
      | none => exact ⟨_, fun p e => (nomatch e), h⟩
      | some p =>
        obtain ⟨s, h1, h2⟩ := h
        exact ⟨s, fun q e => by cases e; exact h1, h2⟩
    refine ⟨fun σ H' h' => ?_, fun v H' h' => ?_, fun σ H' h' => ?_, fun σ H' h' => ?_⟩
    · obtain ⟨ρ, F', fp, S', _, h'⟩ := h'
      obtain ⟨out, ho, hk⟩ := outK (ρ := ρ) (K := (fun r out => ∀ (v : V) (F' : Fz) (H' : Hp) (lr lo : List Addr), RetOk io F H l r out vs v F' H' lr lo → Q v H') (0, .non)) h'
      obtain ⟨lo, R⟩ := key (0, .non) out .non ρ σ H' F' fp [] S' (Tmp.flat (d := .non) rfl) ho
      exact hk _ _ _ _ _ R
    · obtain ⟨ρ, σ, F', fp, s', l', S', T, h'⟩ := h'
      obtain ⟨out, ho, hk⟩ := outK (ρ := ρ) (K := (fun r out => ∀ (v : V) (F' : Fz) (H' : Hp) (lr lo : List Addr), RetOk io F H l r out vs v F' H' lr lo → Q v H') s') h'
      obtain ⟨lo, R⟩ := key s' out v ρ σ H' F' fp l' S' T ho
      exact hk _ _ _ _ _ R
    · obtain ⟨_, _, _, _, _, z⟩ := h'
      exact z.elim
    · obtain ⟨_, _, _, _, _, z⟩ := h'
      exact z.elim
  · obtain ⟨ρ, F', fp, x, S', ex, hx⟩ := hx
    exact hx cls d F' H' ⟨S'.up, S'.fr, S'.tr, S'.kp, S'.kF, S'.dm, S'.pH, fun _ h => h.elim, S'.tb⟩ (fun b hb => S'.pinF b hb) ex
/-- THE RULE for a def: its body over data, and what its promise asks of it -/
theorem fn_d {x qual : Str} {st : Stmt} {f : Addr} {fd : FuncData} {N ps : List Str} {k : Nat} {io : Option Nat} {sp : SpD} {t : RX → TSd} (F : Fun K x qual st f fd) (S : FnScope N ps (defScope st))
    (hl : ∀ args ret exc, sp args ret exc → args.length = ps.length)
    (hw : ∀ (cdv : Value) (A : Around) (outer : List Env) (s : Shared) (H : Hp) (E : XK) (en : En) (R : RX), Room k (A.deeper (envOfC qual (defScope st) s.heap.objs.size f cdv)) → en.ios = io.toList →
      Takes (cxOf (L2.CX P w) P w K mg base N qual (defScope st) f cdv A outer s H E) (wOf en R) →
      PassesOwn (model P w) (A.deeper (envOfC qual (defScope st) s.heap.objs.size f cdv)) (envOfC qual (defScope st) s.heap.objs.size f cdv) (cxOf (L2.CX P w) P w K mg base N qual (defScope st) f cdv A outer s H E).xe →
      PSsd (cxOf (L2.CX P w) P w K mg base N qual (defScope st) f cdv A outer s H E) en (defBody st) (t R))
    (hc : ∀ args ret exc, sp args ret exc → t (fun x _ => exc x) (fnE io ret) (start0 N.length args)) : FnOk P w K mg base (L2.CX P w) (k + 1) f fd ps (spOf io sp) := by
  obtain ⟨oc, od, kV, doc, pm, an, cdv, ct, osl, rfl, lk, hcd⟩ := F.ex
  have ln : ∀ vs H Q E, spOf io sp vs H Q E → vs.length = ps.length := fun vs H Q E ⟨args, F, l, a, h⟩ => by
    rw [← a.len]
    exact hl _ _ _ h
  exact ⟨ln, fun A outer s H args us vs Q E hr he hb hv h => LamX.run_ofS lk hcd S hr.toRoom he hb hv (ln _ _ _ _ h) fun hr' => body_d S hl ⟨hr', hr.gd⟩ (hw cdv A outer s H E · · ⟨hr', hr.gd⟩) hc h⟩
/-- a def of the text whose code object is told -/
structure FunC (K : PySem.W.Frag) (x qual : Str) (st : Stmt) (f : Addr) (fd : FuncData) (cdv : Value) : Prop where
  ex : ∃ (oc : Value) (od : Option Addr) (kV doc pm : Value) (an : Option Addr) (ct : Value) (osl : Array (Option Value)),
    fd = PySem.W.fnOf x qual (defArgs st) (defBody st) (defScope st) .none kV doc pm an cdv ct ∧ K.lookup f = some ⟨oc, od, .func fd, osl⟩ ∧ PySem.W.codeIn K cdv qual = true
  kp : PySem.W.keepIn K (.ref f) = true
theorem FunC.toFun {x qual : Str} {st : Stmt} {f : Addr} {fd : FuncData} {cdv : Value} (F : FunC K x qual st f fd cdv) : Fun K x qual st f fd := by
  obtain ⟨oc, od, kV, doc, pm, an, ct, osl, h⟩ := F.ex
  exact ⟨⟨oc, od, kV, doc, pm, an, cdv, ct, osl, h⟩, F.kp⟩
/-- .. for a def that makes lambdas -/
theorem fn_dC {x qual : Str} {st : Stmt} {f : Addr} {fd : FuncData} {N ps : List Str} {k : Nat} {io : Option Nat} {sp : SpD} {t : RX → TSd} {cdv : Value} (F : FunC K x qual st f fd cdv) (S : FnScope N ps (defScope st))
    (hl : ∀ args ret exc, sp args ret exc → args.length = ps.length)
    (hw : ∀ (A : Around) (outer : List Env) (s : Shared) (H : Hp) (E : XK) (en : En) (R : RX), Room k (A.deeper (envOfC qual (defScope st) s.heap.objs.size f cdv)) → en.ios = io.toList →
      Takes (cxOf (L2.CX P w) P w K mg base N qual (defScope st) f cdv A outer s H E) (wOf en R) →
      PassesOwn (model P w) (A.deeper (envOfC qual (defScope st) s.heap.objs.size f cdv)) (envOfC qual (defScope st) s.heap.objs.size f cdv) (cxOf (L2.CX P w) P w K mg base N qual (defScope st) f cdv A outer s H E).xe →
      PSsd (cxOf (L2.CX P w) P w K mg base N qual (defScope st) f cdv A outer s H E) en (defBody st) (t R))
    (hc : ∀ args ret exc, sp args ret exc → t (fun x _ => exc x) (fnE io ret) (start0 N.length args)) : FnOk P w K mg base (L2.CX P w) (k + 1) f fd ps (spOf io sp) := by
  obtain ⟨oc, od, kV, doc, pm, an, ct, osl, rfl, lk, hcd⟩ := F.ex
  have ln : ∀ vs H Q E, spOf io sp vs H Q E → vs.length = ps.length := fun vs H Q E ⟨args, F, l, a, h⟩ => by
    rw [← a.len]
    exact hl _ _ _ h
  exact ⟨ln, fun A outer s H args us vs Q E hr he hb hv h => LamX.run_ofS lk hcd S hr.toRoom he hb hv (ln _ _ _ _ h) fun hr' => body_d S hl ⟨hr', hr.gd⟩ (hw A outer s H E · · ⟨hr', hr.gd⟩) hc h⟩
end

/-! ### a call -/
structure Callee (P : Program) (w : World) (K : PySem.W.Frag) (mg : Str → Option Value) (base : Heap) (x : Str) (k : Nat) (io : Option Nat) (sp : SpD) : Prop where
  ex : ∃ (f : Addr) (fd : FuncData) (ps : List Str), FnOk P w K mg base (L2.CX P w) k f fd ps (spOf io sp) ∧ mg x = some (.ref f) ∧ PySem.W.keepIn K (.ref f) = true ∧ Binds K fd ps []
theorem Callee.mono {P : Program} {w : World} {K : PySem.W.Frag} {mg : Str → Option Value} {base : Heap} {x : Str} {j k : Nat} {io : Option Nat} {sp : SpD} (c : Callee P w K mg base x j io sp) (h : j ≤ k) : Callee P w K mg base x k io sp := by
  obtain ⟨f, fd, ps, h1, h2⟩ := c.ex
  exact ⟨f, fd, ps, h1.mono h, h2⟩
def MonoSp (sp : SpD) : Prop := ∀ args ret ret' exc exc', (∀ r o, ret r o → ret' r o) → (∀ x, exc x → exc' x) → sp args ret exc → sp args ret' exc'
def fz (ds : List D) : List Sl := ds.map fun d => (0, d)
def dCall (sp : SpD) (ta : TDs) (R : RX) : TO := fun ρ Q => ta ρ fun ds ρ1 => sp (fz ds) (fun r _ => Q r ρ1) fun x => R x ρ1
section
variable {X : Cx} {en : En} {e : Expr} {es : List Expr} {ta : TDs} {R : RX} {k : Nat} {sp : SpD} {x : Str} {p pos : Pos}
theorem RepL.len {F : Fz} {H : Hp} : ∀ {ds : List D} {vs : List V}, RepL F H ds vs → ds.length = vs.length
  | [], _, h => by
    have e : _ = [] := h
    subst e
    rfl
  | d :: ds, _, h => by
    obtain ⟨v, r, e, _, h2⟩ := h
    rw [e]
    simp [RepL.len h2]
theorem RepL.get {F : Fz} {H : Hp} : ∀ {ds : List D} {vs : List V} {i : Nat} {d : D}, RepL F H ds vs → ds[i]? = some d → ∃ v, vs[i]? = some v ∧ Rep F H d v
  | [], _, _, _, _, e => by simp at e
  | d :: ds, _, i, d', h, e => by
    obtain ⟨v, r, ev, h1, h2⟩ := h
    subst ev
    cases i with
    | zero =>
      simp at e
      subst e
      exact ⟨v, rfl, h1⟩
    | succ i => exact RepL.get (i := i) h2 (by simpa using e)
/-- frozen arguments -/
theorem args_fz {F : Fz} {H : Hp} {ds : List D} {vs : List V} (r : RepL F H ds vs) (tr : ∀ a, F a → H a ≠ none) (tb : ∀ p ∈ LamT.L, TabP F H p) : ArgsOk none F H (fz ds) vs [] where
  len := by unfold fz; rw [List.length_map]; exact r.len
  rep := fun i s v h1 h2 _ => by
    unfold fz at h1
    rw [List.getElem?_map] at h1
    cases e : ds[i]? with
    | none => rw [e] at h1; cases h1
    | some d =>
      rw [e] at h1
      cases h1
      obtain ⟨v', e1, e2⟩ := r.get e
      rw [h2] at e1
      cases e1
      exact ⟨rfl, e2⟩
  own := fun i e => nomatch e
  nil := fun _ => rfl
  nd := List.nodup_nil
  ok := fun a h => absurd h (by simp)
  tr := tr
  tb := tb
/-- behind a call that owns nothing -/
theorem SI.called {ρ : DSt} {σ : St} {H H' : Hp} {F F' : Fz} {fp : Nat → List Addr} (S : SI en ρ σ H F fp) (P : Since (enOf F H [] []) F' H') : SI en ρ σ H' F' fp ∧ Ext F H F' H' := by
  have hk : ∀ a o, H a = some o → ¬ F a → H' a = some o := fun a o e n => P.kp a o e (by simp) n
  have kk : ∀ a, H a ≠ none → ¬ F a → H' a = H a := fun a h n => by
    cases q : H a with
    | none => exact absurd q h
    | some o => exact hk a o q n
  have nf : ∀ a, H a ≠ none → ¬ F a → ¬ F' a := fun a h n q => (P.fr a q).elim n fun z => z.elim h id
  have x : Ext F H F' H' := ⟨P.up, fun a h => P.kF a h, fun p h _ => P.tb p h⟩
  refine ⟨S.go x (fun i a h => ⟨kk a (S.tf i a h) (S.nF i a h), nf a (S.tf i a h) (S.nF i a h)⟩) (fun a h => ?_) P.tr hk fun a h q => ?_, x⟩
  rotate_left
  · by_cases hF : F a
    · exact S.pinF a h hF
    · exact absurd q (nf a (S.dm a (S.pH a h)) hF)
  rcases P.fr a h with h | h | h
  · exact .inl h
  rotate_left
  · exact h.elim
  · refine .inr (.inl ?_)
    cases q : en.H0 a with
    | none => rfl
    | some o => exact absurd h (S.dm a (by rw [q]; simp))
theorem call_core {σ : St} {H : Hp} {Q : VK} {F : Fz} {ρ : DSt} {fp : Nat → List Addr} {ds : List D} {vs : List V} {Q' : Sl → DSt → Prop} (S : SI en ρ σ H F fp) (r : RepL F H ds vs)
    (h : sp (fz ds) (fun r _ => Q' r ρ) fun x => R x ρ) (mono : MonoSp sp)
    (k : ∀ s v F' H' l, SI en ρ σ H' F' fp → Ext F H F' H' → Tmp en F' H' fp s v l → Q' s ρ → Q v H') : spOf none sp vs H Q (WE (wOf en R) σ) := by
  refine ⟨fz ds, F, [], args_fz r S.tr S.tb, mono _ _ _ _ _ (fun s o hs v F' H' lr lo RO => ?_) (fun x hx cls dx F' H' P _ ex => ?_) h⟩
  · obtain ⟨S', x⟩ := S.called RO.since
    have nl : lo = [] := RO.out
    subst nl
    refine k s v F' H' lr S' x ⟨RO.ret, by have := RO.nd; rwa [List.append_nil] at this, fun a ha => ?_⟩ hs
    have h0 : H a = none := RO.fr a ha
    have q := RO.ok a (by rw [List.append_nil]; exact ha)
    have e0 := (S.free h0).1
    exact ⟨q.1, q.2, e0, fun z => S.pH a z e0, (S.free h0).2.2.1⟩
  · obtain ⟨S', x'⟩ := S.called P
    exact ⟨ρ, F', fp, x, S', ex, hx⟩
theorem v_call (C : Callee X.prog X.w X.K X.mg X.base x k none sp) (mono : MonoSp sp) (hr : Room k X.A) (tk : Takes X (wOf en R)) (A : PVs X en (e :: es) ta) (hg : Gl X x := by rfl) (hdb : (x == ("__debug__" : Str)) = false := by decide)
    (he : starEach (e :: es) X.env = (false, eval e X.env) :: starEach es X.env := by rfl) (hpl : (backTo pos (starEach es X.env)).any (·.1) = false := by rfl) : PV X en (.Call (.Name x p) (e :: es) [] pos) (dCall sp ta R) := by
  obtain ⟨f, fd, ps, G, hm, hk, hb⟩ := C.ex
  refine ⟨(pe_callS G hr hg hm hk hb (fun σ => passAt tk σ) A.run hdb he hpl).imp fun σ H Q h => ?_, fun ρ Q Q' kk h => A.mono _ _ _ (fun ds ρ1 h => mono _ _ _ _ _ (fun r o h => kk _ _ h) (fun _ h => h) h) h⟩
  obtain ⟨ρ, F, fp, S, h⟩ := h
  refine ⟨ρ, F, fp, S, A.mono _ _ _ (fun ds ρ1 h vs H1 F1 fp1 S1 E1 R1 => ?_) h⟩
  exact call_core (Q' := fun s ρ' => ∀ (v : V) (H' : Hp) (F' : Fz) (fp' : Nat → List Addr) (l : List Addr), SI en ρ' σ H' F' fp' → Ext F H F' H' → Tmp en F' H' fp' s v l → Q v H') S1 R1 h mono fun s v F' H' l S2 E2 T2 hs => hs v H' F' fp1 l S2 (E1.trans E2) T2
end
end DL

/-! DLe: a part of a def on its own (rebase), targets, what is walked, for, while, list comprehensions. -/
namespace DL
open PySem PySem.Spec PyProof.Rows L2
variable [LamT]

/-! ### a part on its own -/
def rb (en : En) (F : Fz) (H : Hp) (fp : Nat → List Addr) : En := ⟨F, H, fun a => ∃ i, a ∈ fp i, fun a => ∃ i, i ∉ en.ios ∧ a ∈ fp i, en.io⟩
section
variable {en : En} {ρ ρ' : DSt} {σ σ' : St} {H H' : Hp} {F F' : Fz} {fp fp' : Nat → List Addr}
theorem SI.rebase (S : SI en ρ σ H F fp) : SI (rb en F H fp) ρ σ H F fp where
  up := fun _ h => h
  fr := fun _ h => .inl h
  tr := S.tr
  kp := fun _ _ e _ _ => e
  kF := fun _ _ => .inl rfl
  tb := S.tb
  dm := fun _ h => h
  pH := fun a ⟨i, h⟩ => S.tf i a h
  pf := fun a ⟨i, _, h⟩ => ⟨i, h⟩
  sl := S.sl
  nd := S.nd
  dj := S.dj
  nF := S.nF
  tf := S.tf
  own := fun i a h => .inr ⟨⟨i, h⟩, by
    by_cases hi : i ∈ en.ios
    · exact .inl hi
    · exact .inr ⟨i, hi, h⟩⟩
  io := S.io
  len := S.len
  pinF := fun a ⟨i, h⟩ q => absurd q (S.nF i a h)
theorem SI.unbase (S : SI en ρ σ H F fp) (T : SI (rb en F H fp) ρ' σ' H' F' fp') : SI en ρ' σ' H' F' fp' := by
  have h0 : ∀ a, H a = none → en.H0 a = none := fun a h => by
    cases q : en.H0 a with
    | none => rfl
    | some o => exact absurd h (S.dm a (by rw [q]; simp))
  have fr' : ∀ a i, i ∉ en.ios → a ∈ fp i → en.H0 a = none ∨ en.frp a := fun a i hi h => by
    rcases S.own i a h with q | q
    · exact .inl q
    · exact .inr (q.2.resolve_left hi)
  refine { up := fun a h => T.up a (S.up a h), fr := fun a h => ?_, tr := T.tr, kp := fun a o e n m => ?_, kF := fun a h => (S.kF a h).trans (T.kF a (S.up a h)), tb := T.tb, dm := fun a h => T.dm a (S.dm a h), pH := S.pH, pf := S.pf, sl := T.sl, nd := T.nd, dj := T.dj, nF := T.nF, tf := T.tf, own := fun i a h => ?_, io := T.io, len := T.len, pinF := fun a h q => ?_ }
  · rcases T.fr a h with q | q | ⟨i, hi, q⟩
    · exact S.fr a q
    · exact .inr (.inl (h0 a q))
    · exact .inr (fr' a i hi q)
  · refine T.kp a o (S.kp a o e n m) (fun ⟨i, h⟩ => ?_) (S.nF0 e n m)
    rcases S.own i a h with q | q
    · rw [e] at q; cases q
    · exact n q.1
  · rcases T.own i a h with q | ⟨⟨j, hj⟩, q⟩
    · exact .inl (h0 a q)
    · rcases S.own j a hj with z | z
      · exact .inl z
      · refine .inr ⟨z.1, ?_⟩
        rcases q with q | ⟨j', hj', q⟩
        · exact .inl q
        · rcases fr' a j' hj' q with y | y
          · exact absurd y (S.pH a z.1)
          · exact .inr y
  · by_cases hF : F a
    · exact S.pinF a h hF
    · rcases T.fr a q with z | z | ⟨i, hi, z⟩
      · exact absurd z hF
      · exact absurd z (S.dm a (S.pH a h))
      · exact (fr' a i hi z).resolve_left (S.pH a h)
end

/-! ### targets -/
abbrev TGd := D → DSt → (DSt → Prop) → Prop
abbrev TGsd := List D → DSt → (DSt → Prop) → Prop
def MonoG {α : Type} (g : α → DSt → (DSt → Prop) → Prop) : Prop := ∀ d ρ k k', (∀ ρ, k ρ → k' ρ) → g d ρ k → g d ρ k'
/-- what stands behind a target: the slots sl alone have changed -/
structure SetTo (sl : List Nat) (σ σ' : St) : Prop where
  ne : ∀ j, j ∉ sl → σ'[j]? = σ[j]?
  len : σ'.length = σ.length
theorem SetTo.refl {sl : List Nat} {σ : St} : SetTo sl σ σ := ⟨fun _ _ => rfl, rfl⟩
theorem SetTo.trans {sl : List Nat} {σ σ1 σ2 : St} (a : SetTo sl σ σ1) (b : SetTo sl σ1 σ2) : SetTo sl σ σ2 := ⟨fun j h => (b.ne j h).trans (a.ne j h), b.len.trans a.len⟩
theorem SetTo.wide {sl sl' : List Nat} {σ σ' : St} (a : SetTo sl σ σ') (h : ∀ i ∈ sl, i ∈ sl') : SetTo sl' σ σ' := ⟨fun j n => a.ne j fun z => n (h j z), a.len⟩
def liftG (en : En) (sl : List Nat) (g : TGd) : TG := fun v σ H Q => ∃ d ρ F fp, SI en ρ σ H F fp ∧ Rep F H d v ∧ g d ρ fun ρ' => ∀ σ' fp', SI en ρ' σ' H F fp' → SetTo sl σ σ' → Q σ' H
def liftGs (en : En) (sl : List Nat) (g : TGsd) : TGs := fun vs σ H Q => ∃ ds ρ F fp, SI en ρ σ H F fp ∧ RepL F H ds vs ∧ g ds ρ fun ρ' => ∀ σ' fp', SI en ρ' σ' H F fp' → SetTo sl σ σ' → Q σ' H
structure PGd (X : Cx) (en : En) (tg : Expr) (sl : List Nat) (g : TGd) : Prop where
  run : PG X tg (liftG en sl g)
  mono : MonoG g
structure PGsd (X : Cx) (en : En) (tg : List Expr) (sl : List Nat) (g : TGsd) : Prop where
  run : PGs X tg (liftGs en sl g)
  mono : MonoG g
theorem _root_.L2.PG.imp {X : Cx} {e : Expr} {t t' : TG} (h : PG X e t) (k : ∀ v σ H Q, t' v σ H Q → t v σ H Q) : PG X e t' := ⟨fun pins s σ H v u Q I r q => h.run pins s σ H v u Q I r (k _ _ _ _ q)⟩
theorem _root_.L2.PGs.imp {X : Cx} {e : List Expr} {t t' : TGs} (h : PGs X e t) (k : ∀ v σ H Q, t' v σ H Q → t v σ H Q) : PGs X e t' := ⟨fun pins s σ H v u Q I r q => h.run pins s σ H v u Q I r (k _ _ _ _ q)⟩
def gN (i : Nat) : TGd := fun d ρ k => k (ρ.set i (some (0, d)))
def gNil : TGsd := fun ds ρ k => ds = [] ∧ k ρ
def gCons (g : TGd) (gs : TGsd) : TGsd := fun ds ρ k => ∃ d r, ds = d :: r ∧ g d ρ fun ρ' => gs r ρ' k
/-- a thing's items -/
def seqD : D → Option (List D)
  | .lst xs => some xs
  | .tup xs => some xs
  | _ => none
def dTup (n : Nat) (gs : TGsd) : TGd := fun d ρ k => ∃ ds, d = .tup ds ∧ ds.length = n ∧ gs ds ρ k
section
variable {X : Cx} {en : En} {e : Expr} {es : List Expr} {g : TGd} {gs : TGsd} {sl sls : List Nat} {pos : Pos}
theorem g_name (i : Nat) {x : Str} (hio : i ∉ en.ios) (hN : X.N.Nodup) (hi : X.N[i]? = some x := by rfl) (hx : Loc X.env.scope x := by first | exact Or.inl rfl | exact Or.inr rfl)
    (hf : X.fn x = true ∨ X.env.scope.names.lookup x = some .local := by first | exact .inl rfl | exact .inr rfl) : PGd X en (.Name x pos) [i] (gN i) := by
  refine ⟨(pg_name hN hi hx hf).imp fun v σ H Q h => ?_, fun d ρ k k' f h => f _ h⟩
  obtain ⟨d, ρ, F, fp, S, r, h⟩ := h
  exact h _ _ (S.store (Tmp.flat r) hio) ⟨fun j hj => List.getElem?_set_ne (show i ≠ j from fun z => hj (by simp [z])), List.length_set⟩
theorem g_nil : PGsd X en [] [] gNil := by
  refine ⟨pgs_nil.imp fun v σ H Q h => ?_, fun d ρ k k' f h => ⟨h.1, f _ h.2⟩⟩
  obtain ⟨d, ρ, F, fp, S, r, e, h⟩ := h
  subst e
  exact ⟨r, h σ fp S SetTo.refl⟩
theorem g_cons (G : PGd X en e sl g) (Gs : PGsd X en es sls gs) (hs : (assignEach (e :: es) X.env).map (·.2) = assign e X.env :: (assignEach es X.env).map (·.2) := by rfl) : PGsd X en (e :: es) (sl ++ sls) (gCons g gs) := by
  refine ⟨(pgs_cons G.run Gs.run hs).imp fun v σ H Q h => ?_, fun d ρ k k' f ⟨d', r, e, h⟩ => ⟨d', r, e, G.mono _ _ _ _ (fun ρ h => Gs.mono _ _ _ _ f h) h⟩⟩
  obtain ⟨ds, ρ, F, fp, S, r, d, r', e, h⟩ := h
  subst e
  obtain ⟨v', r2, ev, h1, h2⟩ := r
  refine ⟨v', r2, ev, d, ρ, F, fp, S, h1, G.mono _ _ _ _ (fun ρ1 h σ1 fp1 S1 t1 => ?_) h⟩
  exact ⟨r', ρ1, F, fp1, S1, h2, Gs.mono _ _ _ _ (fun ρ2 h σ2 fp2 S2 t2 => h σ2 fp2 S2 ((t1.wide fun i z => List.mem_append_left _ z).trans (t2.wide fun i z => List.mem_append_right _ z))) h⟩
theorem g_tup {k n : Nat} (hc : X.calm = true) (G : PGsd X en es sl gs) (hn : (assignEach es X.env).length = n := by rfl) (hst : (assignEach es X.env).findIdx? (·.1) = none := by rfl) : PGd X en (.Tuple es k pos) sl (dTup n gs) := by
  refine ⟨(pg_tup hc G.run hn hst).imp fun v σ H Q h => ?_, fun d ρ k k' f ⟨ds, e, l, h⟩ => ⟨ds, e, l, G.mono _ _ _ _ f h⟩⟩
  obtain ⟨d, ρ, F, fp, S, r, ds, e, l, h⟩ := h
  subst e
  obtain ⟨a, vs, ev, f, ha, r2⟩ := r
  exact ⟨a, vs, ev, SqT.of ha, r2.len.symm.trans l, ds, ρ, F, fp, S, r2, h⟩
end

/-! ### what is walked -/
structure ItOk (en : En) (J : It) (xs : List D) (F₁ : Fz) (H₁ : Hp) : Prop where
  go : ∀ i H F, Ext F₁ H₁ F H → i < xs.length → J.go i H
  stop : ∀ i H F, Ext F₁ H₁ F H → xs.length ≤ i → J.stop i H
  yld : ∀ i H F x H', Ext F₁ H₁ F H → i < xs.length → J.yld i H x H' → ∀ ρ σ fp, SI en ρ σ H F fp → ∃ F' d, xs[i]? = some d ∧ SI en ρ σ H' F' fp ∧ Ext F H F' H' ∧ Rep F' H' d x ∧ (∀ a o, H a = some o → H' a = some o) ∧ ∀ a, F' a → F a ∨ H a = none
def liftI (en : En) (t : TDs) : TI := fun σ H R => ∃ ρ F fp, SI en ρ σ H F fp ∧ t ρ fun xs ρ' => ∀ J H' F' fp', SI en ρ' σ H' F' fp' → Ext F H F' H' → ItOk en J xs F' H' → R J H'
structure PId (X : Cx) (en : En) (tg iter : Expr) (t : TDs) : Prop where
  run : PI X tg iter (liftI en t)
  mono : MonoD t
theorem _root_.L2.PI.imp {X : Cx} {tg e : Expr} {t t' : TI} (h : PI X tg e t) (k : ∀ σ H R, t' σ H R → t σ H R) : PI X tg e t' := ⟨fun p s σ H R I q => h.run p s σ H R I (k _ _ _ q)⟩
section
variable {X : Cx} {en : En} {tg e : Expr} {te : TO} {sl : List Nat}
/-- a list or a tuple, as it stands -/
def iSeq (K : PySem.W.Frag) (tl : TE) : TI := fun σ H R => tl σ H fun x H1 => ∃ a, x = .ref a ∧ (((∃ xs, SqL K H1 a xs) ∧ R (Itl K a) H1) ∨ ((∃ xs, SqT K H1 a xs) ∧ R (Itt K a) H1))
theorem pi_seq {l : Expr} {tl : TE} (hl : PE X l tl) : PI X tg l (iSeq X.K tl) := by
  refine ⟨fun pins s σ H R I h => ?_⟩
  refine thn (hl.run pins s σ H _ I h) fun v s1 ⟨x, H1, I1, r1, q1⟩ => ?_
  obtain ⟨a, e, ⟨⟨xs, hq⟩, q⟩ | ⟨⟨xs, hq⟩, q⟩⟩ := q1
  · subst e
    cases r1
    obtain ⟨its, rv, p, hz⟩ := I1.list hq
    refine wpAny_pyIter_list p.isList ?_
    refine ⟨s1.heap.objs.size, [s1.heap.objs.size], _, _, H1, rfl, I1.kept (t' := s1.toks) fun b o e => Heap.get?_push_of_some _ e, turn_list a _, ⟨_, Heap.get?_push_size _ rfl, rfl, rfl⟩, fun b hb => ?_, q⟩
    have e : b = s1.heap.objs.size := by simpa using hb
    subst e
    exact I1.fpOk (Nat.le_refl _) (I1.hok.fresh (Nat.le_refl _))
  · subst e
    cases r1
    obtain ⟨its, rv, p, hz⟩ := I1.tuple hq
    refine wpAny_pyIter_tuple (show s1.heap.IsTuple a its.toArray from p) ?_
    refine ⟨s1.heap.objs.size, [s1.heap.objs.size], _, _, H1, rfl, I1.kept (t' := s1.toks) fun b o e => Heap.get?_push_of_some _ e, turn_tuple a _, ⟨_, Heap.get?_push_size _ rfl, rfl, rfl⟩, fun b hb => ?_, q⟩
    have e : b = s1.heap.objs.size := by simpa using hb
    subst e
    exact I1.fpOk (Nat.le_refl _) (I1.hok.fresh (Nat.le_refl _))
theorem it_list {K : PySem.W.Frag} {F₁ : Fz} {H₁ : Hp} {a : Addr} {vs : List V} {ds : List D} (f : F₁ a) (h : H₁ a = some (.lst vs)) (r : RepL F₁ H₁ ds vs) : ItOk en (Itl K a) ds F₁ H₁ where
  go := fun i H F x hi => ⟨vs, vs[i]'(by rw [← r.len]; exact hi), SqL.of ((x.kp a f).keep h (fun _ z => nomatch z)), List.getElem?_eq_getElem _⟩
  stop := fun i H F x hi => ⟨vs, SqL.of ((x.kp a f).keep h (fun _ z => nomatch z)), by rw [← r.len]; exact hi⟩
  yld := fun i H F x H' ex hi hy ρ σ fp S => by
    obtain ⟨e, hy⟩ := hy
    subst e
    have hx := hy vs (SqL.of ((ex.kp a f).keep h (fun _ z => nomatch z)))
    obtain ⟨d, hd⟩ : ∃ d, ds[i]? = some d := ⟨ds[i], List.getElem?_eq_getElem hi⟩
    obtain ⟨v, h1, h2⟩ := r.get hd
    rw [hx] at h1
    cases h1
    exact ⟨F, d, hd, S, Ext.refl _ _, h2.ext ex, fun _ _ h => h, fun _ h => .inl h⟩
theorem it_tup {K : PySem.W.Frag} {F₁ : Fz} {H₁ : Hp} {a : Addr} {vs : List V} {ds : List D} (f : F₁ a) (h : H₁ a = some (.tup vs)) (r : RepL F₁ H₁ ds vs) : ItOk en (Itt K a) ds F₁ H₁ where
  go := fun i H F x hi => ⟨vs, vs[i]'(by rw [← r.len]; exact hi), SqT.of ((x.kp a f).keep h (fun _ z => nomatch z)), List.getElem?_eq_getElem _⟩
  stop := fun i H F x hi => ⟨vs, SqT.of ((x.kp a f).keep h (fun _ z => nomatch z)), by rw [← r.len]; exact hi⟩
  yld := fun i H F x H' ex hi hy ρ σ fp S => by
    obtain ⟨e, hy⟩ := hy
    subst e
    have hx := hy vs (SqT.of ((ex.kp a f).keep h (fun _ z => nomatch z)))
    obtain ⟨d, hd⟩ : ∃ d, ds[i]? = some d := ⟨ds[i], List.getElem?_eq_getElem hi⟩
    obtain ⟨v, h1, h2⟩ := r.get hd
    rw [hx] at h1
    cases h1
    exact ⟨F, d, hd, S, Ext.refl _ _, h2.ext ex, fun _ _ h => h, fun _ h => .inl h⟩
def dSeqI (te : TO) : TDs := fun ρ Q => te ρ fun s ρ1 => ∃ xs, seqD s.2 = some xs ∧ Q xs ρ1
theorem seqD_cases {d : D} {xs : List D} (h : seqD d = some xs) : d = .lst xs ∨ d = .tup xs := by
  cases d with
  | lst ys => exact .inl (congrArg D.lst (Option.some.inj h))
  | tup ys => exact .inr (congrArg D.tup (Option.some.inj h))
  | _ => exact nomatch h
theorem i_seq (E : PV X en e te) : PId X en tg e (dSeqI te) := by
  refine ⟨(pi_seq E.run).imp fun σ H R h => ?_, fun ρ Q Q' k h => E.mono _ _ _ (fun s ρ1 ⟨xs, h1, h2⟩ => ⟨xs, h1, k _ _ h2⟩) h⟩
  obtain ⟨ρ, F, fp, S, h⟩ := h
  refine ⟨ρ, F, fp, S, E.mono _ _ _ (fun s ρ1 ⟨xs, h1, h2⟩ v H1 F1 fp1 l S1 E1 T1 => ?_) h⟩
  obtain ⟨S1', R1⟩ := T1.freeze S1
  have E1' := E1.trans (Ext.addL F1 H1 l)
  rcases seqD_cases h1 with e | e
  · rw [e] at R1
    obtain ⟨a, vs, ev, f, ha, r⟩ := R1
    exact ⟨a, ev, .inl ⟨⟨vs, SqL.of ha⟩, h2 _ H1 _ fp1 S1' E1' (it_list f ha r)⟩⟩
  · rw [e] at R1
    obtain ⟨a, vs, ev, f, ha, r⟩ := R1
    exact ⟨a, ev, .inr ⟨⟨vs, SqT.of ha⟩, h2 _ H1 _ fp1 S1' E1' (it_tup f ha r)⟩⟩

/-! ### ranges -/
/-- lo, lo + 1, .. (n of them) -/
def rangeD (lo : Int) (n : Nat) : List D := (List.range n).map fun i => D.int (lo + (i : Nat))
theorem it_range {F₁ : Fz} {H₁ : Hp} {lo : Int} {n : Nat} : ItOk en (Itr lo n) (rangeD lo n) F₁ H₁ where
  go := fun i H F x hi => by
    show i < n
    simpa [rangeD] using hi
  stop := fun i H F x hi => by
    show n ≤ i
    simpa [rangeD] using hi
  yld := fun i H F x H' ex hi hy ρ σ fp S => by
    obtain ⟨e, hy⟩ := hy
    subst e
    have hi' : i < n := by simpa [rangeD] using hi
    exact ⟨F, .int (lo + (i : Nat)), by simp [rangeD, hi'], S, Ext.refl _ _, hy, fun _ _ h => h, fun _ h => .inl h⟩
def dRange1 (ta : TDs) : TDs := fun ρ Q => ta ρ fun ds ρ1 => ∃ j : Int, ds = [.int j] ∧ -(2 ^ 62) ≤ j ∧ j < 2 ^ 62 ∧ Q (rangeD 0 j.toNat) ρ1
def dRange2 (ta : TDs) : TDs := fun ρ Q => ta ρ fun ds ρ1 => ∃ i j : Int, ds = [.int i, .int j] ∧ (-(2 ^ 62) ≤ i ∧ i < 2 ^ 62 ∧ -(2 ^ 62) ≤ j ∧ j < 2 ^ 62) ∧ Q (rangeD i (j - i).toNat) ρ1
theorem repl1 {F : Fz} {H : Hp} {i : Int} {vs : List V} (r : RepL F H [.int i] vs) : vs = [.int i] := by
  obtain ⟨v, r', e, h1, h2⟩ := r
  have h1 : v = .int i := h1
  have h2 : r' = [] := h2
  rw [e, h1, h2]
theorem repl2 {F : Fz} {H : Hp} {i j : Int} {vs : List V} (r : RepL F H [.int i, .int j] vs) : vs = [.int i, .int j] := by
  obtain ⟨v, r', e, h1, h2⟩ := r
  have h1 : v = .int i := h1
  rw [e, h1, repl1 h2]
theorem i_range1 {a : Expr} {ta : TDs} {p pos : Pos} (A : PVs X en [a] ta) (hm : X.mg "range" = none) (hg : Gl X "range" := by rfl) (hs : starEach [a] X.env = [(false, eval a X.env)] := by rfl) : PId X en tg (.Call (.Name "range" p) [a] [] pos) (dRange1 ta) := by
  refine ⟨(pi_range1 hg hm A.run hs).imp fun σ H R h => ?_, fun ρ Q Q' k h => A.mono _ _ _ (fun ds ρ1 ⟨j, h1, h2, h3, h4⟩ => ⟨j, h1, h2, h3, k _ _ h4⟩) h⟩
  obtain ⟨ρ, F, fp, S, h⟩ := h
  refine ⟨ρ, F, fp, S, A.mono _ _ _ (fun ds ρ1 ⟨j, h1, h2, h3, h4⟩ vs H1 F1 fp1 S1 E1 R1 => ?_) h⟩
  subst h1
  exact ⟨j, repl1 R1, h2, h3, h4 _ H1 F1 fp1 S1 E1 it_range⟩
theorem i_range2 {a b : Expr} {ta : TDs} {p pos : Pos} (A : PVs X en [a, b] ta) (hm : X.mg "range" = none) (hg : Gl X "range" := by rfl) (hs : starEach [a, b] X.env = [(false, eval a X.env), (false, eval b X.env)] := by rfl) (hs2 : starEach [b] X.env = [(false, eval b X.env)] := by rfl) :
    PId X en tg (.Call (.Name "range" p) [a, b] [] pos) (dRange2 ta) := by
  refine ⟨(pi_range2 hg hm A.run hs hs2).imp fun σ H R h => ?_, fun ρ Q Q' k h => A.mono _ _ _ (fun ds ρ1 ⟨i, j, h1, h2, h4⟩ => ⟨i, j, h1, h2, k _ _ h4⟩) h⟩
  obtain ⟨ρ, F, fp, S, h⟩ := h
  refine ⟨ρ, F, fp, S, A.mono _ _ _ (fun ds ρ1 ⟨i, j, h1, h2, h4⟩ vs H1 F1 fp1 S1 E1 R1 => ?_) h⟩
  subst h1
  exact ⟨i, j, repl2 R1, h2, h4 _ H1 F1 fp1 S1 E1 it_range⟩

/-! ### for -/
def dForL (g : TGd) (body : TSd) (A : DE) : List D → DSt → Prop
  | [], ρ => A.nx ρ
  | x :: xs, ρ => g x ρ fun ρ1 => body { nx := dForL g body A xs, ct := dForL g body A xs, bk := A.nx, rt := A.rt } ρ1
def dFor (ti : TDs) (g : TGd) (body : TSd) : TSd := fun A ρ => ti ρ fun xs ρ1 => dForL g body A xs ρ1
theorem mono_forL {g : TGd} {body : TSd} (mg : MonoG g) (mb : MonoS body) {A B : DE} (L : DE.Le A B) : ∀ (xs : List D) (ρ : DSt), dForL g body A xs ρ → dForL g body B xs ρ
  | [], ρ, h => L.nx ρ h
  | x :: xs, ρ, h => mg _ _ _ _ (fun ρ1 h => mb { nx := dForL g body A xs, ct := dForL g body A xs, bk := A.nx, rt := A.rt } { nx := dForL g body B xs, ct := dForL g body B xs, bk := B.nx, rt := B.rt } ρ1 ⟨mono_forL mg mb L xs, L.rt, L.nx, mono_forL mg mb L xs⟩ h) h
theorem for_loop {ρ1 : DSt} {σ : St} {H1 : Hp} {F1 : Fz} {fp1 : Nat → List Addr} {J : It} {xs : List D} {g : TGd} {tb : TSd} {A : DE} {D : Ends} (mg : MonoG g) (S1 : SI en ρ1 σ H1 F1 fp1) (K : ItOk en J xs F1 H1) (L : EnLe en F1 H1 A D) (h : dForL g tb A xs ρ1) :
    ∃ W : Nat → Nat → St → Hp → Prop, (∃ m, W 0 m σ H1) ∧ ∀ i m σ H, W i m σ H →
      (J.stop i H ∧ D.nx σ H) ∨ (J.go i H ∧ ∃ N : St → Hp → Prop, (∀ σ' H', N σ' H' → ∃ m', m' < m ∧ W (i + 1) m' σ' H') ∧ ∀ x H', J.yld i H x H' → liftG en sl g x σ H' fun σ2 H2 => liftS en tb { D with nx := N, ct := N, bk := D.nx } σ2 H2) := by
  refine ⟨fun i m σ' H' => m = xs.length - i ∧ i ≤ xs.length ∧ ∃ ρ' F' fp', SI en ρ' σ' H' F' fp' ∧ Ext F1 H1 F' H' ∧ dForL g tb A (xs.drop i) ρ', ⟨xs.length, rfl, Nat.zero_le _, ρ1, F1, fp1, S1, Ext.refl _ _, h⟩, ?_⟩
  rintro i m σ' H' ⟨rfl, hi, ρ', F', fp', S', E', h'⟩
  by_cases hlt : i < xs.length
  · refine .inr ⟨K.go i H' F' E' hlt, fun σ2 H2 => i + 1 ≤ xs.length ∧ ∃ ρ2 F2 fp2, SI en ρ2 σ2 H2 F2 fp2 ∧ Ext F1 H1 F2 H2 ∧ dForL g tb A (xs.drop (i + 1)) ρ2, fun σ2 H2 ⟨h1, h2⟩ => ⟨xs.length - (i + 1), by omega, rfl, h1, h2⟩, fun x H2 hy => ?_⟩
    obtain ⟨F2, d, hd, S2, E2, R2, _⟩ := K.yld i H' F' x H2 E' hlt hy ρ' σ' fp' S'
    have ed : xs.drop i = d :: xs.drop (i + 1) := by
      rw [List.drop_eq_getElem_cons hlt]
      congr 1
      rw [List.getElem?_eq_getElem hlt] at hd
      exact Option.some.inj hd
    rw [ed] at h'
    have E3 := E'.trans E2
    refine ⟨d, ρ', F2, fp', S2, R2, mg _ _ _ _ (fun ρ3 h3 σ3 fp3 S3 t3 => ?_) h'⟩
    refine ⟨_, ρ3, F2, fp3, ?_, S3, h3⟩
    have nx : ∀ σ4 H4, AtS en F2 H2 (dForL g tb A (xs.drop (i + 1))) σ4 H4 → i + 1 ≤ xs.length ∧ ∃ ρ2 F2 fp2, SI en ρ2 σ4 H4 F2 fp2 ∧ Ext F1 H1 F2 H4 ∧ dForL g tb A (xs.drop (i + 1)) ρ2 := fun σ4 H4 ⟨ρ4, F4, fp4, S4, E4, h4⟩ =>
      ⟨hlt, ρ4, F4, fp4, S4, E3.trans E4, h4⟩
    exact ⟨nx, L.rt, fun σ4 H4 ⟨ρ4, F4, fp4, S4, E4, h4⟩ => L.nx σ4 H4 ⟨ρ4, F4, fp4, S4, E3.trans E4, h4⟩, nx⟩
  · have e : i = xs.length := by omega
    subst e
    rw [List.drop_length] at h'
    exact .inl ⟨K.stop _ H' F' E' (Nat.le_refl _), L.nx σ' H' ⟨ρ', F', fp', S', E', h'⟩⟩
theorem s_for {iter : Expr} {body : List Stmt} {ti : TDs} {g : TGd} {tb : TSd} {pos : Pos} (hp : PassesOwn (model X.prog X.w) X.A X.env X.xe) (hc : X.calm = true) (I : PId X en tg iter ti) (G : PGd X en tg sl g) (B : PSsd X en body tb)
    (hs : ∀ x, foldedSetIterable iter X.env x = pure x := by intro _; rfl) : PSd X en (.For tg iter body [] pos) (dFor ti g tb) := by
  refine ⟨(ps_for hp hc I.run G.run B.run hs).imp fun D σ H h => ?_, fun A B' ρ L h => I.mono _ _ _ (fun xs ρ1 h => mono_forL G.mono B.mono L xs ρ1 h) h⟩
  obtain ⟨A, ρ, F, fp, L, S, h⟩ := h
  exact ⟨ρ, F, fp, S, I.mono _ _ _ (fun xs ρ1 h J H1 F1 fp1 S1 E1 K => for_loop G.mono S1 K (L.ext E1) h) h⟩

/-! ### while -/
/-- W: by a measure -/
def dWhile (c : TB) (body : TSd) : TSd := fun A ρ => ∃ W : Nat → DSt → Prop, (∃ m, W m ρ) ∧ ∀ m ρ, W m ρ →
  c ρ fun b ρ1 => if b = true then body { nx := fun ρ2 => ∃ m', m' < m ∧ W m' ρ2, ct := fun ρ2 => ∃ m', m' < m ∧ W m' ρ2, bk := A.nx, rt := A.rt } ρ1 else A.nx ρ1
theorem s_while {c : Expr} {body : List Stmt} {uc : TB} {tb : TSd} {pos : Pos} (hp : PassesOwn (model X.prog X.w) X.A X.env X.xe) (C : PB X en c uc) (B : PSsd X en body tb) : PSd X en (.While c body [] pos) (dWhile uc tb) := by
  refine ⟨(ps_while hp C.run B.run).imp fun D σ H h => ?_, fun A B' ρ L ⟨W, h0, h⟩ => ⟨W, h0, fun m ρ w => C.mono _ _ _ (fun b ρ1 h => ?_) (h m ρ w)⟩⟩
  · obtain ⟨A, ρ, F, fp, L, S, W, ⟨m0, w0⟩, h⟩ := h
    refine ⟨fun m σ' H' => ∃ ρ' F' fp', SI en ρ' σ' H' F' fp' ∧ Ext F H F' H' ∧ W m ρ', ⟨m0, ρ, F, fp, S, Ext.refl _ _, w0⟩, ?_⟩
    rintro m σ' H' ⟨ρ', F', fp', S', E', w⟩
    refine ⟨ρ', F', fp', S', C.mono _ _ _ (fun b ρ1 h1 H1 F1 fp1 S1 E1 => ?_) (h m ρ' w)⟩
    have E2 := E'.trans E1
    cases b with
    | true =>
      rw [if_pos rfl] at h1
      refine iteT ?_
      refine ⟨fun σ2 H2 => ∃ m', m' < m ∧ ∃ ρ2 F2 fp2, SI en ρ2 σ2 H2 F2 fp2 ∧ Ext F H F2 H2 ∧ W m' ρ2, fun σ2 H2 h2 => h2, ?_⟩
      refine ⟨_, ρ1, F1, fp1, ?_, S1, h1⟩
      have nx : ∀ σ4 H4, AtS en F1 H1 (fun ρ2 => ∃ m', m' < m ∧ W m' ρ2) σ4 H4 → ∃ m', m' < m ∧ ∃ ρ2 F2 fp2, SI en ρ2 σ4 H4 F2 fp2 ∧ Ext F H F2 H4 ∧ W m' ρ2 := fun σ4 H4 ⟨ρ4, F4, fp4, S4, E4, m', hm, w'⟩ =>
        ⟨m', hm, ρ4, F4, fp4, S4, E2.trans E4, w'⟩
      exact ⟨nx, L.rt, fun σ4 H4 ⟨ρ4, F4, fp4, S4, E4, h4⟩ => L.nx σ4 H4 ⟨ρ4, F4, fp4, S4, E2.trans E4, h4⟩, nx⟩
    | false =>
      rw [if_neg Bool.false_ne_true] at h1
      refine iteF ?_
      exact L.nx σ' H1 ⟨ρ1, F1, fp1, S1, E2, h1⟩
  · cases b with
    | true =>
      rw [if_pos rfl] at h ⊢
      exact B.mono { nx := fun ρ2 => ∃ m', m' < m ∧ W m' ρ2, ct := fun ρ2 => ∃ m', m' < m ∧ W m' ρ2, bk := A.nx, rt := A.rt } { nx := fun ρ2 => ∃ m', m' < m ∧ W m' ρ2, ct := fun ρ2 => ∃ m', m' < m ∧ W m' ρ2, bk := B'.nx, rt := B'.rt } _ ⟨fun _ h => h, L.rt, L.nx, fun _ h => h⟩ h
    | false => rw [if_neg Bool.false_ne_true] at h ⊢; exact L.nx _ h
end
end DL

/-! DLf: comprehensions over data. -/
namespace DL
open PySem PySem.Spec PyProof.Rows L2
variable [LamT]

def wipeD (ρ : DSt) : List Nat → DSt
  | [] => ρ
  | v :: vs => (wipeD ρ vs).set v none
theorem wipeD_length (ρ : DSt) : ∀ vs : List Nat, (wipeD ρ vs).length = ρ.length
  | [] => rfl
  | v :: vs => by unfold wipeD; rw [List.length_set, wipeD_length ρ vs]
theorem wipeD_some {ρ : DSt} {i : Nat} {x : Sl} : ∀ {vs : List Nat}, (wipeD ρ vs)[i]? = some (some x) → ρ[i]? = some (some x) ∧ i ∉ vs
  | [], h => ⟨h, by simp⟩
  | v :: vs, h => by
    unfold wipeD at h
    by_cases hi : v = i
    · subst hi
      by_cases hv : v < (wipeD ρ vs).length
      · rw [List.getElem?_set_self hv] at h; cases h
      · rw [List.getElem?_eq_none (by simpa using hv)] at h; cases h
    · rw [List.getElem?_set_ne hi] at h
      obtain ⟨h1, h2⟩ := wipeD_some h
      exact ⟨h1, by simp only [List.mem_cons, not_or]; exact ⟨fun e => hi e.symm, h2⟩⟩
theorem wipe_in {σ : St} {i : Nat} : ∀ {vs : List Nat}, i ∈ vs → (wipe σ vs)[i]? = if i < σ.length then some none else none
  | [], h => absurd h (by simp)
  | v :: vs, h => by
    unfold wipe
    by_cases hv : v = i
    · subst hv
      by_cases hl : v < σ.length
      · rw [List.getElem?_set_self (by rw [wipe_length]; exact hl), if_pos hl]
      · rw [List.getElem?_eq_none (by rw [List.length_set, wipe_length]; omega), if_neg hl]
    · rw [List.getElem?_set_ne hv]
      exact wipe_in ((List.mem_cons.mp h).resolve_left fun e => hv e.symm)
theorem wipe_set {vs : List Nat} {σ σ2 : St} (t : SetTo vs (wipe σ vs) σ2) : wipe σ2 vs = wipe σ vs := by
  have hl : σ2.length = σ.length := by rw [t.len, wipe_length]
  apply List.ext_getElem?
  intro i
  by_cases hi : i ∈ vs
  · rw [wipe_in hi, wipe_in hi, hl]
  · rw [wipe_out hi, t.ne i hi]
theorem wipe_setTo {vs : List Nat} {σ : St} : SetTo vs σ (wipe σ vs) := ⟨fun j h => wipe_out h, wipe_length σ vs⟩
theorem SetTo.symm {sl : List Nat} {σ σ1 : St} (a : SetTo sl σ σ1) : SetTo sl σ1 σ := ⟨fun j h => (a.ne j h).symm, a.len.symm⟩
section
variable {en : En} {ρ : DSt} {σ σ' : St} {H : Hp} {F : Fz} {fp : Nat → List Addr}
/-- slots are forgotten -/
theorem SI.forget (S : SI en ρ σ H F fp) {vs : List Nat} (t : SetTo vs σ σ') (hv : ∀ i ∈ vs, i ∉ en.ios) : SI en (wipeD ρ vs) σ' H F fp where
  toSince := S.toSince
  sl := fun i n d h => by
    obtain ⟨h1, h2⟩ := wipeD_some h
    obtain ⟨v, e, ow⟩ := S.sl i n d h1
    exact ⟨v, (t.ne i h2).trans e, ow⟩
  nd := S.nd
  dj := S.dj
  nF := S.nF
  tf := S.tf
  own := S.own
  io := fun p hp => (t.ne p.1 fun h => hv p.1 h (List.mem_map.mpr ⟨p, hp, rfl⟩)).trans (S.io p hp)
  len := by rw [wipeD_length, t.len]; exact S.len
  pinF := S.pinF
/-- an object that nobody knows yet is changed -/
theorem SI.updFree (S : SI en ρ σ H F fp) {p : Addr} {o : HO} (h0 : en.H0 p = none) (hF : ¬ F p) (hf : ∀ i, p ∉ fp i) (hp : H p ≠ none) : SI en ρ σ (upd H p o) F fp ∧ Ext F H F (upd H p o) := by
  have ne : ∀ a, F a → a ≠ p := fun a h e => hF (e ▸ h)
  have x : Ext F H F (upd H p o) := .of (fun _ h => h) fun a h => upd_ne (ne a h)
  have ne2 : ∀ i a, a ∈ fp i → a ≠ p := fun i a h e => hf i (e ▸ h)
  refine ⟨{ up := S.up, fr := S.fr, tr := fun a h => by rw [upd_ne (ne a h)]; exact S.tr a h, kp := fun a o' e n m => ?_, kF := fun a h => (S.kF a h).trans (x.kp a (S.up a h)), tb := fun p h => x.tb p h (S.tb p h), dm := fun a h => ?_, pH := S.pH, pf := S.pf, sl := fun i n d h => ?_, nd := S.nd, dj := S.dj, nF := S.nF, tf := fun i a h => by rw [upd_ne (ne2 i a h)]; exact S.tf i a h, own := S.own, io := S.io, len := S.len, pinF := S.pinF }, x⟩
  · rw [upd_ne (show a ≠ p from fun z => by rw [z, h0] at e; cases e)]
    exact S.kp a o' e n m
  · rw [upd_ne (show a ≠ p from fun z => h (z ▸ h0))]
    exact S.dm a h
  · obtain ⟨v, e, ow⟩ := S.sl i n d h
    exact ⟨v, e, ow.ext x _ _ _ _ fun a ha => upd_ne (ne2 i a ha)⟩
end
theorem ownL0 {F : Fz} {H : Hp} : ∀ {ds : List D} {vs : List V}, RepL F H ds vs → OwnL (Own F H 0) ds vs []
  | [], _, h => ⟨h, rfl⟩
  | d :: ds, _, h => by
    obtain ⟨v, r, e, h1, h2⟩ := h
    exact ⟨v, r, [], [], e, rfl, ⟨rfl, h1⟩, ownL0 h2⟩
theorem RepL.append {F : Fz} {H : Hp} : ∀ {ds es : List D} {vs ws : List V}, RepL F H ds vs → RepL F H es ws → RepL F H (ds ++ es) (vs ++ ws)
  | [], _, _, _, h, h' => by
    have h : _ = [] := h
    rw [h]
    exact h'
  | d :: ds, _, _, _, h, h' => by
    obtain ⟨v, r, e, h1, h2⟩ := h
    rw [e]
    exact ⟨v, r ++ _, rfl, h1, h2.append h'⟩
theorem RepL.one {F : Fz} {H : Hp} {d : D} {v : V} (h : Rep F H d v) : RepL F H [d] [v] := ⟨v, [], rfl, h, rfl⟩

/-! ### the tests of a clause -/
structure PBs (X : Cx) (en : En) (ifs : List Expr) (t : TB) : Prop where
  run : PTs X ifs (liftB en t)
  mono : MonoD t
def dYes : TB := fun ρ Q => Q true ρ
section
variable {X : Cx} {en : En}
theorem b_nil : PBs X en [] dYes := ⟨⟨fun pins s σ H Q I h => pts_nil.run pins s σ H Q I (by
  obtain ⟨ρ, F, fp, S, h⟩ := h
  exact h H F fp S (Ext.refl _ _))⟩, fun _ _ _ k h => k _ _ h⟩
theorem b_one {c : Expr} {t : TB} (C : PB X en c t) : PBs X en [c] t := ⟨pts_one C.run, C.mono⟩
end

/-! ### [e for tg in iter if ..] -/
def dLcL (vs : List Nat) (g : TGd) (tt : TB) (te : TO) (K : List D → DSt → Prop) : List D → List D → DSt → Prop
  | [], acc, ρ => K acc ρ
  | x :: xs, acc, ρ => g x ρ fun ρ1 => tt ρ1 fun b ρ2 => if b = true then te ρ2 fun s ρ3 => dLcL vs g tt te K xs (acc ++ [s.2]) (wipeD ρ3 vs) else dLcL vs g tt te K xs acc (wipeD ρ2 vs)
def dLc (vs : List Nat) (ti : TDs) (g : TGd) (tt : TB) (te : TO) : TO := fun ρ Q => ti ρ fun xs ρ1 => xs.length ≤ sizeLine ∧ dLcL vs g tt te (fun acc ρ' => Q (1, .lst acc) ρ') xs [] (wipeD ρ1 vs)
theorem mono_lcL {vs : List Nat} {g : TGd} {tt : TB} {te : TO} (mg : MonoG g) (mt : MonoD tt) (me : MonoD te) {K K' : List D → DSt → Prop} (k : ∀ a ρ, K a ρ → K' a ρ) : ∀ (xs acc : List D) (ρ : DSt), dLcL vs g tt te K xs acc ρ → dLcL vs g tt te K' xs acc ρ
  | [], acc, ρ, h => k acc ρ h
  | x :: xs, acc, ρ, h => mg _ _ _ _ (fun ρ1 h => mt _ _ _ (fun b ρ2 h => by
      cases b with
      | true => rw [if_pos rfl] at h ⊢; exact me _ _ _ (fun s ρ3 h => mono_lcL mg mt me k xs _ _ h) h
      | false => rw [if_neg Bool.false_ne_true] at h ⊢; exact mono_lcL mg mt me k xs _ _ h) h) h
section
variable {en : En} {ρ : DSt} {σ σ' : St} {H : Hp} {F : Fz} {fp : Nat → List Addr}
theorem SI.unwipe {vs : List Nat} (S : SI en ρ (wipe σ vs) H F fp) : SI en ρ σ H F fp where
  toSince := S.toSince
  sl := fun i n d h => by
    obtain ⟨v, e, ow⟩ := S.sl i n d h
    exact ⟨v, (wipe_some e).1, ow⟩
  nd := S.nd
  dj := S.dj
  nF := S.nF
  tf := S.tf
  own := S.own
  io := fun p hp => (wipe_some (S.io p hp)).1
  len := by rw [S.len, wipe_length]
  pinF := S.pinF
end
/-- under whatever entry with the same mutable arguments -/
def anyG (en : En) (sl : List Nat) (g : TGd) : TG := fun v σ H Q => ∃ en', en'.ios = en.ios ∧ liftG en' sl g v σ H Q
def anyB (en : En) (t : TB) : TT := fun σ H Q => ∃ en', en'.ios = en.ios ∧ liftB en' t σ H Q
def anyE (en : En) (t : TO) : TE := fun σ H Q => ∃ en', en'.ios = en.ios ∧ lift en' t σ H Q
section
variable {X : Cx} {en : En} {e : Expr} {sl : List Nat}
theorem pg_any {g : TGd} (h : ∀ en', en'.ios = en.ios → PGd X en' e sl g) : PG X e (anyG en sl g) := ⟨fun pins s σ H v u Q I r ⟨en', he, q⟩ => (h en' he).run.run pins s σ H v u Q I r q⟩
theorem pts_any {es : List Expr} {t : TB} (h : ∀ en', en'.ios = en.ios → PBs X en' es t) : PTs X es (anyB en t) := ⟨fun pins s σ H Q I ⟨en', he, q⟩ => (h en' he).run.run pins s σ H Q I q⟩
theorem pe_any {t : TO} (h : ∀ en', en'.ios = en.ios → PV X en' e t) : PE X e (anyE en t) := ⟨fun pins s σ H Q I ⟨en', he, q⟩ => (h en' he).run.run pins s σ H Q I q⟩
end
section
variable {X : Cx} {en : En} {tg iter elt : Expr} {ifs : List Expr} {ti : TDs} {g : TGd} {tt : TB} {te : TO} {sl vs : List Nat} {scope : Scope} {own : List (Str × Nat)} {pos spos : Pos}
/-- the reading of a list comprehension over data -/
theorem lc_loop {σ : St} {H1 : Hp} {F1 : Fz} {fp1 : Nat → List Addr} {ρ1 : DSt} {Q : VK} {J : It} {xs : List D} {KK : List D → DSt → Prop} (mg : MonoG g) (mt : MonoD tt) (me : MonoD te) (hsl : ∀ i ∈ sl, i ∈ vs) (hv : ∀ i ∈ vs, i ∉ en.ios)
    (S1 : SI en ρ1 σ H1 F1 fp1) (K : ItOk en J xs F1 H1) (hz : xs.length ≤ sizeLine) (h : dLcL vs g tt te KK xs [] (wipeD ρ1 vs)) (kk : ∀ acc ρ' v H' F' fp' l, KK acc ρ' → SI en ρ' σ H' F' fp' → Ext F1 H1 F' H' → Tmp en F' H' fp' (1, .lst acc) v l → Q v H') (dd : Addr) (hD : H1 dd = none) :
    ∃ W : Nat → Nat → Hp → Prop, (∃ m, W 0 m (upd H1 dd (.lst []))) ∧ ∀ i m H, W i m H →
      (J.stop i H ∧ Q (.ref dd) H) ∨ (J.go i H ∧ ∃ Nx : Hp → Prop, (∀ H', Nx H' → ∃ m', m' < m ∧ W (i + 1) m' H') ∧ ∀ x H', J.yld i H x H' → anyG en sl g x (wipe σ vs) H' fun σ2 H2 => wipe σ2 vs = wipe σ vs ∧ anyB en tt σ2 H2 fun b H3 =>
        if b = true then anyE en te σ2 H3 fun y H4 => ∃ acc, H4 dd = some (.lst acc) ∧ acc.length < sizeLine ∧ Nx (upd H4 dd (.lst (acc ++ [y]))) else Nx H3) := by
  obtain ⟨d0, dF, df, dF0⟩ := S1.free hD
  have S0 := S1.forget (σ' := wipe σ vs) wipe_setTo hv
  obtain ⟨S00, E00⟩ := S0.newO (o := .lst []) hD
  refine ⟨fun i m H' => m = xs.length - i ∧ i ≤ xs.length ∧ ∃ ρ' F' fp' acc vacc, SI en ρ' (wipe σ vs) H' F' fp' ∧ Ext F1 H1 F' H' ∧ H' dd = some (.lst vacc) ∧ ¬ F' dd ∧ (∀ i, dd ∉ fp' i) ∧ RepL F' H' acc vacc ∧ acc.length ≤ i ∧ dLcL vs g tt te KK (xs.drop i) acc ρ',
    ⟨xs.length, rfl, Nat.zero_le _, wipeD ρ1 vs, F1, fp1, [], [], S00, E00, upd_same, dF, df, rfl, Nat.zero_le _, h⟩, ?_⟩
  rintro i m H' ⟨rfl, hi, ρ', F', fp', acc, vacc, S', E', hDa, hDF, hDf, rA, lA, h'⟩
  by_cases hlt : i < xs.length
  · refine .inr ⟨K.go i H' F' E' hlt, fun H2 => ∃ ρ2 F2 fp2 acc vacc, SI en ρ2 (wipe σ vs) H2 F2 fp2 ∧ Ext F1 H1 F2 H2 ∧ H2 dd = some (.lst vacc) ∧ ¬ F2 dd ∧ (∀ i, dd ∉ fp2 i) ∧ RepL F2 H2 acc vacc ∧ acc.length ≤ i + 1 ∧ dLcL vs g tt te KK (xs.drop (i + 1)) acc ρ2,
      fun H2 h2 => ⟨xs.length - (i + 1), by omega, rfl, hlt, h2⟩, fun x H2 hy => ?_⟩
    obtain ⟨F2, d, hd, S2, E2, R2, k2, n2⟩ := K.yld i H' F' x H2 E' hlt hy ρ' _ fp' S'
    have ed : xs.drop i = d :: xs.drop (i + 1) := by
      rw [List.drop_eq_getElem_cons hlt]
      congr 1
      rw [List.getElem?_eq_getElem hlt] at hd
      exact Option.some.inj hd
    rw [ed] at h'
    have hD2 := k2 dd _ hDa
    have hDF2 : ¬ F2 dd := fun q => (n2 dd q).elim hDF fun z => by rw [hDa] at z; cases z
    refine ⟨rb en F2 H2 fp', rfl, d, ρ', F2, fp', S2.rebase, R2, mg _ _ _ _ (fun ρ3 h3 σ3 fp3 S3 t3 => ?_) h'⟩
    have tv := t3.wide hsl
    have ew := wipe_set tv
    have back : SetTo vs σ3 (wipe σ vs) := by rw [← ew]; exact wipe_setTo
    -- what is known of dd behind a part
    have keep : ∀ {ρ4 : DSt} {H4 : Hp} {F4 : Fz} {fp4 : Nat → List Addr}, SI (rb en F2 H2 fp') ρ4 σ3 H4 F4 fp4 → H4 dd = some (.lst vacc) ∧ ¬ F4 dd ∧ ∀ i, dd ∉ fp4 i := fun {ρ4 H4 F4 fp4} S4 => by
      refine ⟨S4.kp dd _ hD2 (fun ⟨i, z⟩ => hDf i z) hDF2, fun q => ?_, fun i q => ?_⟩
      · rcases S4.fr dd q with z | z | ⟨j, _, z⟩
        · exact hDF2 z
        · have z : H2 dd = none := z
          rw [hD2] at z; cases z
        · exact hDf j z
      · rcases S4.own i dd q with z | ⟨⟨j, z⟩, _⟩
        · have z : H2 dd = none := z
          rw [hD2] at z; cases z
        · exact hDf j z
    refine ⟨ew, rb en F2 H2 fp', rfl, ρ3, F2, fp3, S3, mt _ _ _ (fun b ρ4 h4 H4 F4 fp4 S4 E4 => ?_) h3⟩
    cases b with
    | true =>
      rw [if_pos rfl] at h4
      refine iteT ?_
      refine ⟨rb en F2 H2 fp', rfl, ρ4, F4, fp4, S4, me _ _ _ (fun s ρ5 h5 y H5 F5 fp5 l5 S5 E5 T5 => ?_) h4⟩
      obtain ⟨S6, R6⟩ := T5.freeze S5
      obtain ⟨k1, k2', k3⟩ := keep S6
      have S7 := (S2.unbase S6).forget back hv
      have E6 : Ext F' H' (addL F5 l5) H5 := ((E2.trans E4).trans E5).trans (Ext.addL _ _ _)
      obtain ⟨S8, E8⟩ := S7.updFree (o := .lst (vacc ++ [y])) d0 k2' k3 (by rw [k1]; simp)
      have ra := (RepL.ext (E6.trans E8) _ _ rA).append (RepL.one (R6.ext E8))
      refine ⟨vacc, k1, ?_, _, _, _, _, _, S8, E'.trans (E6.trans E8), upd_same, k2', k3, ra, by simpa using lA, h5⟩
      have := rA.len
      omega
    | false =>
      rw [if_neg Bool.false_ne_true] at h4
      refine iteF ?_
      obtain ⟨k1, k2', k3⟩ := keep S4
      have E6 : Ext F' H' F4 H4 := E2.trans E4
      exact ⟨_, _, _, _, _, (S2.unbase S4).forget back hv, E'.trans E6, k1, k2', k3, RepL.ext E6 _ _ rA, Nat.le_succ_of_le lA, h4⟩
  · have e : i = xs.length := by omega
    subst e
    rw [List.drop_length] at h'
    refine .inl ⟨K.stop _ H' F' E' (Nat.le_refl _), kk acc ρ' (.ref dd) H' F' fp' [dd] h' S'.unwipe E' ⟨⟨dd, vacc, [], rfl, hDa, ownL0 rA, rfl⟩, by simp, fun a ha => ?_⟩⟩
    have e : a = dd := by simpa using ha
    subst e
    exact ⟨hDF, by rw [hDa]; simp, d0, fun z => S1.pH _ z d0, hDf⟩
theorem lc_read {σ : St} {H : Hp} {Q : VK} (I : MonoD ti) (mg : MonoG g) (mt : MonoD tt) (me : MonoD te) (hsl : ∀ i ∈ sl, i ∈ vs) (hv : ∀ i ∈ vs, i ∉ en.ios)
    (h : lift en (dLc vs ti g tt te) σ H Q) : tLc (liftI en ti) (anyG en sl g) (anyB en tt) (anyE en te) vs σ H Q := by
  obtain ⟨ρ, F, fp, S, h⟩ := h
  exact ⟨ρ, F, fp, S, I _ _ _ (fun xs ρ1 ⟨hz, h⟩ J H1 F1 fp1 S1 E1 K => lc_loop mg mt me hsl hv S1 K hz h fun acc ρ' v H' F' fp' l q S' E' T' => q v H' F' fp' l S' (E1.trans E') T') h⟩
theorem mono_lc (I : MonoD ti) (mg : MonoG g) (mt : MonoD tt) (me : MonoD te) : MonoD (dLc vs ti g tt te) := fun ρ Q Q' k h => I _ _ _ (fun xs ρ1 ⟨hz, h⟩ => ⟨hz, mono_lcL mg mt me (fun a ρ h => k _ _ h) xs [] _ h⟩) h
/-- what the block's parts are to show -/
abbrev Blk (X : Cx) (scope : Scope) (Pr : Cx → Prop) : Prop := ∀ (s : Shared) (H : Hp) (C : Addr) (cl : List (Str × Addr)) (fp : List Addr), Pr (X.blk s H scope (compEnvC scope cl C X.env) fp)
theorem v_lc (hc : X.calm = true) (hN : X.N.Nodup) (I : PId X en tg iter ti) (ok : BlkOk X.N X.env.scope scope own) (hsl : ∀ i ∈ sl, i ∈ own.map (·.2)) (hv : ∀ i ∈ own.map (·.2), i ∉ en.ios)
    (hg : ∀ (s : Shared) (H : Hp) (C : Addr) (cl : List (Str × Addr)) (fp : List Addr) (en' : En), en'.ios = en.ios → PGd (X.blk s H scope (compEnvC scope cl C X.env) fp) en' tg sl g)
    (ht : ∀ (s : Shared) (H : Hp) (C : Addr) (cl : List (Str × Addr)) (fp : List Addr) (en' : En), en'.ios = en.ios → PBs (X.blk s H scope (compEnvC scope cl C X.env) fp) en' ifs tt)
    (he : ∀ (s : Shared) (H : Hp) (C : Addr) (cl : List (Str × Addr)) (fp : List Addr) (en' : En), en'.ios = en.ios → PV (X.blk s H scope (compEnvC scope cl C X.env) fp) en' elt te)
    (hs : ∀ x, foldedSetIterable iter X.env x = pure x := by intro _; rfl) : PV X en (.ListComp elt [⟨tg, iter, ifs, 0⟩] scope pos) (dLc (own.map (·.2)) ti g tt te) := by
  have mg : MonoG g := (hg {} (fun _ => none) 0 [] [] en rfl).mono
  have mt : MonoD tt := (ht {} (fun _ => none) 0 [] [] en rfl).mono
  have me : MonoD te := (he {} (fun _ => none) 0 [] [] en rfl).mono
  exact ⟨(pe_lc hc hN I.run ok (fun s H C cl fp => pg_any (hg s H C cl fp)) (fun s H C cl fp => pts_any (ht s H C cl fp)) (fun s H C cl fp => pe_any (he s H C cl fp)) hs).imp fun σ H Q h => lc_read I.mono mg mt me hsl hv h, mono_lc I.mono mg mt me⟩
end
end DL

/-! DLg: looking without freezing (v_flat, t_flat); what a name owns is changed: append, extend, pop, clear, d[k] = v; a call that changes what a name owns. -/
namespace DL
open PySem PySem.Spec PyProof.Rows L2
variable [LamT]

/-! ### looking -/
def frz (ρ : DSt) : DSt := ρ.map (Option.map fun s => (0, s.2))
def flatD : D → Bool
  | .non => true
  | .bl _ => true
  | .int _ => true
  | .str _ => true
  | .opq _ => true
  | _ => false
theorem rep_flat {F F' : Fz} {H H' : Hp} {d : D} {v : V} (f : flatD d = true) (r : Rep F H d v) : Rep F' H' d v := by
  cases d <;> first | exact r | exact absurd f (by simp [flatD])
def dFlat (t : TO) : TO := fun ρ Q => t (frz ρ) fun s _ => flatD s.2 = true ∧ Q (0, s.2) ρ
def dFlatB (t : TB) : TB := fun ρ Q => t (frz ρ) fun b _ => Q b ρ
section
variable {en : En} {ρ : DSt} {σ : St} {H H' : Hp} {F F' : Fz} {fp : Nat → List Addr}
def lookEn (F : Fz) (H : Hp) (fp : Nat → List Addr) : En := ⟨fun a => F a ∨ ∃ i, a ∈ fp i, H, fun _ => False, fun _ => False, []⟩
theorem SI.look (S : SI en ρ σ H F fp) : SI (lookEn F H fp) (frz ρ) σ H (fun a => F a ∨ ∃ i, a ∈ fp i) (fun _ => []) where
  up := fun _ h => h
  fr := fun _ h => .inl h
  tr := fun a h => h.elim (S.tr a) fun ⟨i, h⟩ => S.tf i a h
  kp := fun _ _ e _ _ => e
  kF := fun _ _ => .inl rfl
  dm := fun _ h => h
  pH := fun _ h => h.elim
  pf := fun _ h => h.elim
  tb := fun p h => (S.tb p h).of (fun _ z => .inl z) fun _ _ => rfl
  sl := fun i n d h => by
    unfold frz at h
    rw [List.getElem?_map] at h
    cases e : ρ[i]? with
    | none => rw [e] at h; cases h
    | some o =>
      rw [e] at h
      cases o with
      | none => cases h
      | some s =>
        cases h
        obtain ⟨v, e1, ow⟩ := S.sl i s.1 s.2 e
        exact ⟨v, e1, rfl, ow.freeze (fun _ h => .inl h) _ _ _ _ fun a h => .inr ⟨i, h⟩⟩
  nd := fun _ => List.nodup_nil
  dj := fun _ _ a _ h => absurd h (by simp)
  nF := fun _ a h => absurd h (by simp)
  tf := fun _ a h => absurd h (by simp)
  own := fun _ a h => absurd h (by simp)
  io := fun p h => absurd (show p ∈ ([] : List (Nat × V)) from h) (by simp)
  len := by unfold frz; rw [List.length_map]; exact S.len
  pinF := fun _ h => h.elim
/-- what is neither a table nor a code object -/
def Pln (x : Option HO) : Prop := (∀ ps, x ≠ some (.tbl ps)) ∧ ∀ c q, x ≠ some (LamX.CodeO c q)
theorem code_ne {c : Addr} {q : Str} {o : HO} (h : LamX.CodeO c q = o) (hn : ∀ p, o ≠ .ext p) : False := hn _ h.symm
theorem pln_lst {xs : List V} {x : Option HO} (h : x = some (.lst xs)) : Pln x := ⟨fun ps e => (by rw [h] at e; cases e), fun c q e => (by rw [h] at e; cases e)⟩
theorem pln_dK {xs : List (Key × V)} {x : Option HO} (h : x = some (.dK xs)) : Pln x := ⟨fun ps e => (by rw [h] at e; cases e), fun c q e => (by rw [h] at e; cases e)⟩
theorem pln_ins {C dx : Addr} {xs : List (Str × V)} {x : Option HO} (h : x = some (.ins C dx xs)) : Pln x := ⟨fun ps e => (by rw [h] at e; cases e), fun c q e => (by rw [h] at e; cases e)⟩
theorem ownL_pln {P : D → V → List Addr → Prop} {G : Addr → Prop} (hP : ∀ d v l, P d v l → ∀ a ∈ l, G a) : ∀ {ds : List D} {vs : List V} {l : List Addr}, OwnL P ds vs l → ∀ a ∈ l, G a
  | [], _, _, h => by rw [h.2]; exact fun a h => absurd h (by simp)
  | d :: ds, _, _, h => by
    obtain ⟨v, r, l1, l2, e1, e2, h1, h2⟩ := h
    intro a ha
    rw [e2] at ha
    rcases List.mem_append.mp ha with z | z
    · exact hP _ _ _ h1 a z
    · exact ownL_pln hP h2 a z
theorem ownK_pln {κ : Type} {P : D → V → List Addr → Prop} {G : Addr → Prop} (hP : ∀ d v l, P d v l → ∀ a ∈ l, G a) : ∀ {ds : List (κ × D)} {vs : List (κ × V)} {l : List Addr}, OwnK P ds vs l → ∀ a ∈ l, G a
  | [], _, _, h => by rw [h.2]; exact fun a h => absurd h (by simp)
  | d :: ds, _, _, h => by
    obtain ⟨v, r, l1, l2, e1, e2, h1, h2⟩ := h
    intro a ha
    rw [e2] at ha
    rcases List.mem_append.mp ha with z | z
    · exact hP _ _ _ h1 a z
    · exact ownK_pln hP h2 a z
theorem own_pln : ∀ (n : Nat) (d : D) (v : V) (l : List Addr), Own F H n d v l → ∀ a ∈ l, Pln (H a)
  | 0, d, v, l, h => by rw [h.1]; exact fun a h => absurd h (by simp)
  | n + 1, .lst ds, v, l, h => by
    obtain ⟨a, vs, ls, e, h1, h2, rfl⟩ := h
    intro b hb
    rcases List.mem_cons.mp hb with z | z
    · rw [z]; exact pln_lst h1
    · exact ownL_pln (fun d v l h => own_pln n d v l h) h2 b z
  | n + 1, .dic kvs, v, l, h => by
    obtain ⟨a, vs, ls, e, h1, h2, rfl⟩ := h
    intro b hb
    rcases List.mem_cons.mp hb with z | z
    · rw [z]; exact pln_dK h1
    · exact ownK_pln (fun d v l h => own_pln n d v l h) h2 b z
  | n + 1, .ins C fs, v, l, h => by
    obtain ⟨a, dx, vs, ls, e, h1, h2, rfl⟩ := h
    intro b hb
    rcases List.mem_cons.mp hb with z | z
    · rw [z]; exact pln_ins h1
    · exact ownK_pln (fun d v l h => own_pln n d v l h) h2 b z
  | n + 1, .spr c, v, l, h => by
    obtain ⟨a, b, is, i, j, r, e, h1, h2, h3, rfl⟩ := h
    intro x hx
    have hx : x = a ∨ x = b := by simpa using hx
    rcases hx with z | z
    · rw [z]; exact pln_lst h1
    · rw [z]; exact pln_lst h2
  | n + 1, .non, _, _, h => by rw [h.1]; exact fun a h => absurd h (by simp)
  | n + 1, .bl _, _, _, h => by rw [h.1]; exact fun a h => absurd h (by simp)
  | n + 1, .int _, _, _, h => by rw [h.1]; exact fun a h => absurd h (by simp)
  | n + 1, .str _, _, _, h => by rw [h.1]; exact fun a h => absurd h (by simp)
  | n + 1, .tup _, _, _, h => by rw [h.1]; exact fun a h => absurd h (by simp)
  | n + 1, .opq _, _, _, h => by rw [h.1]; exact fun a h => absurd h (by simp)
  | n + 1, .tag _ d, v, l, h => own_pln n d v l h.2
  | n + 1, .scr _ _, _, _, h => by rw [h.1]; exact fun a h => absurd h (by simp)
/-- slots that hold nothing own nothing -/
def clip (ρ : DSt) (fp : Nat → List Addr) : Nat → List Addr := fun i => match ρ[i]? with
  | some (some _) => fp i
  | _ => []
theorem clip_sub {ρ : DSt} {fp : Nat → List Addr} {i : Nat} {a : Addr} (h : a ∈ clip ρ fp i) : (∃ s, ρ[i]? = some (some s)) ∧ a ∈ fp i := by
  unfold clip at h
  split at h
  · rename_i s e
    exact ⟨⟨s, e⟩, h⟩
  · exact absurd h (by simp)
theorem clip_at {ρ : DSt} {fp : Nat → List Addr} {i : Nat} {s : Sl} (h : ρ[i]? = some (some s)) : clip ρ fp i = fp i := by
  unfold clip
  rw [h]
theorem SI.clip (S : SI en ρ σ H F fp) : SI en ρ σ H F (clip ρ fp) where
  toSince := S.toSince
  sl := fun i n d h => by
    obtain ⟨v, e, ow⟩ := S.sl i n d h
    exact ⟨v, e, by rw [clip_at h]; exact ow⟩
  nd := fun i => by
    unfold DL.clip
    split
    · exact S.nd i
    · exact List.nodup_nil
  dj := fun i j a hne h h' => S.dj i j a hne (clip_sub h).2 (clip_sub h').2
  nF := fun i a h => S.nF i a (clip_sub h).2
  tf := fun i a h => S.tf i a (clip_sub h).2
  own := fun i a h => S.own i a (clip_sub h).2
  io := S.io
  len := S.len
  pinF := S.pinF
def Liv (ρ : DSt) (H : Hp) (fp : Nat → List Addr) : Prop := (∀ i, ρ.length ≤ i → fp i = []) ∧ ∀ i a, a ∈ fp i → Pln (H a)
theorem SI.liv (S : SI en ρ σ H F fp) : Liv ρ H (DL.clip ρ fp) := ⟨fun i hi => by
    unfold DL.clip
    rw [List.getElem?_eq_none hi], fun i a h => by
    obtain ⟨⟨s, e⟩, ha⟩ := clip_sub h
    obtain ⟨v, _, ow⟩ := S.sl i s.1 s.2 e
    exact own_pln _ _ _ _ ow a ha⟩
theorem Liv.keep {H' : Hp} (L : Liv ρ H fp) (k : ∀ i a, a ∈ fp i → H' a = H a) : Liv ρ H' fp := ⟨L.1, fun i a h => by rw [k i a h]; exact L.2 i a h⟩
/-- what was frozen newly in a look stays so -/
def newF (F : Fz) (H : Hp) (F' : Fz) : Fz := fun a => F a ∨ (F' a ∧ H a = none)
theorem SI.unlook {ρ' : DSt} {fp' : Nat → List Addr} {H2 : Hp} (S : SI en ρ σ H F fp) (L : Liv ρ H fp) (T : SI (lookEn F H fp) ρ' σ H' F' fp') (h1 : ∀ i a, a ∈ fp i → H2 a = H a) (h2 : ∀ a, (∀ i, a ∉ fp i) → H2 a = H' a) : SI en ρ σ H2 (newF F H F') fp ∧ Ext F H (newF F H F') H2 := by
  have nF : ∀ a, F a → ∀ i, a ∉ fp i := fun a h i z => S.nF i a z h
  have nN : ∀ a, H a = none → ∀ i, a ∉ fp i := fun a h i z => S.tf i a z h
  have x : Ext F H (newF F H F') H2 := ⟨fun _ h => .inl h, fun a h => by rw [h2 a (nF a h)]; exact T.kF a (.inl h), fun p hp t => by
    obtain ⟨_, ps, e1, e2, e3⟩ := T.tb p hp
    refine ⟨.inl t.1, ps, (h2 _ (nF _ t.1)).trans e1, e2, fun pos cv hc => ?_⟩
    obtain ⟨c, c1, c2, c3⟩ := e3 pos cv hc
    have nc : ∀ i, c ∉ fp i := fun i z => by
      have kk := T.kF c (.inr ⟨i, z⟩)
      have pl := L.2 i c z
      rcases kk with e | ⟨o, ws, z1, z2⟩ | ⟨ps, more, z1, z2⟩
      · exact pl.2 c p.2 (Eq.trans e.symm c3)
      · rw [c3] at z2; cases z2
      · rw [c3] at z2; cases z2
    refine ⟨c, c1, ?_, (h2 c nc).trans c3⟩
    rcases T.fr c c2 with z | z | z
    · rcases z with z | ⟨i, z⟩
      · exact .inl z
      · exact absurd z (nc i)
    · exact .inr ⟨c2, z⟩
    · exact z.elim⟩
  refine ⟨S.go x (fun i a h => ⟨h1 i a h, fun z => z.elim (S.nF i a h) fun z => S.tf i a h z.2⟩) (fun a h => ?_) (fun a h => ?_) (fun a o e n => ?_) (fun a h z => ?_), x⟩
  · rcases h with h | h
    · exact .inl h
    · refine .inr (.inl ?_)
      cases q : en.H0 a with
      | none => rfl
      | some o => exact absurd h.2 (S.dm a (by rw [q]; simp))
  · rcases h with h | h
    · rw [h2 a (nF a h)]; exact T.dm a (S.tr a h)
    · rw [h2 a (nN a h.2)]; exact T.tr a h.1
  · by_cases ow : ∃ i, a ∈ fp i
    · obtain ⟨i, hi⟩ := ow
      rw [h1 i a hi]; exact e
    · rw [h2 a fun i z => ow ⟨i, z⟩]
      exact T.kp a o e (fun z => z) fun z => z.elim n ow
  · rcases z with z | z
    · exact S.pinF a h z
    · exact absurd z.2 (S.dm a (S.pH a h))
/-- locks are undone -/
theorem unlocks {X : Cx} {pins : List (Addr × Obj)} {s0 s : Shared} (I0 : Inv X pins σ H s0) : ∀ (l : List Addr) {H1 : Hp}, Inv X pins σ H1 s → (∀ a ∈ l, Pln (H a)) → (∀ a ∈ l, Kp (H a) (H1 a)) → ∃ H2, Inv X pins σ H2 s ∧ (∀ a ∈ l, H2 a = H a) ∧ ∀ a, a ∉ l → H2 a = H1 a
  | [], H1, I, _, _ => ⟨H1, I, fun a h => absurd h (by simp), fun _ _ => rfl⟩
  | a :: l, H1, I, pl, k => by
    have pl' : ∀ a ∈ l, Pln (H a) := fun b hb => pl b (List.mem_cons_of_mem _ hb)
    rcases k a List.mem_cons_self with e | ⟨o, ws, e1, e2⟩ | ⟨ps, more, e1, e2⟩
    · obtain ⟨H2, I2, g1, g2⟩ := unlocks I0 l I pl' fun b hb => k b (List.mem_cons_of_mem _ hb)
      refine ⟨H2, I2, fun b hb => ?_, fun b hb => g2 b fun z => hb (List.mem_cons_of_mem _ z)⟩
      by_cases hl : b ∈ l
      · exact g1 b hl
      · rcases List.mem_cons.mp hb with z | z
        · rw [g2 b hl, z]; exact e
        · exact absurd z hl
    · have I1 := I.unlock e2 (I0.nofrz e1 trivial)
      obtain ⟨H2, I2, g1, g2⟩ := unlocks I0 l I1 pl' fun b hb => by
        by_cases z : b = a
        · rw [z, upd_same]; exact .inl e1.symm
        · rw [upd_ne z]; exact k b (List.mem_cons_of_mem _ hb)
      refine ⟨H2, I2, fun b hb => ?_, fun b hb => ?_⟩
      · by_cases hl : b ∈ l
        · exact g1 b hl
        · rcases List.mem_cons.mp hb with z | z
          · rw [g2 b hl, z, upd_same]; exact e1.symm
          · exact absurd z hl
      · rw [g2 b fun z => hb (List.mem_cons_of_mem _ z), upd_ne fun z => hb (List.mem_cons.mpr (.inl z))]
    · exact absurd e1 ((pl a List.mem_cons_self).1 ps)
theorem SI.back {X : Cx} {pins : List (Addr × Obj)} {s0 s : Shared} {ρ' : DSt} {fp' : Nat → List Addr} (S : SI en ρ σ H F fp) (L : Liv ρ H fp) (I0 : Inv X pins σ H s0) (I : Inv X pins σ H' s) (T : SI (lookEn F H fp) ρ' σ H' F' fp') :
    ∃ H2 F2, Inv X pins σ H2 s ∧ SI en ρ σ H2 F2 fp ∧ Ext F H F2 H2 ∧ ∀ i a, a ∈ fp i → H2 a = H a := by
  have ml : ∀ a, a ∈ (List.range ρ.length).flatMap fp ↔ ∃ i, a ∈ fp i := fun a => by
    rw [List.mem_flatMap]
    constructor
    · exact fun ⟨i, _, h⟩ => ⟨i, h⟩
    · intro ⟨i, h⟩
      by_cases hi : i < ρ.length
      · exact ⟨i, List.mem_range.mpr hi, h⟩
      · rw [L.1 i (Nat.le_of_not_lt hi)] at h; exact absurd h (by simp)
  obtain ⟨H2, I2, g1, g2⟩ := unlocks I0 _ I (fun a ha => by
    obtain ⟨i, hi⟩ := (ml a).mp ha
    exact L.2 i a hi) fun a ha => T.kF a (.inr ((ml a).mp ha))
  have g3 : ∀ i a, a ∈ fp i → H2 a = H a := fun i a h => g1 a ((ml a).mpr ⟨i, h⟩)
  have u := S.unlook L T g3 fun a h => g2 a fun z => by
    obtain ⟨i, hi⟩ := (ml a).mp z
    exact h i hi
  exact ⟨H2, _, I2, u.1, u.2, g3⟩
end
section
variable {X : Cx} {en : En} {e : Expr} {t : TO} {u : TB}
theorem v_flat (h : ∀ en', en'.ios = [] → PV X en' e t) : PV X en e (dFlat t) := by
  refine ⟨⟨fun pins s σ H Q I q => ?_⟩, fun ρ Q Q' k q => (h ⟨fun _ => False, fun _ => none, fun _ => False, fun _ => False, []⟩ rfl).mono _ _ _ (fun s _ q => ⟨q.1, k _ _ q.2⟩) q⟩
  obtain ⟨ρ, F, fp, S0, q⟩ := q
  have S := S0.clip
  have V := h (lookEn F H (clip ρ fp)) rfl
  refine thn (V.run.run pins s σ H (fun v H1 => ∃ (s1 : Sl) (ρ1 : DSt) (F1 : Fz) (fp1 : Nat → List Addr), SI (lookEn F H (clip ρ fp)) ρ1 σ H1 F1 fp1 ∧ Rep F1 H1 s1.2 v ∧ flatD s1.2 = true ∧ ∀ v H' F' fp' l, SI en ρ σ H' F' fp' → Ext F H F' H' → Tmp en F' H' fp' (0, s1.2) v l → Q v H') I
    ⟨frz ρ, _, _, S.look, V.mono _ _ _ (fun s1 ρ1 ⟨f, q⟩ v H1 F1 fp1 l1 S1 E1 T1 => ?_) q⟩) fun v s1 ⟨x, H1, I1, r, s2, ρ1, F1, fp1, T1, R1, f, q⟩ => ?_
  · obtain ⟨H2, F2, I2, S2, E2, _⟩ := S.back S0.liv I I1 T1
    exact ⟨x, H2, I2, r, q x H2 F2 _ [] S2 E2 (Tmp.flat (rep_flat f R1))⟩
  · obtain ⟨S1', R1⟩ := T1.freeze S1
    exact ⟨s1, ρ1, _, fp1, S1', R1, f, q⟩
/-- looked at, with nothing frozen, the slots as they were -/
def lookE (en : En) (t : TO) : TE := fun σ H Q => ∃ ρ F fp, SI en ρ σ H F fp ∧ Liv ρ H fp ∧ t (frz ρ) fun s _ => flatD s.2 = true ∧ ∀ v H' F', SI en ρ σ H' F' fp → Ext F H F' H' → (∀ i a, a ∈ fp i → H' a = H a) → Rep F' H' s.2 v → Q v H'
theorem pe_look (h : ∀ en', en'.ios = [] → PV X en' e t) : PE X e (lookE en t) := by
  refine ⟨fun pins s σ H Q I q => ?_⟩
  obtain ⟨ρ, F, fp, S, hz, q⟩ := q
  have V := h (lookEn F H fp) rfl
  refine thn (V.run.run pins s σ H (fun v H1 => ∃ (s1 : Sl) (ρ1 : DSt) (F1 : Fz) (fp1 : Nat → List Addr), SI (lookEn F H fp) ρ1 σ H1 F1 fp1 ∧ Rep F1 H1 s1.2 v ∧ flatD s1.2 = true ∧ ∀ v H' F', SI en ρ σ H' F' fp → Ext F H F' H' → (∀ i a, a ∈ fp i → H' a = H a) → Rep F' H' s1.2 v → Q v H') I
    ⟨frz ρ, _, _, S.look, V.mono _ _ _ (fun s1 ρ1 ⟨f, q⟩ v H1 F1 fp1 l1 S1 E1 T1 => ?_) q⟩) fun v s1 ⟨x, H1, I1, r, s2, ρ1, F1, fp1, T1, R1, f, q⟩ => ?_
  · obtain ⟨H2, F2, I2, S2, E2, k2⟩ := S.back hz I I1 T1
    exact ⟨x, H2, I2, r, q x H2 F2 S2 E2 k2 (rep_flat f R1)⟩
  · obtain ⟨S1', R1⟩ := T1.freeze S1
    exact ⟨s1, ρ1, _, fp1, S1', R1, f, q⟩
theorem t_flat (h : ∀ en', en'.ios = [] → PB X en' e u) : PB X en e (dFlatB u) := by
  refine ⟨⟨fun pins s σ H Q I q => ?_⟩, fun ρ Q Q' k q => (h ⟨fun _ => False, fun _ => none, fun _ => False, fun _ => False, []⟩ rfl).mono _ _ _ (fun s _ q => k _ _ q) q⟩
  obtain ⟨ρ, F, fp, S0, q⟩ := q
  have S := S0.clip
  have V := h (lookEn F H (clip ρ fp)) rfl
  refine thn (V.run.run pins s σ H (fun b H1 => ∃ (ρ1 : DSt) (F1 : Fz) (fp1 : Nat → List Addr), SI (lookEn F H (clip ρ fp)) ρ1 σ H1 F1 fp1 ∧ ∀ H' F' fp', SI en ρ σ H' F' fp' → Ext F H F' H' → Q b H') I
    ⟨frz ρ, _, _, S.look, V.mono _ _ _ (fun b ρ1 q H1 F1 fp1 S1 E1 => ?_) q⟩) fun b s1 ⟨H1, I1, ρ1, F1, fp1, T1, q⟩ => ?_
  · exact ⟨ρ1, _, fp1, S1, q⟩
  · obtain ⟨H2, F2, I2, S2, E2, _⟩ := S.back S0.liv I I1 T1
    exact ⟨H2, I2, q H2 F2 _ S2 E2⟩
end

/-! ### what a name owns is changed -/
section
variable {en : En} {ρ : DSt} {σ : St} {H H' : Hp} {F F' : Fz} {fp : Nat → List Addr}
theorem ownL_zero : ∀ {ds : List D} {vs : List V} {l : List Addr}, OwnL (Own F H 0) ds vs l → l = [] ∧ RepL F H ds vs
  | [], _, _, h => ⟨h.2, h.1⟩
  | d :: ds, _, _, h => by
    obtain ⟨v, r, l1, l2, e1, e2, h1, h2⟩ := h
    obtain ⟨a, b⟩ := ownL_zero h2
    have h1' : l1 = [] := h1.1
    exact ⟨by rw [e2, a, h1']; rfl, v, r, e1, h1.2, b⟩
theorem ownK_zero : ∀ {ds : List (Key × D)} {vs : List (Key × V)} {l : List Addr}, OwnK (Own F H 0) ds vs l → l = [] ∧ RepK F H ds vs
  | [], _, _, h => ⟨h.2, h.1⟩
  | d :: ds, _, _, h => by
    obtain ⟨v, r, l1, l2, e1, e2, h1, h2⟩ := h
    obtain ⟨a, b⟩ := ownK_zero h2
    have h1' : l1 = [] := h1.1
    refine ⟨by rw [e2, a, h1']; rfl, _, r, e1, ?_, b⟩
    cases d
    exact ⟨rfl, h1.2⟩
theorem ownK0 : ∀ {ds : List (Key × D)} {vs : List (Key × V)}, RepK F H ds vs → OwnK (Own F H 0) ds vs []
  | [], _, h => ⟨h, rfl⟩
  | (k, d) :: ds, _, h => by
    obtain ⟨q, r, e, h1, h2⟩ := h
    have h1 : q.1 = k ∧ Rep F H d q.2 := h1
    refine ⟨q.2, r, [], [], ?_, rfl, ⟨rfl, h1.2⟩, ownK0 h2⟩
    rw [e, ← h1.1]
theorem own1_lst {ds : List D} {v : V} {l : List Addr} (h : Own F H 1 (.lst ds) v l) : ∃ a vs, v = .ref a ∧ H a = some (.lst vs) ∧ RepL F H ds vs ∧ l = [a] := by
  obtain ⟨a, vs, ls, e, h1, h2, e2⟩ := h
  obtain ⟨z, r⟩ := ownL_zero h2
  exact ⟨a, vs, e, h1, r, by rw [e2, z]⟩
theorem own1_dic {ds : List (Key × D)} {v : V} {l : List Addr} (h : Own F H 1 (.dic ds) v l) : ∃ a vs, v = .ref a ∧ H a = some (.dK vs) ∧ RepK F H ds vs ∧ l = [a] := by
  obtain ⟨a, vs, ls, e, h1, h2, e2⟩ := h
  obtain ⟨z, r⟩ := ownK_zero h2
  exact ⟨a, vs, e, h1, r, by rw [e2, z]⟩
theorem mk1_lst {ds : List D} {a : Addr} {vs : List V} (h : H a = some (.lst vs)) (r : RepL F H ds vs) : Own F H 1 (.lst ds) (.ref a) [a] := ⟨a, vs, [], rfl, h, ownL0 r, rfl⟩
theorem mk1_dic {ds : List (Key × D)} {a : Addr} {vs : List (Key × V)} (h : H a = some (.dK vs)) (r : RepK F H ds vs) : Own F H 1 (.dic ds) (.ref a) [a] := ⟨a, vs, [], rfl, h, ownK0 r, rfl⟩
theorem SI.mut (S : SI en ρ σ H F fp) {i : Nat} {n n' : Nat} {d d' : D} {v : V} {a : Addr} {o : HO} (hv : σ[i]? = some (some v)) (ha : a ∈ fp i) (new : Own F (upd H a o) n' d' v (fp i)) :
    SI en (ρ.set i (some (n', d'))) σ (upd H a o) F fp ∧ Ext F H F (upd H a o) := by
  have nF := S.nF i a ha
  have ne : ∀ b, F b → b ≠ a := fun b h e => nF (e ▸ h)
  have x : Ext F H F (upd H a o) := .of (fun _ h => h) fun b h => upd_ne (ne b h)
  have hn : H a ≠ none := S.tf i a ha
  have some_upd : ∀ b, H b ≠ none → upd H a o b ≠ none := fun b h => by
    by_cases e : b = a
    · rw [e, upd_same]; simp
    · rw [upd_ne e]; exact h
  refine ⟨{ up := S.up, fr := S.fr, tr := fun b h => some_upd b (S.tr b h), kp := fun b o' e n m => ?_, kF := fun a h => (S.kF a h).trans (x.kp a (S.up a h)), tb := fun p h => x.tb p h (S.tb p h), dm := fun b h => some_upd b (S.dm b h), pH := S.pH, pf := S.pf, sl := fun j m e h => ?_, nd := S.nd, dj := S.dj, nF := S.nF, tf := fun j b h => some_upd b (S.tf j b h), own := S.own, io := S.io, len := by rw [List.length_set]; exact S.len, pinF := S.pinF }, x⟩
  · rw [upd_ne (show b ≠ a from fun z => ?_)]
    · exact S.kp b o' e n m
    · rcases S.own i a ha with q | q
      · rw [z, q] at e; cases e
      · exact n (z ▸ q.1)
  · by_cases hji : j = i
    · subst hji
      have hlt : j < ρ.length := by
        have := (List.getElem?_eq_some_iff.mp h).1
        rwa [List.length_set] at this
      rw [List.getElem?_set_self hlt] at h
      cases h
      exact ⟨v, hv, new⟩
    · rw [List.getElem?_set_ne (Ne.symm hji)] at h
      obtain ⟨w, e1, ow⟩ := S.sl j m e h
      exact ⟨w, e1, ow.ext x _ _ _ _ fun b hb => upd_ne fun z => S.dj j i b hji hb (z ▸ ha)⟩
end
/-- a method of an owned list: by its data -/
def dMutL (i : Nat) (ta : TDs) (op : List D → List D → (Sl → List D → Prop) → Prop) : TO := fun ρ Q => ∃ n ds, ρ[i]? = some (some (n + 1, .lst ds)) ∧ ta ρ fun as ρ1 => ∃ ds, ρ1[i]? = some (some (1, .lst ds)) ∧
  op ds as fun s ds' => Q s (ρ1.set i (some (1, .lst ds')))
/-- the method's rule fits -/
def FitsM (r : V → List V → Hp → VK → Prop) (op : List D → List D → (Sl → List D → Prop) → Prop) : Prop := ∀ (a : Addr) (vs : List V) (ds as : List D) (us : List V) (F : Fz) (H : Hp) (Q : VK) (k : Sl → List D → Prop), H a = some (.lst vs) →
  RepL F H ds vs → RepL F H as us → op ds as k → (∀ d ds' vs' w, k (0, d) ds' → RepL F H ds' vs' → Rep F H d w → Q w (upd H a (.lst vs'))) → r (.ref a) us H Q
def MonoM (op : List D → List D → (Sl → List D → Prop) → Prop) : Prop := ∀ ds as k k', (∀ s d, k s d → k' s d) → op ds as k → op ds as k'
section
variable {X : Cx} {en : En} {es : List Expr} {ta : TDs}
theorem mutL_read {i : Nat} {r : V → List V → Hp → VK → Prop} {op : List D → List D → (Sl → List D → Prop) → Prop} (A : PVs X en es ta) (hf : FitsM r op) (hm : MonoM op) {σ : St} {H : Hp} {Q : VK} (h : lift en (dMutL i ta op) σ H Q) :
    tBM X.K "list" r (tVar i) (liftL en ta) σ H Q := by
  obtain ⟨ρ, F, fp, S, n, ds, h1, h⟩ := h
  obtain ⟨v, e, ow⟩ := S.sl i _ _ h1
  have ow2 := ow
  obtain ⟨a, vs, ls, ev, ha, hl, hfp⟩ := ow
  subst ev
  refine ⟨.ref a, e, .inl ⟨rfl, _, SqL.of ha⟩, ρ, F, fp, S, A.mono _ _ _ (fun as ρ1 ⟨ds1, h2, h⟩ us H1 F1 fp1 S1 E1 R1 => ?_) h⟩
  obtain ⟨v', e', ow'⟩ := S1.sl i _ _ h2
  rw [e] at e'
  cases e'
  obtain ⟨a', vs1, ev, ha1, r1, hfp1⟩ := own1_lst ow'
  cases ev
  refine hf a vs1 ds1 as us F1 H1 Q _ ha1 r1 R1 h fun d ds' vs' w hk rl rw => ?_
  have hx : Ext F1 H1 F1 (upd H1 a (.lst vs')) := .of (fun _ h => h) fun b h => upd_ne fun z => S1.nF i a (by rw [hfp1]; simp) (z ▸ h)
  obtain ⟨S2, E2⟩ := S1.mut (a := a) (n := 1) (n' := 1) (d := .lst ds1) (d' := .lst ds') (o := .lst vs') e (by rw [hfp1]; simp) (by rw [hfp1]; exact mk1_lst upd_same (RepL.ext hx _ _ rl))
  exact hk w _ F1 fp1 [] S2 (E1.trans E2) (Tmp.flat (rw.ext hx))
theorem mono_mutL {i : Nat} {op : List D → List D → (Sl → List D → Prop) → Prop} (A : MonoD ta) (hm : MonoM op) : MonoD (dMutL i ta op) := fun ρ Q Q' k ⟨n, ds, h1, h⟩ => ⟨n, ds, h1, A _ _ _ (fun as ρ1 ⟨ds1, h2, h⟩ => ⟨ds1, h2, hm _ _ _ _ (fun s d h => k _ _ h) h⟩) h⟩
theorem v_mutL {x : Str} {p apos cpos : Pos} {name : Str} {id : String} {e : Expr} {r : V → List V → Hp → VK → Prop} {op : List D → List D → (Sl → List D → Prop) → Prop} (slot : Slot "list" name id) (hty : typeOf (.builtin id) = pure (.type "method_descriptor")) (hm : MtR X id r)
    (hf : FitsM r op) (hmo : MonoM op) (i : Nat) (A : PVs X en (e :: es) ta) (hN : X.N[i]? = some x := by rfl) (hv : Vis X.env.scope x := by first | exact Or.inl rfl | exact Or.inr (Or.inl rfl) | exact Or.inr (Or.inr rfl))
    (hbase : attributeBase (.Name x p) name X.env (eval (.Name x p) X.env) = eval (.Name x p) X.env := by rfl)
    (hfew : ((backTo cpos (starEach (e :: es) X.env)).all (fun x => !x.1) && (backToKw cpos (keywordEach [] X.env)).all (fun x => x.1.isSome)
      && decide ((e :: es).length + ([] : List Keyword).length + (if ([] : List Keyword).isEmpty then 0 else 1) < 30)) = true := by rfl)
    (hline : (apos.endLine == cpos.line) = true := by rfl) (hs : starEach (e :: es) X.env = (false, eval e X.env) :: starEach es X.env := by rfl) (hplain : (backTo cpos (starEach es X.env)).any (·.1) = false := by rfl)
    (hd : (x == ("__debug__" : Str)) = false := by decide) (hcd : (x == ("__classdict__" : Str)) = false := by decide) : PV X en (.Call (.Attribute (.Name x p) name apos) (e :: es) [] cpos) (dMutL i ta op) :=
  ⟨(pe_bm PySem.F.plainAttrs_list slot hty hm (pe_var hN hv hd hcd) A.run hbase hfew hline hs hplain).imp fun σ H Q h => mutL_read A hf hmo h, mono_mutL A.mono hmo⟩
theorem v_mutL0 {x : Str} {p apos cpos : Pos} {name : Str} {id : String} {r : V → List V → Hp → VK → Prop} {op : List D → List D → (Sl → List D → Prop) → Prop} (slot : Slot "list" name id) (hty : typeOf (.builtin id) = pure (.type "method_descriptor")) (hm : MtR X id r)
    (hf : FitsM r op) (hmo : MonoM op) (i : Nat) (hN : X.N[i]? = some x := by rfl) (hv : Vis X.env.scope x := by first | exact Or.inl rfl | exact Or.inr (Or.inl rfl) | exact Or.inr (Or.inr rfl))
    (hbase : attributeBase (.Name x p) name X.env (eval (.Name x p) X.env) = eval (.Name x p) X.env := by rfl) (hline : (apos.endLine == cpos.line) = true := by rfl)
    (hd : (x == ("__debug__" : Str)) = false := by decide) (hcd : (x == ("__classdict__" : Str)) = false := by decide) : PV X en (.Call (.Attribute (.Name x p) name apos) [] [] cpos) (dMutL i dNil op) :=
  ⟨(pe_bm0 PySem.F.plainAttrs_list slot hty hm (pe_var hN hv hd hcd) hbase hline).imp fun σ H Q h => by
    obtain ⟨v, e, ty, ρ, F, fp, S, k⟩ := mutL_read (v_nil (X := X)) hf hmo h
    exact ⟨v, e, ty, k [] H F fp S (Ext.refl _ _) rfl⟩, mono_mutL (fun _ _ _ k h => k _ _ h) hmo⟩
def opAppend : List D → List D → (Sl → List D → Prop) → Prop := fun ds as k => ∃ d, as = [d] ∧ ds.length < sizeLine ∧ k (0, .non) (ds ++ [d])
theorem fits_append : FitsM rAppend opAppend := fun a vs ds as us F H Q k ha r ra ⟨d, e, hz, hk⟩ hq => by
  subst e
  obtain ⟨w, r', e, h1, h2⟩ := ra
  have h2 : r' = [] := h2
  subst h2
  exact ⟨a, vs, w, rfl, e, ha, by rw [← r.len]; exact hz, hq .non _ _ .non hk (r.append (RepL.one h1)) rfl⟩
theorem mono_append : MonoM opAppend := fun _ _ _ _ k ⟨d, e, z, h⟩ => ⟨d, e, z, k _ _ h⟩
def opPopAt : List D → List D → (Sl → List D → Prop) → Prop := fun ds as k => ∃ i : Int, as = [.int i] ∧ -(2 ^ 63) ≤ i ∧ i < 2 ^ 63 ∧ ∃ j d, seqIndex? i ds.length = some j ∧ ds[j]? = some d ∧ k (0, d) (ds.eraseIdx j)
theorem RepL.eraseIdx {F : Fz} {H : Hp} : ∀ {ds : List D} {vs : List V} (j : Nat), RepL F H ds vs → RepL F H (ds.eraseIdx j) (vs.eraseIdx j)
  | [], _, _, h => by
    have h : _ = [] := h
    subst h
    rfl
  | d :: ds, _, 0, h => by
    obtain ⟨v, r, e, h1, h2⟩ := h
    subst e
    exact h2
  | d :: ds, _, j + 1, h => by
    obtain ⟨v, r, e, h1, h2⟩ := h
    subst e
    exact ⟨v, r.eraseIdx j, rfl, h1, h2.eraseIdx j⟩
theorem fits_popAt : FitsM rPopAt opPopAt := fun a vs ds as us F H Q k ha r ra ⟨i, e, b1, b2, j, d, h1, h2, hk⟩ hq => by
  subst e
  obtain ⟨w, hw, rw⟩ := r.get h2
  refine ⟨a, vs, i, j, w, rfl, repl1 ra, ha, b1, b2, by rw [← r.len]; exact h1, hw, hq d _ _ w hk (r.eraseIdx j) rw⟩
theorem mono_popAt : MonoM opPopAt := fun _ _ _ _ k ⟨i, e, b1, b2, j, d, h1, h2, h⟩ => ⟨i, e, b1, b2, j, d, h1, h2, k _ _ h⟩
def opExtend : List D → List D → (Sl → List D → Prop) → Prop := fun ds as k => ∃ zs, as = [.lst zs] ∧ ds.length + zs.length ≤ sizeLine ∧ k (0, .non) (ds ++ zs)
theorem fits_extend : FitsM rExtend opExtend := fun a vs ds as us F H Q k ha r ra ⟨zs, e, hz, hk⟩ hq => by
  subst e
  obtain ⟨w, r', e, h1, h2⟩ := ra
  have h2 : r' = [] := h2
  subst h2
  obtain ⟨b, ws, ew, fb, hb, rz⟩ := h1
  subst ew
  exact ⟨a, b, vs, ws, rfl, e, ha, hb, by rw [← r.len, ← rz.len]; exact hz, hq .non _ _ .non hk (r.append rz) rfl⟩
theorem mono_extend : MonoM opExtend := fun _ _ _ _ k ⟨d, e, z, h⟩ => ⟨d, e, z, k _ _ h⟩
def opPop : List D → List D → (Sl → List D → Prop) → Prop := fun ds as k => as = [] ∧ ∃ d, ds[ds.length - 1]? = some d ∧ k (0, d) ds.dropLast
theorem RepL.dropLast {F : Fz} {H : Hp} : ∀ {ds : List D} {vs : List V}, RepL F H ds vs → RepL F H ds.dropLast vs.dropLast
  | [], _, h => by
    have h : _ = [] := h
    subst h
    rfl
  | [d], _, h => by
    obtain ⟨v, r, e, h1, h2⟩ := h
    have h2 : r = [] := h2
    subst e h2
    rfl
  | d :: d' :: ds, _, h => by
    obtain ⟨v, r, e, h1, h2⟩ := h
    obtain ⟨v', r', e', h1', h2'⟩ := id h2
    subst e e'
    exact ⟨v, _, rfl, h1, h2.dropLast⟩
theorem fits_pop : FitsM rPop opPop := fun a vs ds as us F H Q k ha r ra ⟨e, d, hd, hk⟩ hq => by
  subst e
  have ra : us = [] := ra
  subst ra
  obtain ⟨w, hw, rw⟩ := r.get hd
  exact ⟨a, vs, w, rfl, rfl, ha, by rw [← r.len]; exact hw, hq d _ _ w hk r.dropLast rw⟩
theorem mono_pop : MonoM opPop := fun _ _ _ _ k ⟨e, d, h1, h⟩ => ⟨e, d, h1, k _ _ h⟩
def opClear : List D → List D → (Sl → List D → Prop) → Prop := fun _ as k => as = [] ∧ k (0, .non) []
theorem fits_clear : FitsM rClear opClear := fun a vs ds as us F H Q k ha r ra ⟨e, hk⟩ hq => by
  subst e
  have ra : us = [] := ra
  subst ra
  exact ⟨a, vs, rfl, rfl, ha, hq .non _ _ .non hk rfl rfl⟩
theorem mono_clear : MonoM opClear := fun _ _ _ _ k ⟨e, h⟩ => ⟨e, k _ _ h⟩
theorem v_append {x : Str} {p apos cpos : Pos} {e : Expr} {te : TO} (i : Nat) (E : PV X en e te) (hN : X.N[i]? = some x := by rfl) (hv : Vis X.env.scope x := by first | exact Or.inl rfl | exact Or.inr (Or.inl rfl) | exact Or.inr (Or.inr rfl))
    (hbase : attributeBase (.Name x p) "append" X.env (eval (.Name x p) X.env) = eval (.Name x p) X.env := by rfl)
    (hfew : ((backTo cpos (starEach [e] X.env)).all (fun x => !x.1) && (backToKw cpos (keywordEach [] X.env)).all (fun x => x.1.isSome)
      && decide ([e].length + ([] : List Keyword).length + (if ([] : List Keyword).isEmpty then 0 else 1) < 30)) = true := by rfl)
    (hline : (apos.endLine == cpos.line) = true := by rfl) (hs : starEach [e] X.env = (false, eval e X.env) :: starEach [] X.env := by rfl) (hplain : (backTo cpos (starEach [] X.env)).any (·.1) = false := by rfl)
    (hd : (x == ("__debug__" : Str)) = false := by decide) (hcd : (x == ("__classdict__" : Str)) = false := by decide) : PV X en (.Call (.Attribute (.Name x p) "append" apos) [e] [] cpos) (dMutL i (dCons te dNil) opAppend) :=
  v_mutL PySem.F.slot_list_append PySem.F.type_list_append mt_append fits_append mono_append i (v_cons E v_nil hs) hN hv hbase hfew hline hs hplain hd hcd

end
end DL

/-! DLh: a call that changes what a name owns (v_callI); objects: made, their fields, their methods; a field stored. -/
namespace DL
open PySem PySem.Spec PyProof.Rows L2
variable [LamT]

/-! ### the arguments of a call, one of them a name whose thing the callee may change -/
structure RepI (p : Nat) (F : Fz) (H : Hp) (ds : List D) (vs : List V) (v : V) : Prop where
  len : ds.length = vs.length
  at_ : vs[p]? = some v
  rep : ∀ j d, ds[j]? = some d → j ≠ p → ∃ w, vs[j]? = some w ∧ Rep F H d w
structure PVi (X : Cx) (en : En) (i p : Nat) (es : List Expr) (t : TDs) : Prop where
  run : PA X es fun σ H Q => ∃ ρ F fp, SI en ρ σ H F fp ∧ t ρ fun ds ρ' => ∀ vs v H' F' fp', SI en ρ' σ H' F' fp' → Ext F H F' H' → σ[i]? = some (some v) → RepI p F' H' ds vs v → Q vs H'
  mono : MonoD t
def dHere (i : Nat) (t : TDs) : TDs := fun ρ Q => (∃ s, ρ[i]? = some (some s)) ∧ t ρ fun ds ρ' => Q (.non :: ds) ρ'
section
variable {X : Cx} {en : En} {e : Expr} {es : List Expr} {te : TO} {ta : TDs} {i p : Nat}
theorem i_here (i : Nat) {x : Str} {q : Pos} (B : PVs X en es ta) (hN : X.N[i]? = some x := by rfl) (hv : Vis X.env.scope x := by first | exact Or.inl rfl | exact Or.inr (Or.inl rfl) | exact Or.inr (Or.inr rfl))
    (hs : starEach (.Name x q :: es) X.env = (false, eval (.Name x q) X.env) :: starEach es X.env := by rfl) (hd : (x == ("__debug__" : Str)) = false := by decide) (hcd : (x == ("__classdict__" : Str)) = false := by decide) :
    PVi X en i 0 (.Name x q :: es) (dHere i ta) := by
  refine ⟨(pa_cons (pe_var hN hv hd hcd) B.run hs).imp fun σ H Q h => ?_, fun ρ Q Q' k h => ⟨h.1, B.mono _ _ _ (fun ds ρ' h => k _ _ h) h.2⟩⟩
  obtain ⟨ρ, F, fp, S, ⟨s, h0⟩, h⟩ := h
  obtain ⟨v, ev, _⟩ := S.sl i s.1 s.2 h0
  refine ⟨v, ev, ρ, F, fp, S, B.mono _ _ _ (fun ds ρ1 h vs H1 F1 fp1 S1 E1 R1 => ?_) h⟩
  refine h (v :: vs) v H1 F1 fp1 S1 E1 ev ⟨by simp [R1.len], rfl, fun j d hj hne => ?_⟩
  cases j with
  | zero => exact absurd rfl hne
  | succ j => exact R1.get (i := j) (by simpa using hj)
theorem i_next (A : PV X en e te) (B : PVi X en i p es ta) (hs : starEach (e :: es) X.env = (false, eval e X.env) :: starEach es X.env := by rfl) : PVi X en i (p + 1) (e :: es) (dCons te ta) := by
  refine ⟨(pa_cons A.run B.run hs).imp fun σ H Q h => ?_, fun ρ Q Q' k h => A.mono _ _ _ (fun x ρ1 q => B.mono _ _ _ (fun xs ρ2 q => k _ _ q) q) h⟩
  obtain ⟨ρ, F, fp, S, h⟩ := h
  refine ⟨ρ, F, fp, S, A.mono _ _ _ (fun x ρ1 hx v1 H1 F1 fp1 l1 S1 E1 T1 => ?_) h⟩
  obtain ⟨S1', R1⟩ := T1.freeze S1
  have E1' := E1.trans (Ext.addL F1 H1 l1)
  refine ⟨ρ1, _, fp1, S1', B.mono _ _ _ (fun xs ρ2 hxs vs v H2 F2 fp2 S2 E2 ev R2 => hxs (v1 :: vs) v H2 F2 fp2 S2 (E1'.trans E2) ev ⟨by simp [R2.len], by simpa using R2.at_, fun j d hj hne => ?_⟩) hx⟩
  cases j with
  | zero =>
    have e : x.2 = d := by simpa using hj
    subst e
    exact ⟨v1, rfl, R1.ext E2⟩
  | succ j =>
    obtain ⟨w, h1, h2⟩ := R2.rep j d (by simpa using hj) (fun z => hne (by rw [z]))
    exact ⟨w, by simpa using h1, h2⟩
end
section
variable {en : En} {ρ : DSt} {σ : St} {H H' : Hp} {F F' : Fz} {fp : Nat → List Addr}
/-- behind a call that may have changed what slot i owns -/
theorem SI.calledI (S : SI en ρ σ H F fp) {i : Nat} (P : Since (enOf F H (fp i) []) F' H') (lF : ∀ a ∈ fp i, ¬ F' a) {out : Option Sl} {lo : List Addr} (ho : ∀ n d, out = some (n, d) → ∃ v, σ[i]? = some (some v) ∧ Own F' H' n d v lo) (nd : lo.Nodup)
    (ok : ∀ a ∈ lo, ¬ F' a ∧ H' a ≠ none) (fo : ∀ a ∈ lo, H a = none ∨ a ∈ fp i) : SI en (ρ.set i out) σ H' F' (fun j => if j = i then lo else fp j) ∧ Ext F H F' H' := by
  have h0 : ∀ a, H a = none → en.H0 a = none := fun a h => by
    cases q : en.H0 a with
    | none => rfl
    | some o => exact absurd h (S.dm a (by rw [q]; simp))
  have nfi : ∀ a, F a → a ∉ fp i := fun a h z => S.nF i a z h
  have kk : ∀ a, H a ≠ none → a ∉ fp i → ¬ F a → H' a = H a := fun a h n m => by
    cases q : H a with
    | none => exact absurd q h
    | some o => exact P.kp a o q n m
  have x : Ext F H F' H' := ⟨P.up, fun a h => P.kF a h, fun p h _ => P.tb p h⟩
  have nf : ∀ a, H a ≠ none → ¬ F a → ¬ F' a := fun a h n q => (P.fr a q).elim n fun z => z.elim h id
  have key : ∀ j a, a ∈ (if j = i then lo else fp j) → (j = i ∧ a ∈ lo) ∨ (j ≠ i ∧ a ∈ fp j) := fun j a h => by
    split at h
    · exact .inl ⟨by assumption, h⟩
    · exact .inr ⟨by assumption, h⟩
  have loj : ∀ a j, a ∈ lo → j ≠ i → a ∉ fp j := fun a j h hj z => by
    rcases fo a h with q | q
    · exact S.tf j a z q
    · exact S.dj j i a hj z q
  refine ⟨{ up := fun a h => x.up a (S.up a h), fr := fun a h => ?_, tr := P.tr, kp := fun a o e n m => ?_, kF := fun a h => (S.kF a h).trans (x.kp a (S.up a h)), tb := fun p h => x.tb p h (S.tb p h), dm := fun a h => P.dm a (S.dm a h), pH := S.pH, pf := S.pf, sl := fun j m d h => ?_, nd := fun j => ?_, dj := fun j j' a hne h h' => ?_, nF := fun j a h => ?_, tf := fun j a h => ?_, own := fun j a h => ?_, io := S.io, len := by rw [List.length_set]; exact S.len, pinF := fun a h q => ?_ }, x⟩
  · rcases P.fr a h with q | q | q
    · exact S.fr a q
    · exact .inr (.inl (h0 a q))
    · exact q.elim
  · refine P.kp a o (S.kp a o e n m) (fun z => ?_) (S.nF0 e n m)
    rcases S.own i a z with q | q
    · rw [e] at q; cases q
    · exact n q.1
  · by_cases hji : j = i
    · subst hji
      have hlt : j < ρ.length := by
        have := (List.getElem?_eq_some_iff.mp h).1
        rwa [List.length_set] at this
      rw [List.getElem?_set_self hlt] at h
      have h := Option.some.inj h
      obtain ⟨v, e, ow⟩ := ho m d h
      exact ⟨v, e, by simp only [if_pos]; exact ow⟩
    · rw [List.getElem?_set_ne (Ne.symm hji)] at h
      obtain ⟨v, e, ow⟩ := S.sl j m d h
      exact ⟨v, e, by simp only [if_neg hji]; exact ow.ext x _ _ _ _ fun b hb => kk b (S.tf j b hb) (S.dj j i b hji hb) (S.nF j b hb)⟩
  · by_cases hji : j = i
    · simp only [if_pos hji]; exact nd
    · simp only [if_neg hji]; exact S.nd j
  · rcases key j a h with ⟨e, h⟩ | ⟨ne, h⟩ <;> rcases key j' a h' with ⟨e', h'⟩ | ⟨ne', h'⟩
    · exact hne (e.trans e'.symm)
    · exact loj a j' h ne' h'
    · exact loj a j h' ne h
    · exact S.dj j j' a hne h h'
  · rcases key j a h with ⟨e, h⟩ | ⟨ne, h⟩
    · exact (ok a h).1
    · exact nf a (S.tf j a h) (S.nF j a h)
  · rcases key j a h with ⟨e, h⟩ | ⟨ne, h⟩
    · exact (ok a h).2
    · rw [kk a (S.tf j a h) (S.dj j i a ne h) (S.nF j a h)]; exact S.tf j a h
  · rcases key j a h with ⟨e, h⟩ | ⟨ne, h⟩
    · rw [e]
      rcases fo a h with q | q
      · exact .inl (h0 a q)
      · exact S.own i a q
    · exact S.own j a h
  · by_cases hF : F a
    · exact S.pinF a h hF
    · exact absurd q (nf a (S.dm a (S.pH a h)) hF)
end
def dCallI (sp : SpD) (i p : Nat) (ta : TDs) (R : RX) : TO := fun ρ Q => ta ρ fun ds ρ1 => ∃ s, ρ1[i]? = some (some s) ∧ sp ((fz ds).set p s) (fun r out => Q r (ρ1.set i (some out))) fun x => R x (ρ1.set i none)
section
variable {X : Cx} {en : En} {e : Expr} {es : List Expr} {ta : TDs} {R : RX} {k i p : Nat} {sp : SpD} {x : Str} {q pos : Pos}
theorem callI_core {σ : St} {H : Hp} {Q : VK} {F : Fz} {ρ : DSt} {fp : Nat → List Addr} {ds : List D} {vs : List V} {v : V} {s : Sl} {Q' : Sl → DSt → Prop} (S : SI en ρ σ H F fp) (hp : p < ds.length) (ev : σ[i]? = some (some v)) (r : RepI p F H ds vs v) (hs : ρ[i]? = some (some s))
    (h : sp ((fz ds).set p s) (fun r out => Q' r (ρ.set i (some out))) fun x => R x (ρ.set i none)) (mono : MonoSp sp)
    (k : ∀ s ρ' v F' H' fp' l, SI en ρ' σ H' F' fp' → Ext F H F' H' → Tmp en F' H' fp' s v l → Q' s ρ' → Q v H') : spOf (some p) sp vs H Q (WE (wOf en R) σ) := by
  obtain ⟨v0, e0, ow⟩ := S.sl i s.1 s.2 hs
  rw [ev] at e0
  cases e0
  have ln : (fz ds).length = ds.length := by unfold fz; rw [List.length_map]
  refine ⟨(fz ds).set p s, F, fp i, { len := by rw [List.length_set, ln, r.len], rep := fun j s' v' h1 h2 hne => ?_, own := fun j hj => ?_, nil := fun z => (nomatch z), nd := S.nd i, ok := fun a h => ⟨S.nF i a h, S.tf i a h⟩, tr := S.tr, tb := S.tb }, mono _ _ _ _ _ (fun s' o hs' v' F' H' lr lo RO => ?_) (fun x hx cls dx F' H' P lF ex => ?_) h⟩
  · have hj : p ≠ j := fun z => hne (by rw [z])
    rw [List.getElem?_set_ne hj] at h1
    unfold fz at h1
    rw [List.getElem?_map] at h1
    cases e : ds[j]? with
    | none => rw [e] at h1; cases h1
    | some d =>
      rw [e] at h1
      cases h1
      obtain ⟨w, hw, rw'⟩ := r.rep j d e (Ne.symm hj)
      rw [h2] at hw
      cases hw
      exact ⟨rfl, rw'⟩
  · cases hj
    exact ⟨s, v, List.getElem?_set_self (by rw [ln]; exact hp), r.at_, ow⟩
  · obtain ⟨w, hw, owo⟩ := RO.out
    rw [r.at_] at hw
    cases hw
    have nd := List.nodup_append.mp RO.nd
    obtain ⟨S', x'⟩ := S.calledI (i := i) (out := some o) (lo := lo) RO.since RO.lF (fun n d e => by cases e; exact ⟨v, ev, owo⟩) nd.2.1 (fun a h => RO.ok a (List.mem_append_right _ h)) RO.fo
    refine k s' _ v' F' H' _ lr S' x' ⟨RO.ret, nd.1, fun a ha => ?_⟩ hs'
    have h0 : H a = none := RO.fr a ha
    have q := RO.ok a (List.mem_append_left _ ha)
    have e0 := (S.free h0).1
    refine ⟨q.1, q.2, e0, fun z => S.pH a z e0, fun j => ?_⟩
    by_cases hj : j = i
    · simp only [if_pos hj]
      exact fun z => nd.2.2 a ha a z rfl
    · simp only [if_neg hj]
      exact (S.free h0).2.2.1 j
  · obtain ⟨S', x'⟩ := S.calledI (i := i) (out := none) (lo := []) P lF (fun n d e => nomatch e) List.nodup_nil (fun a h => absurd h (by simp)) (fun a h => absurd h (by simp))
    exact ⟨_, F', _, x, S', ex, hx⟩
theorem v_callI (C : Callee X.prog X.w X.K X.mg X.base x k (some p) sp) (mono : MonoSp sp) (hr : Room k X.A) (tk : Takes X (wOf en R)) (A : PVi X en i p (e :: es) ta) (hg : Gl X x := by rfl) (hdb : (x == ("__debug__" : Str)) = false := by decide)
    (he : starEach (e :: es) X.env = (false, eval e X.env) :: starEach es X.env := by rfl) (hpl : (backTo pos (starEach es X.env)).any (·.1) = false := by rfl) : PV X en (.Call (.Name x q) (e :: es) [] pos) (dCallI sp i p ta R) := by
  obtain ⟨f, fd, ps, G, hm, hk, hb⟩ := C.ex
  refine ⟨(pe_callS G hr hg hm hk hb (fun σ => passAt tk σ) A.run hdb he hpl).imp fun σ H Q h => ?_, fun ρ Q Q' kk h => A.mono _ _ _ (fun ds ρ1 ⟨s, h1, h⟩ => ⟨s, h1, mono _ _ _ _ _ (fun r o h => kk _ _ h) (fun _ h => h) h⟩) h⟩
  obtain ⟨ρ, F, fp, S, h⟩ := h
  refine ⟨ρ, F, fp, S, A.mono _ _ _ (fun ds ρ1 ⟨s, h1, h⟩ vs v H1 F1 fp1 S1 E1 ev R1 => ?_) h⟩
  have hp : p < ds.length := by
    rw [R1.len]
    exact (List.getElem?_eq_some_iff.mp R1.at_).1
  exact callI_core (Q' := fun s ρ' => ∀ (v : V) (H' : Hp) (F' : Fz) (fp' : Nat → List Addr) (l : List Addr), SI en ρ' σ H' F' fp' → Ext F H F' H' → Tmp en F' H' fp' s v l → Q v H') S1 hp ev R1 h1 h mono
    fun s ρ' v F' H' fp' l S2 E2 T2 hs => hs v H' F' fp' l S2 (E1.trans E2) T2
end
end DL

/-! DLi: operators over data: displays, items, slices, arithmetic, comparisons, lengths, sums. -/
namespace DL
open PySem PySem.Spec PyProof.Rows L2
variable [LamT]

theorem OpR.or {X : Cx} {f : Value → Value → Sem Value} {r r' : R2} (h : OpR X f r) (h' : OpR X f r') : OpR X f (fun x y H Q => r x y H Q ∨ r' x y H Q) := by
  intro pins s σ H x y v u Q I rx ry q
  rcases q with q | q
  · exact h pins s σ H x y v u Q I rx ry q
  · exact h' pins s σ H x y v u Q I rx ry q
theorem CallR.or {X : Cx} {f : Value} {r r' : List V → Hp → VK → Prop} (h : CallR X f r) (h' : CallR X f r') : CallR X f (fun xs H Q => r xs H Q ∨ r' xs H Q) := by
  intro pins s σ H xs us Q I rx q
  rcases q with q | q
  · exact h pins s σ H xs us Q I rx q
  · exact h' pins s σ H xs us Q I rx q

/-! ### making answers -/
section
variable {F : Fz} {H : Hp} {p : Addr}
theorem ext_new (tr : ∀ a, F a → H a ≠ none) (hp : H p = none) (o : HO) : Ext F H F (upd H p o) := .of (fun _ h => h) fun a h => upd_ne fun e => tr a h (e ▸ hp)
theorem ext_newF (tr : ∀ a, F a → H a ≠ none) (hp : H p = none) (o : HO) : Ext F H (addF F p) (upd H p o) := .of (fun _ h => .inl h) fun a h => upd_ne fun e => tr a h (e ▸ hp)
theorem ans_lst (tr : ∀ a, F a → H a ≠ none) (hp : H p = none) {ds : List D} {vs : List V} (r : RepL F H ds vs) : Ans F H (1, .lst ds) (.ref p) F (upd H p (.lst vs)) [p] :=
  .new hp (mk1_lst upd_same (RepL.ext (ext_new tr hp _) _ _ r))
theorem ans_dic (tr : ∀ a, F a → H a ≠ none) (hp : H p = none) {ds : List (Key × D)} {vs : List (Key × V)} (r : RepK F H ds vs) : Ans F H (1, .dic ds) (.ref p) F (upd H p (.dK vs)) [p] :=
  .new hp (mk1_dic upd_same (RepK.ext (ext_new tr hp _) _ _ r))
theorem ans_tup (tr : ∀ a, F a → H a ≠ none) (hp : H p = none) {ds : List D} {vs : List V} (r : RepL F H ds vs) : Ans F H (0, .tup ds) (.ref p) (addF F p) (upd H p (.tup vs)) [] :=
  .newF hp ⟨p, vs, rfl, .inr rfl, upd_same, RepL.ext (ext_newF tr hp _) _ _ r⟩
end
theorem repl_nil {F : Fz} {H : Hp} {vs : List V} (r : RepL F H [] vs) : vs = [] := r
theorem repl_one {F : Fz} {H : Hp} {d : D} {vs : List V} (r : RepL F H [d] vs) : ∃ v, vs = [v] ∧ Rep F H d v := by
  obtain ⟨v, r', e, h1, h2⟩ := r
  exact ⟨v, by rw [e, repl_nil h2], h1⟩
theorem repl_two {F : Fz} {H : Hp} {d e : D} {vs : List V} (r : RepL F H [d, e] vs) : ∃ v w, vs = [v, w] ∧ Rep F H d v ∧ Rep F H e w := by
  obtain ⟨v, r', e, h1, h2⟩ := r
  obtain ⟨w, e2, h3⟩ := repl_one h2
  exact ⟨v, w, by rw [e, e2], h1, h3⟩

/-! ### displays -/
def wLst : WL := fun ds k => ds.length ≤ sizeLine ∧ k (1, .lst ds)
def wTup : WL := fun ds k => ds.length ≤ sizeLine ∧ k (0, .tup ds)
section
variable {X : Cx} {en : En} {a b c e : Expr} {es : List Expr} {ta tb tc : TO} {tl : TDs} {pos : Pos}
theorem v_lst (A : PVs X en es tl) : PV X en (.List es pos) (dL wLst tl) := by
  refine ⟨(pe_lst A.run).imp fun σ H Q h => lift_lst (r := fun xs H1 Q => xs.length ≤ sizeLine ∧ ∀ p, H1 p = none → Q (.ref p) (upd H1 p (.lst xs))) A (fun ds vs F H Q k tr r ⟨hz, hk⟩ q => ⟨by rw [← r.len]; exact hz, fun p hp => q _ _ _ _ _ hk (ans_lst tr hp r)⟩) h, mono_L (fun _ _ _ k h => ⟨h.1, k _ h.2⟩) A.mono⟩
theorem v_tup {x1} (A : PVs X en es tl) : PV X en (.Tuple es x1 pos) (dL wTup tl) := by
  refine ⟨(pe_tup A.run).imp fun σ H Q h => lift_lst (r := fun xs H1 Q => xs.length ≤ sizeLine ∧ ∀ p, H1 p = none → Q (.ref p) (upd H1 p (.tup xs))) A (fun ds vs F H Q k tr r ⟨hz, hk⟩ q => ⟨by rw [← r.len]; exact hz, fun p hp => q _ _ _ _ _ hk (ans_tup tr hp r)⟩) h, mono_L (fun _ _ _ k h => ⟨h.1, k _ h.2⟩) A.mono⟩

/-! ### items -/
def keyD : D → Option Key
  | .int i => some (.inl i)
  | .str x => some (.inr x)
  | _ => none
theorem keyD_rep {F : Fz} {H : Hp} {d : D} {k : Key} {v : V} (h : keyD d = some k) (r : Rep F H d v) : v = kV k := by
  cases d with
  | int i => cases h; exact r
  | str x => cases h; exact r
  | _ => exact nomatch h
def valD {κ : Type} [DecidableEq κ] (kvs : List (κ × D)) (k : κ) : Option D := (kvs.find? fun kv => decide (kv.1 = k)).map (·.2)
def wIx : W2 := fun x y k => match x with
  | .lst xs => ∃ i d, y = .int i ∧ atI xs i = some d ∧ k (0, d)
  | .tup xs => ∃ i d, y = .int i ∧ atI xs i = some d ∧ k (0, d)
  | .str z => ∃ i c, y = .int i ∧ z.length ≤ sizeLine ∧ atI z.cps.toList i = some c ∧ k (0, .str ⟨#[c]⟩)
  | .dic kvs => ∃ q d, keyD y = some q ∧ valD kvs q = some d ∧ k (0, d)
  | _ => False
theorem mono_ix : Mono2 wIx := fun x y k k' f h => by
  cases x <;> first
    | (obtain ⟨i, d, h1, h2, h3⟩ := h; exact ⟨i, d, h1, h2, f _ h3⟩)
    | (obtain ⟨i, d, h1, h2, h4, h3⟩ := h; exact ⟨i, d, h1, h2, h4, f _ h3⟩)
    | exact h.elim
theorem atI_rep {F : Fz} {H : Hp} {ds : List D} {vs : List V} {i : Int} {d : D} (r : RepL F H ds vs) (h : atI ds i = some d) : ∃ v, atI vs i = some v ∧ Rep F H d v := by
  unfold atI at h ⊢
  rw [← r.len]
  cases e : ixN ds.length i with
  | none => rw [e] at h; cases h
  | some j =>
    rw [e] at h
    obtain ⟨v, h1, h2⟩ := r.get h
    exact ⟨v, h1, h2⟩
theorem RepK.val {F : Fz} {H : Hp} : ∀ {kvs : List (Key × D)} {ws : List (Key × V)}, RepK F H kvs ws → ∀ k, (valD kvs k = none ∧ valV ws k = none) ∨ ∃ d v, valD kvs k = some d ∧ valV ws k = some v ∧ Rep F H d v
  | [], _, h, k => by
    have h : _ = [] := h
    subst h
    exact .inl ⟨rfl, rfl⟩
  | (k', d) :: r, _, h, k => by
    obtain ⟨q, s, e, h1, h2⟩ := h
    subst e
    have h1 : q.1 = k' ∧ Rep F H d q.2 := h1
    by_cases hk : k' = k
    · refine .inr ⟨d, q.2, ?_, valV_pos (h1.1.trans hk), h1.2⟩
      unfold valD
      rw [List.find?_cons, decide_eq_true (show ((k', d) : Key × D).1 = k from hk)]
      rfl
    · rw [valV_neg (fun z => hk (h1.1.symm.trans z))]
      have e : valD ((k', d) :: r) k = valD r k := by
        unfold valD
        rw [List.find?_cons, decide_eq_false (show ¬ ((k', d) : Key × D).1 = k from hk)]
      rw [e]
      exact h2.val k
def rIxD : R2 := fun x y H Q => ∃ a v, x = .ref a ∧ DGet H a y (some v) ∧ Q v H
theorem ix_dict (hu : X.A.units + 1 < cLine) : IxR X rIxD := by
  intro value slice pins s σ H x y v u Q I rx ry h hs
  obtain ⟨a, w, rfl, g, q⟩ := h
  obtain rfl : v = Value.ref a := rx
  exact tail_any (dict_typeIs I g) PySem.F.slot_dict_getitem.lookup (d_getItem hu I g ry fun w' s3 I3 rw' => ⟨w, H, I3, rw', q⟩) hs
theorem fits_ix : Fits2 (fun x y H Q => rIx X.K x y H Q ∨ rIxD x y H Q) wIx := fun x y v u F H Q k tr rx ry h q => by
  cases x with
  | lst xs =>
    obtain ⟨i, d, e, h1, hk⟩ := h
    subst e
    obtain ⟨a, vs, ev, f, ha, r⟩ := rx
    obtain ⟨w, h2, r2⟩ := atI_rep r h1
    exact .inl (.inl ⟨a, vs, i, w, ev, ry, SqL.of ha, h2, q _ _ _ _ _ hk (.same r2)⟩)
  | tup xs =>
    obtain ⟨i, d, e, h1, hk⟩ := h
    subst e
    obtain ⟨a, vs, ev, f, ha, r⟩ := rx
    obtain ⟨w, h2, r2⟩ := atI_rep r h1
    exact .inl (.inr (.inl ⟨a, vs, i, w, ev, ry, SqT.of ha, h2, q _ _ _ _ _ hk (.same r2)⟩))
  | str z =>
    obtain ⟨i, c, e, hz, h1, hk⟩ := h
    subst e
    exact .inl (.inr (.inr ⟨z, i, c, rx, ry, hz, h1, q _ _ _ _ _ hk (.same rfl)⟩))
  | dic kvs =>
    obtain ⟨j, d, e, h1, hk⟩ := h
    obtain ⟨a, ws, ev, f, ha, r⟩ := rx
    rcases r.val j with ⟨n, _⟩ | ⟨d', w, e1, e2, r2⟩
    · rw [n] at h1; cases h1
    · rw [h1] at e1
      cases e1
      exact .inr ⟨a, w, ev, .inl ⟨ws, j, ha, keyD_rep e ry, e2.symm⟩, q _ _ _ _ _ hk (.same r2)⟩
  | _ => exact h.elim
theorem v_ix (hu : X.A.units + 1 < cLine) (A : PV X en a ta) (B : PV X en b tb) (hs : PlainIx b := by intro _ _; rfl) : PV X en (.Subscript a b pos) (dB wIx ta tb) :=
  ⟨(pe_ix (ix_seq.or (ix_dict hu)) A.run B.run hs).imp fun σ H Q h => lift_two A B fits_ix h, mono_B mono_ix A.mono B.mono⟩

/-! ### arithmetic -/
def wAdd : W2
  | .int i, .int j, k => k (0, .int (i + j))
  | .lst xs, .lst ys, k => xs.length + ys.length ≤ sizeLine ∧ k (1, .lst (xs ++ ys))
  | .str x, .str y, k => x.length + y.length ≤ sizeLine ∧ k (0, .str (x ++ y))
  | _, _, _ => False
theorem mono_add : Mono2 wAdd := fun x y k k' f h => by
  cases x <;> cases y <;> first
    | exact f _ h
    | exact ⟨h.1, f _ h.2⟩
    | exact h.elim
theorem fits_add : Fits2 (fun x y H Q => (rI0 (fun i j => .int (i + j)) x y H Q ∨ rCat x y H Q) ∨ (∃ i j, x = .str i ∧ y = .str j ∧ i.length + j.length ≤ sizeLine ∧ Q (.str (i ++ j)) H)) wAdd := fun x y v u F H Q k tr rx ry h q => by
  cases x <;> cases y <;> first
    | exact .inl (.inl ⟨_, _, rx, ry, q _ _ _ _ _ h (.same rfl)⟩)
    | exact .inr ⟨_, _, rx, ry, h.1, q _ _ _ _ _ h.2 (.same rfl)⟩
    | (obtain ⟨a, vs, ev, f, ha, r⟩ := rx
       obtain ⟨b, ws, ew, f', hb, r'⟩ := ry
       exact .inl (.inr ⟨a, b, vs, ws, ev, ew, ha, hb, by rw [← r.len, ← r'.len]; exact h.1, fun p hp => q _ _ _ _ _ h.2 (ans_lst tr hp (r.append r'))⟩))
    | exact h.elim
theorem v_add (A : PV X en a ta) (B : PV X en b tb) : PV X en (.BinOp a .Add b pos) (dB wAdd ta tb) :=
  ⟨(pe_op ((op_add.or op_cat).or op_add_str) A.run B.run).imp fun σ H Q h => lift_two A B fits_add h, mono_B mono_add A.mono B.mono⟩
/-- two ints -/
def wI (C : Int → Int → Prop) (g : Int → Int → D) : W2
  | .int i, .int j, k => C i j ∧ k (0, g i j)
  | _, _, _ => False
theorem mono_I {C : Int → Int → Prop} {g : Int → Int → D} : Mono2 (wI C g) := fun x y k k' f h => by
  cases x <;> cases y <;> first
    | exact ⟨h.1, f _ h.2⟩
    | exact h.elim
theorem fits_I {C : Int → Int → Prop} {g : Int → Int → D} {gv : Int → Int → V} (hg : ∀ F H i j, Rep F H (g i j) (gv i j)) : Fits2 (rI C gv) (wI C g) := fun x y v u F H Q k tr rx ry h q => by
  cases x <;> cases y <;> first
    | exact ⟨_, _, rx, ry, h.1, q _ _ _ _ _ h.2 (.same (hg _ _ _ _))⟩
    | exact h.elim
def wI0 (g : Int → Int → D) : W2
  | .int i, .int j, k => k (0, g i j)
  | _, _, _ => False
theorem mono_I0 {g : Int → Int → D} : Mono2 (wI0 g) := fun x y k k' f h => by
  cases x <;> cases y <;> first
    | exact f _ h
    | exact h.elim
theorem fits_I0 {g : Int → Int → D} {gv : Int → Int → V} (hg : ∀ F H i j, Rep F H (g i j) (gv i j)) : Fits2 (rI0 gv) (wI0 g) := fun x y v u F H Q k tr rx ry h q => by
  cases x <;> cases y <;> first
    | exact ⟨_, _, rx, ry, q _ _ _ _ _ h (.same (hg _ _ _ _))⟩
    | exact h.elim
abbrev wSub : W2 := wI0 fun i j => .int (i - j)
abbrev wMul : W2 := wI CMul fun i j => .int (i * j)
abbrev wDiv : W2 := wI CDiv fun i j => .int (i / j)
abbrev wMod : W2 := wI (fun _ j => 0 < j) fun i j => .int (i % j)
theorem v_sub (A : PV X en a ta) (B : PV X en b tb) : PV X en (.BinOp a .Sub b pos) (dB wSub ta tb) := ⟨(pe_op op_sub A.run B.run).imp fun σ H Q h => lift_two A B (fits_I0 (g := fun i j => .int (i - j)) fun _ _ _ _ => rfl) h, mono_B mono_I0 A.mono B.mono⟩
theorem v_mul (A : PV X en a ta) (B : PV X en b tb) : PV X en (.BinOp a .Mult b pos) (dB wMul ta tb) := ⟨(pe_op op_mul A.run B.run).imp fun σ H Q h => lift_two A B (fits_I (g := fun i j => .int (i * j)) fun _ _ _ _ => rfl) h, mono_B mono_I A.mono B.mono⟩
theorem v_div (A : PV X en a ta) (B : PV X en b tb) : PV X en (.BinOp a .FloorDiv b pos) (dB wDiv ta tb) := ⟨(pe_op op_fdiv A.run B.run).imp fun σ H Q h => lift_two A B (fits_I (g := fun i j => .int (i / j)) fun _ _ _ _ => rfl) h, mono_B mono_I A.mono B.mono⟩
theorem v_mod (A : PV X en a ta) (B : PV X en b tb) : PV X en (.BinOp a .Mod b pos) (dB wMod ta tb) := ⟨(pe_op op_mod A.run B.run).imp fun σ H Q h => lift_two A B (fits_I (g := fun i j => .int (i % j)) fun _ _ _ _ => rfl) h, mono_B mono_I A.mono B.mono⟩
def wNeg : W1
  | .int i, k => k (0, .int (-i))
  | _, _ => False
theorem v_neg (A : PV X en a ta) : PV X en (.UnaryOp .USub a pos) (dU wNeg ta) := ⟨(pe_un un_neg A.run).imp fun σ H Q h => lift_one A (fun x v F H Q k tr rx h q => by
  cases x <;> first
    | exact ⟨_, rx, q _ _ _ _ _ h (.same rfl)⟩
    | exact h.elim) h, mono_U (fun x k k' f h => by
  cases x <;> first
    | exact f _ h
    | exact h.elim) A.mono⟩
end
end DL

/-! DLj: comparisons over data. -/
namespace DL
open PySem PySem.Spec PyProof.Rows L2
variable [LamT]

/-! ### == and != -/
def scalD : D → D → Bool
  | .non, .non => true | .non, .int _ => true | .int _, .non => true | .non, .bl _ => true | .bl _, .non => true | .non, .str _ => true | .str _, .non => true
  | .int _, .int _ => true | .bl _, .bl _ => true | .str _, .str _ => true
  | .int _, .str _ => true | .str _, .int _ => true | .bl _, .str _ => true | .str _, .bl _ => true
  | _, _ => false
def eqSc : D → D → Bool
  | .non, .non => true
  | .int i, .int j => decide (i = j)
  | .bl i, .bl j => decide (i = j)
  | .str i, .str j => decide (i = j)
  | _, _ => false
def pyFlat : D → Bool
  | .non => true
  | .bl _ => true
  | .int _ => true
  | .str _ => true
  | _ => false
/-- == of flat things -/
def eqFl : D → D → Bool
  | .non, .non => true
  | .bl a, .bl b => a == b
  | .bl a, .int b => (if a then 1 else 0) == b
  | .int a, .bl b => a == (if b then 1 else 0)
  | .int a, .int b => a == b
  | .str a, .str b => a == b
  | _, _ => false
def okL : D → D → Bool
  | .lst xs, .lst ys => xs.length != ys.length || (xs.zip ys).all fun p => pyFlat p.1 && pyFlat p.2
  | _, _ => false
def eqL : D → D → Bool
  | .lst xs, .lst ys => xs.length == ys.length && (xs.zip ys).all fun p => eqFl p.1 p.2
  | _, _ => false
mutual
def toPy : D → Option PyData
  | .non => some .none
  | .bl b => some (.bool b)
  | .int i => some (.int i)
  | .str x => some (.str x)
  | .lst xs => (toPyL xs).map .list
  | .tup xs => (toPyL xs).map .tuple
  | .dic _ => none
  | .ins _ _ => none
  | .spr _ => none
  | .scr _ _ => none
  | .opq _ => none
  | .tag _ _ => none
def toPyL : List D → Option (List PyData)
  | [] => some []
  | x :: xs => match toPy x, toPyL xs with
    | some p, some ps => some (p :: ps)
    | _, _ => none
end
def wEqB (neg : Bool) : W2 := fun x y k => if scalD x y = true then k (0, .bl (neg ^^ eqSc x y)) else if okL x y = true then k (0, .bl (neg ^^ eqL x y)) else
  ∃ p q, toPy x = some p ∧ toPy y = some q ∧ SeqAt.shaped p = true ∧ SeqAt.shaped q = true ∧ k (0, .bl (neg ^^ PyData.eqv p q))
abbrev wEq : W2 := wEqB false
abbrev wNe : W2 := wEqB true
theorem mono_eq {n : Bool} : Mono2 (wEqB n) := fun x y k k' f h => by
  unfold wEqB at h ⊢
  split
  · rename_i c; rw [if_pos c] at h; exact f _ h
  · rename_i c
    rw [if_neg c] at h
    split
    · rename_i c; rw [if_pos c] at h; exact f _ h
    · rename_i c
      rw [if_neg c] at h
      obtain ⟨p, q, h1, h2, h3, h4, h5⟩ := h
      exact ⟨p, q, h1, h2, h3, h4, f _ h5⟩
section
variable {F : Fz} {H : Hp}
mutual
theorem rep_py {K : PySem.W.Frag} : ∀ (d : D) (v : V) (p : PyData), toPy d = some p → Rep F H d v → Dp K H v p
  | .non, v, p, h, r => by
    have r : v = .non := r
    subst r
    cases h
    exact .non
  | .bl b, v, p, h, r => by
    have r : v = .bl b := r
    subst r
    cases h
    exact .bl b
  | .int i, v, p, h, r => by
    have r : v = .int i := r
    subst r
    cases h
    exact .int i
  | .str x, v, p, h, r => by
    have r : v = .str x := r
    subst r
    cases h
    exact .str x
  | .lst xs, v, p, h, r => by
    obtain ⟨a, vs, e, f, ha, rl⟩ := r
    subst e
    unfold toPy at h
    cases q : toPyL xs with
    | none => rw [q] at h; cases h
    | some ps =>
      rw [q] at h
      cases h
      exact .lst (SqL.of ha) (rep_pyL xs vs ps q rl)
  | .tup xs, v, p, h, r => by
    obtain ⟨a, vs, e, f, ha, rl⟩ := r
    subst e
    unfold toPy at h
    cases q : toPyL xs with
    | none => rw [q] at h; cases h
    | some ps =>
      rw [q] at h
      cases h
      exact .tup (SqT.of ha) (rep_pyL xs vs ps q rl)
  | .dic _, _, _, h, _ => by unfold toPy at h; cases h
  | .ins _ _, _, _, h, _ => by unfold toPy at h; cases h
  | .spr _, _, _, h, _ => by unfold toPy at h; cases h
  | .scr _ _, _, _, h, _ => by unfold toPy at h; cases h
  | .opq _, _, _, h, _ => by unfold toPy at h; cases h
  | .tag _ _, _, _, h, _ => by unfold toPy at h; cases h
theorem rep_pyL {K : PySem.W.Frag} : ∀ (ds : List D) (vs : List V) (ps : List PyData), toPyL ds = some ps → RepL F H ds vs → DpAll K H vs ps
  | [], vs, ps, h, r => by
    have r : vs = [] := r
    subst r
    unfold toPyL at h
    cases h
    exact .nil
  | x :: xs, vs, ps, h, r => by
    obtain ⟨v, r', e, h1, h2⟩ := r
    subst e
    unfold toPyL at h
    cases q : toPy x with
    | none => rw [q] at h; cases h
    | some p =>
      cases q2 : toPyL xs with
      | none => rw [q, q2] at h; cases h
      | some ps' =>
        rw [q, q2] at h
        cases h
        exact .cons (rep_py x v p q h1) (rep_pyL xs r' ps' q2 h2)
end
end
/-- two lists whose places hold flat things, or which are not of one length -/
def okLV (xs ys : List V) : Bool := xs.length != ys.length || (xs.zip ys).all fun p => flatV p.1 && flatV p.2
def eqLV (xs ys : List V) : Bool := xs.length == ys.length && (xs.zip ys).all fun p => eqV p.1 p.2
def rEqLF (neg : Bool) : R2 := fun x y H Q => ∃ a b xs ys, x = .ref a ∧ y = .ref b ∧ H a = some (.lst xs) ∧ H b = some (.lst ys) ∧ okLV xs ys = true ∧ Q (.bl (neg ^^ eqLV xs ys)) H
section
variable {X : Cx} {pins : List (Addr × Obj)} {σ : St} {H : Hp} {s : Shared}
def eAt (xs ys : List V) (j : Nat) : Bool := match xs[j]?, ys[j]? with
  | some x, some y => eqV x y
  | _, _ => true
theorem zip_all_range : ∀ (xs ys : List V), xs.length = ys.length → (xs.zip ys).all (fun q => eqV q.1 q.2) = (List.range xs.length).all (eAt xs ys)
  | [], [], _ => by simp
  | x :: xs, y :: ys, h => by
    have ih := zip_all_range xs ys (by simpa using h)
    rw [List.length_cons, List.range_succ_eq_map, List.all_cons, List.zip_cons_cons, List.all_cons, ih, List.all_map]
    rfl
theorem okEqL (I : Inv X pins σ H s) {A : Around} {a b : Addr} {xs ys : List V} (ha : H a = some (.lst xs)) (hb : H b = some (.lst ys)) (hl : xs.length = ys.length) (hf : ((xs.zip ys).all fun p => flatV p.1 && flatV p.2) = true) :
    ∃ its its2 : List Value, ∃ e : Nat → Bool, s.heap.IsList a its.toArray ∧ s.heap.IsList b its2.toArray ∧ its.toArray.size = its2.toArray.size ∧ (∀ j (h1 : j < its.toArray.size) (h2 : j < its2.toArray.size), SeqAt.EqAt A s its.toArray[j] its2.toArray[j] (e j)) ∧
      (List.range its.toArray.size).all e = eqLV xs ys := by
  obtain ⟨its, r, p, _⟩ := I.list (SqL.of ha)
  obtain ⟨its2, r2, p2, _⟩ := I.list (SqL.of hb)
  have l1 := r.length
  have l2 := r2.length
  refine ⟨its, its2, eAt xs ys, p.isList, p2.isList, by simp; omega, fun j h1 h2 => ?_, ?_⟩
  · have j1 : j < xs.length := by rw [l1]; simpa using h1
    have j2 : j < ys.length := by rw [l2]; simpa using h2
    obtain ⟨u, hu, ru⟩ := r.get (List.getElem?_eq_getElem j1)
    obtain ⟨u2, hu2, ru2⟩ := r2.get (List.getElem?_eq_getElem j2)
    have e1 : its.toArray[j] = u := by
      have := List.getElem?_eq_getElem (l := its) (i := j) (by simpa using h1)
      rw [this] at hu
      simpa using hu
    have e2 : its2.toArray[j] = u2 := by
      have := List.getElem?_eq_getElem (l := its2) (i := j) (by simpa using h2)
      rw [this] at hu2
      simpa using hu2
    unfold eAt
    rw [e1, e2, List.getElem?_eq_getElem j1, List.getElem?_eq_getElem j2]
    have hm : (xs[j], ys[j]) ∈ xs.zip ys := by
      have : (xs.zip ys)[j]? = some (xs[j], ys[j]) := by rw [List.getElem?_zip_eq_some]; exact ⟨List.getElem?_eq_getElem j1, List.getElem?_eq_getElem j2⟩
      exact List.mem_of_getElem? this
    have q := List.all_eq_true.mp hf _ hm
    simp only [Bool.and_eq_true] at q
    exact eqAt_V ru ru2 q.1 q.2
  · unfold eqLV
    rw [zip_all_range xs ys hl, hl]
    have e : its.toArray.size = ys.length := by simp; omega
    rw [e]
    simp
theorem op_eqLF (hu : X.A.units + 64 < cLine) : OpR X (compareOp .Eq) (rEqLF false) := by
  intro pins s σ H x y v u Q I rx ry h
  obtain ⟨a, b, xs, ys, rfl, rfl, ha, hb, ok, q⟩ := h
  cases rx
  cases ry
  by_cases hl : xs.length = ys.length
  · have hf : ((xs.zip ys).all fun p => flatV p.1 && flatV p.2) = true := by
      unfold okLV at ok
      simpa [hl] using ok
    obtain ⟨its, its2, e, h1, h2, h3, h4, h5⟩ := okEqL I (A := X.A.in1) ha hb hl hf
    refine SeqAt.eq_listAt h1 h2 h3 (by omega) h4 ?_
    rw [h5]
    exact ⟨.bl _, H, I, rfl, by simpa using q⟩
  · obtain ⟨its, r, p, _⟩ := I.list (SqL.of ha)
    obtain ⟨its2, r2, p2, _⟩ := I.list (SqL.of hb)
    have l1 := r.length
    have l2 := r2.length
    refine SeqAt.eq_list_lengthsAt p.isList p2.isList (by simp; omega) (by omega) ?_
    have e : eqLV xs ys = false := by unfold eqLV; simp [hl]
    rw [e] at q
    exact ⟨.bl _, H, I, rfl, by simpa using q⟩
theorem op_neLF (hu : X.A.units + 64 < cLine) : OpR X (compareOp .NotEq) (rEqLF true) := by
  intro pins s σ H x y v u Q I rx ry h
  obtain ⟨a, b, xs, ys, rfl, rfl, ha, hb, ok, q⟩ := h
  cases rx
  cases ry
  by_cases hl : xs.length = ys.length
  · have hf : ((xs.zip ys).all fun p => flatV p.1 && flatV p.2) = true := by
      unfold okLV at ok
      simpa [hl] using ok
    obtain ⟨its, its2, e, h1, h2, h3, h4, h5⟩ := okEqL I (A := X.A.in1) ha hb hl hf
    refine SeqAt.RcNeAt.lists h1 h2 h3 (by omega) h4 X.prog X.w _ _ ?_
    rw [h5]
    exact ⟨.bl _, H, I, rfl, by simpa using q⟩
  · obtain ⟨its, r, p, _⟩ := I.list (SqL.of ha)
    obtain ⟨its2, r2, p2, _⟩ := I.list (SqL.of hb)
    have l1 := r.length
    have l2 := r2.length
    refine SeqAt.RcNeAt.lists_lengths p.isList p2.isList (by simp; omega) (by omega) X.prog X.w _ _ ?_
    have e : eqLV xs ys = false := by unfold eqLV; simp [hl]
    rw [e] at q
    exact ⟨.bl _, H, I, rfl, by simpa using q⟩
end
section
variable {F : Fz} {H : Hp}
theorem flat_rep {d : D} {v : V} (f : pyFlat d = true) (r : Rep F H d v) : flatV v = true := by
  cases d <;> first
    | (have r : v = _ := r; subst r; rfl)
    | exact absurd (show false = true from f) Bool.false_ne_true
theorem eqFl_rep {d e : D} {v u : V} (f : pyFlat d = true) (f' : pyFlat e = true) (r : Rep F H d v) (r' : Rep F H e u) : eqV v u = eqFl d e := by
  cases d <;> first
    | exact absurd (show false = true from f) Bool.false_ne_true
    | (cases e <;> first
        | exact absurd (show false = true from f') Bool.false_ne_true
        | (have r : v = _ := r; have r' : u = _ := r'; subst r r'; rfl))
theorem zip_rep : ∀ {xs ys : List D} {vs us : List V}, RepL F H xs vs → RepL F H ys us → ((xs.zip ys).all fun p => pyFlat p.1 && pyFlat p.2) = true →
    ((vs.zip us).all fun p => flatV p.1 && flatV p.2) = true ∧ ((vs.zip us).all fun p => eqV p.1 p.2) = (xs.zip ys).all fun p => eqFl p.1 p.2
  | [], _, _, _, r, _, _ => by
    have r : _ = [] := r
    subst r
    exact ⟨rfl, rfl⟩
  | _ :: _, [], _, _, r, r', _ => by
    have r' : _ = [] := r'
    subst r'
    simp
  | x :: xs, y :: ys, _, _, r, r', h => by
    obtain ⟨v, r2, e, h1, h2⟩ := r
    obtain ⟨u, r3, e', h3, h4⟩ := r'
    subst e e'
    rw [List.zip_cons_cons, List.all_cons, Bool.and_eq_true, Bool.and_eq_true] at h
    obtain ⟨a, b⟩ := zip_rep h2 h4 h.2
    refine ⟨?_, ?_⟩
    · rw [List.zip_cons_cons, List.all_cons, a, flat_rep h.1.1 h1, flat_rep h.1.2 h3]
      rfl
    · rw [List.zip_cons_cons, List.all_cons, List.zip_cons_cons, List.all_cons, b, eqFl_rep h.1.1 h.1.2 h1 h3]
theorem scal_rep {d e : D} {v u : V} (h : scalD d e = true) (r : Rep F H d v) (r' : Rep F H e u) : scal v u = true ∧ decide (v = u) = eqSc d e := by
  cases d <;> cases e <;> first
    | exact absurd (show false = true from h) Bool.false_ne_true
    | (have r : v = _ := r; have r' : u = _ := r'; subst r r'; exact ⟨rfl, by simp [eqSc]⟩)
end
theorem fits_eq {K : PySem.W.Frag} {neg : Bool} : Fits2 (fun x y H Q => ((scal x y = true ∧ Q (.bl (neg ^^ decide (x = y))) H) ∨ rEqLF neg x y H Q) ∨ (∃ d e, Dp K H x d ∧ Dp K H y e ∧ SeqAt.shaped d = true ∧ SeqAt.shaped e = true ∧ Q (.bl (neg ^^ PyData.eqv d e)) H)) (wEqB neg) := fun x y v u F H Q k tr rx ry h q => by
  unfold wEqB at h
  by_cases c : scalD x y = true
  · rw [if_pos c] at h
    obtain ⟨a, b⟩ := scal_rep c rx ry
    exact .inl (.inl ⟨a, by rw [b]; exact q _ _ _ _ _ h (.same rfl)⟩)
  · rw [if_neg c] at h
    by_cases c : okL x y = true
    · rw [if_pos c] at h
      cases x with
      | lst xs =>
        cases y with
        | lst ys =>
          obtain ⟨a, vs, ev, f, ha, r⟩ := rx
          obtain ⟨b, us, eu, f', hb, r'⟩ := ry
          have l1 := r.len
          have l2 := r'.len
          refine .inl (.inr ⟨a, b, vs, us, ev, eu, ha, hb, ?_, ?_⟩)
          · unfold okLV
            unfold okL at c
            by_cases hl : xs.length = ys.length
            · have c' : ((xs.zip ys).all fun p => pyFlat p.1 && pyFlat p.2) = true := by simpa [hl] using c
              rw [(zip_rep r r' c').1, Bool.or_true]
            · have : vs.length ≠ us.length := by omega
              simp [this]
          · have e : eqLV vs us = eqL (.lst xs) (.lst ys) := by
              unfold eqLV eqL
              by_cases hl : xs.length = ys.length
              · have c' : ((xs.zip ys).all fun p => pyFlat p.1 && pyFlat p.2) = true := by
                  unfold okL at c
                  simpa [hl] using c
                rw [(zip_rep r r' c').2, ← l1, ← l2]
              · have h1 : (vs.length == us.length) = false := by simp; omega
                have h2 : (xs.length == ys.length) = false := by simp [hl]
                rw [h1]
                show false = (_ && _)
                rw [h2]
                rfl
            rw [e]
            exact q _ _ _ _ _ h (.same rfl)
        | _ => exact absurd c (by simp [okL])
      | _ => exact absurd c (by simp [okL])
    · rw [if_neg c] at h
      obtain ⟨p1, p2, h1, h2, h3, h4, hk⟩ := h
      exact .inr ⟨p1, p2, rep_py _ _ _ h1 rx, rep_py _ _ _ h2 ry, h3, h4, q _ _ _ _ _ hk (.same rfl)⟩
section
variable {X : Cx} {en : En} {a b c e : Expr} {ta tb tc : TO} {pos : Pos}
theorem op_eqAll (hu : X.A.units + 64 < cLine) : OpR X (compareOp .Eq) (fun x y H Q => ((scal x y = true ∧ Q (.bl (false ^^ decide (x = y))) H) ∨ rEqLF false x y H Q) ∨ (∃ d e, Dp X.K H x d ∧ Dp X.K H y e ∧ SeqAt.shaped d = true ∧ SeqAt.shaped e = true ∧ Q (.bl (false ^^ PyData.eqv d e)) H)) := by
  intro pins s σ H x y v u Q I rx ry h
  rcases h with (⟨h1, h2⟩ | h) | ⟨d, e, h1, h2, h3, h4, h5⟩
  · exact op_eq pins s σ H x y v u Q I rx ry ⟨h1, by simpa using h2⟩
  · exact op_eqLF hu pins s σ H x y v u Q I rx ry h
  · exact op_eqD hu pins s σ H x y v u Q I rx ry ⟨d, e, h1, h2, h3, h4, by simpa using h5⟩
theorem op_neAll (hu : X.A.units + 64 < cLine) : OpR X (compareOp .NotEq) (fun x y H Q => ((scal x y = true ∧ Q (.bl (true ^^ decide (x = y))) H) ∨ rEqLF true x y H Q) ∨ (∃ d e, Dp X.K H x d ∧ Dp X.K H y e ∧ SeqAt.shaped d = true ∧ SeqAt.shaped e = true ∧ Q (.bl (true ^^ PyData.eqv d e)) H)) := by
  intro pins s σ H x y v u Q I rx ry h
  rcases h with (⟨h1, h2⟩ | h) | ⟨d, e, h1, h2, h3, h4, h5⟩
  · exact op_ne pins s σ H x y v u Q I rx ry ⟨h1, by simpa using h2⟩
  · exact op_neLF hu pins s σ H x y v u Q I rx ry h
  · exact op_neD hu pins s σ H x y v u Q I rx ry ⟨d, e, h1, h2, h3, h4, by simpa using h5⟩
theorem v_eq (hu : X.A.units + 64 < cLine) (A : PV X en a ta) (B : PV X en b tb) : PV X en (.Compare a [.Eq] [b] pos) (dB wEq ta tb) :=
  ⟨(pe_cmpR (op_eqAll hu) A.run B.run (nomark _)).imp fun σ H Q h => lift_two A B fits_eq h, mono_B mono_eq A.mono B.mono⟩
theorem v_ne (hu : X.A.units + 64 < cLine) (A : PV X en a ta) (B : PV X en b tb) : PV X en (.Compare a [.NotEq] [b] pos) (dB wNe ta tb) :=
  ⟨(pe_cmpR (op_neAll hu) A.run B.run (nomark _)).imp fun σ H Q h => lift_two A B fits_eq h, mono_B mono_eq A.mono B.mono⟩

/-! ### order -/
def wOrd (pi : Int → Int → Bool) (ps : Str → Str → Bool) : W2
  | .int i, .int j, k => k (0, .bl (pi i j))
  | .str i, .str j, k => k (0, .bl (ps i j))
  | _, _, _ => False
theorem mono_ord {pi : Int → Int → Bool} {ps : Str → Str → Bool} : Mono2 (wOrd pi ps) := fun x y k k' f h => by
  cases x <;> cases y <;> first
    | exact f _ h
    | exact h.elim
theorem fits_ord {pi : Int → Int → Bool} {ps : Str → Str → Bool} : Fits2 (fun x y H Q => rI0 (fun i j => .bl (pi i j)) x y H Q ∨ ∃ i j, x = .str i ∧ y = .str j ∧ Q (.bl (ps i j)) H) (wOrd pi ps) := fun x y v u F H Q k tr rx ry h q => by
  cases x <;> cases y <;> first
    | exact .inl ⟨_, _, rx, ry, q _ _ _ _ _ h (.same rfl)⟩
    | exact .inr ⟨_, _, rx, ry, q _ _ _ _ _ h (.same rfl)⟩
    | exact h.elim
def ltS (i j : Str) : Bool := decide (i.cps.toList < j.cps.toList)
abbrev wLt : W2 := wOrd (fun i j => decide (i < j)) ltS
abbrev wLe : W2 := wOrd (fun i j => decide (i ≤ j)) fun i j => !ltS j i
abbrev wGt : W2 := wOrd (fun i j => decide (j < i)) fun i j => ltS j i
abbrev wGe : W2 := wOrd (fun i j => decide (j ≤ i)) fun i j => !ltS i j
theorem v_lt (A : PV X en a ta) (B : PV X en b tb) : PV X en (.Compare a [.Lt] [b] pos) (dB wLt ta tb) := ⟨(pe_cmpR (OpR.or op_lt op_lt_str) A.run B.run (nomark _)).imp fun σ H Q h => lift_two A B (fits_ord (pi := fun i j => decide (i < j)) (ps := ltS)) h, mono_B mono_ord A.mono B.mono⟩
theorem v_le (A : PV X en a ta) (B : PV X en b tb) : PV X en (.Compare a [.LtE] [b] pos) (dB wLe ta tb) := ⟨(pe_cmpR (OpR.or op_le op_le_str) A.run B.run (nomark _)).imp fun σ H Q h => lift_two A B (fits_ord (pi := fun i j => decide (i ≤ j)) (ps := fun i j => !ltS j i)) h, mono_B mono_ord A.mono B.mono⟩
theorem v_gt (A : PV X en a ta) (B : PV X en b tb) : PV X en (.Compare a [.Gt] [b] pos) (dB wGt ta tb) := ⟨(pe_cmpR (OpR.or op_gt op_gt_str) A.run B.run (nomark _)).imp fun σ H Q h => lift_two A B (fits_ord (pi := fun i j => decide (j < i)) (ps := fun i j => ltS j i)) h, mono_B mono_ord A.mono B.mono⟩
theorem v_ge (A : PV X en a ta) (B : PV X en b tb) : PV X en (.Compare a [.GtE] [b] pos) (dB wGe ta tb) := ⟨(pe_cmpR (OpR.or op_ge op_ge_str) A.run B.run (nomark _)).imp fun σ H Q h => lift_two A B (fits_ord (pi := fun i j => decide (j ≤ i)) (ps := fun i j => !ltS i j)) h, mono_B mono_ord A.mono B.mono⟩

/-! ### is None -/
def isNonD : D → Option Bool
  | .non => some true
  | .opq _ => none
  | .tag _ _ => none
  | _ => some false
def wIsN (neg : Bool) : W1 := fun x k => ∃ b, isNonD x = some b ∧ k (0, .bl (neg ^^ b))
theorem isNon_rep {F : Fz} {H : Hp} {d : D} {v : V} {b : Bool} (h : isNonD d = some b) (r : Rep F H d v) : decide (v = .non) = b := by
  cases d with
  | opq _ => cases h
  | tag _ _ => cases h
  | non => cases h; have r : v = .non := r; subst r; rfl
  | bl _ => cases h; have r : v = _ := r; subst r; rfl
  | int _ => cases h; have r : v = _ := r; subst r; rfl
  | str _ => cases h; have r : v = _ := r; subst r; rfl
  | lst _ => cases h; obtain ⟨a, _, e, _⟩ := r; subst e; rfl
  | tup _ => cases h; obtain ⟨a, _, e, _⟩ := r; subst e; rfl
  | dic _ => cases h; obtain ⟨a, _, e, _⟩ := r; subst e; rfl
  | ins _ _ => cases h; obtain ⟨a, _, _, e, _⟩ := r; subst e; rfl
  | spr _ => cases h; obtain ⟨a, e⟩ := r; subst e; rfl
  | scr _ _ => cases h; obtain ⟨a, e, _⟩ := r; subst e; rfl
theorem v_isN {j pos'} (A : PV X en a ta) : PV X en (.Compare a [.Is] [.Constant .none j pos'] pos) (dU (wIsN false) ta) :=
  ⟨(pe_cmp (pc_isN A.run)).imp fun σ H Q h => lift_one (r := fun x H1 Q => Q (.bl (decide (x = .non))) H1) A (fun x v F H Q k tr rx ⟨b, h1, h⟩ q => by
    show Q (V.bl (decide (v = .non))) H
    rw [isNon_rep h1 rx]
    exact q _ _ _ _ _ h (.same (by simp [Rep]))) h, mono_U (fun x k k' f ⟨b, h1, h⟩ => ⟨b, h1, f _ h⟩) A.mono⟩
theorem v_notN {j pos'} (A : PV X en a ta) : PV X en (.Compare a [.IsNot] [.Constant .none j pos'] pos) (dU (wIsN true) ta) :=
  ⟨(pe_cmp (pc_notN A.run)).imp fun σ H Q h => lift_one (r := fun x H1 Q => Q (.bl (!decide (x = .non))) H1) A (fun x v F H Q k tr rx ⟨b, h1, h⟩ q => by
    show Q (V.bl (!decide (v = .non))) H
    rw [isNon_rep h1 rx]
    exact q _ _ _ _ _ h (.same (by simp [Rep]))) h, mono_U (fun x k k' f ⟨b, h1, h⟩ => ⟨b, h1, f _ h⟩) A.mono⟩

/-! ### in -/
def wInB (neg : Bool) : W2 := fun x y k => match y with
  | .dic kvs => ∃ q, keyD x = some q ∧ k (0, .bl (neg ^^ (valD kvs q).isSome))
  | .lst xs => if (pyFlat x && xs.all pyFlat) = true then k (0, .bl (neg ^^ xs.any fun z => eqFl z x)) else ∃ p ps, toPy x = some p ∧ toPyL xs = some ps ∧ SeqAt.shaped p = true ∧ SeqAt.shaped (.list ps) = true ∧ k (0, .bl (neg ^^ ps.any fun z => PyData.eqv z p))
  | .tup xs => (pyFlat x && xs.all pyFlat) = true ∧ k (0, .bl (neg ^^ xs.any fun z => eqFl z x))
  | .str z => ∃ c, x = .str ⟨#[c]⟩ ∧ k (0, .bl (neg ^^ decide (c ∈ z.cps.toList)))
  | _ => False
theorem mono_in {n : Bool} : Mono2 (wInB n) := fun x y k k' f h => by
  cases y <;> first
    | (obtain ⟨q, h1, h2⟩ := h; exact ⟨q, h1, f _ h2⟩)
    | exact ⟨h.1, f _ h.2⟩
    | (simp only [wInB] at h ⊢
       split
       · rename_i c; rw [if_pos c] at h; exact f _ h
       · rename_i c
         rw [if_neg c] at h
         obtain ⟨p, ps, h1, h2, h3, h4, h5⟩ := h
         exact ⟨p, ps, h1, h2, h3, h4, f _ h5⟩)
    | exact h.elim
end
section
variable {F : Fz} {H : Hp}
theorem all_flat_rep : ∀ {xs : List D} {vs : List V}, RepL F H xs vs → xs.all pyFlat = true → vs.all flatV = true
  | [], _, r, _ => by
    have r : _ = [] := r
    subst r
    rfl
  | x :: xs, _, r, h => by
    obtain ⟨v, r2, e, h1, h2⟩ := r
    subst e
    rw [List.all_cons, Bool.and_eq_true] at h
    rw [List.all_cons, flat_rep h.1 h1, all_flat_rep h2 h.2]
    rfl
theorem any_rep {x : D} {v : V} (f : pyFlat x = true) (rx : Rep F H x v) : ∀ {xs : List D} {vs : List V}, RepL F H xs vs → xs.all pyFlat = true → inV v vs = xs.any fun z => eqFl z x
  | [], _, r, _ => by
    have r : _ = [] := r
    subst r
    rfl
  | y :: xs, _, r, h => by
    obtain ⟨u, r2, e, h1, h2⟩ := r
    subst e
    rw [List.all_cons, Bool.and_eq_true] at h
    have ih := any_rep f rx h2 h.2
    unfold inV at ih ⊢
    rw [List.any_cons, List.any_cons, ih, eqFl_rep h.1 f h1 rx]
end
/-- in, by whatever it is looked for -/
def rInAll (K : PySem.W.Frag) (neg : Bool) : R2 := fun x y H Q => ((rIn K neg x y H Q ∨ (if neg then rNotInD K x y H Q else rInD K x y H Q)) ∨ (∃ (c : Nat) (z : Str), x = .str ⟨#[c]⟩ ∧ y = .str z ∧ Q (.bl (neg ^^ decide (c ∈ z.cps.toList))) H)) ∨ (∃ a o, y = .ref a ∧ DGet H a x o ∧ Q (.bl (neg ^^ o.isSome)) H)
theorem fits_in {K : PySem.W.Frag} {neg : Bool} : Fits2 (rInAll K neg) (wInB neg) := fun x y v u F H Q k tr rx ry h q => by
  cases y with
  | dic kvs =>
    obtain ⟨j, h1, hk⟩ := h
    obtain ⟨a, ws, ev, f, ha, r⟩ := ry
    refine .inr ⟨a, valV ws j, ev, .inl ⟨ws, j, ha, keyD_rep h1 rx, rfl⟩, ?_⟩
    have e : (valV ws j).isSome = (valD kvs j).isSome := by
      rcases r.val j with ⟨n1, n2⟩ | ⟨d', w, e1, e2, _⟩
      · rw [n1, n2]; rfl
      · rw [e1, e2]; rfl
    rw [e]
    exact q _ _ _ _ _ hk (.same rfl)
  | lst xs =>
    obtain ⟨a, vs, ev, f, ha, r⟩ := ry
    simp only [wInB] at h
    split at h
    · rename_i c
      rw [Bool.and_eq_true] at c
      refine .inl (.inl (.inl ⟨a, vs, ev, .inl (SqL.of ha), flat_rep c.1 rx, all_flat_rep r c.2, ?_⟩))
      rw [any_rep c.1 rx r c.2]
      cases neg <;> exact q _ _ _ _ _ h (.same (by simp [Rep]))
    · obtain ⟨p, ps, h1, h2, h3, h4, hk⟩ := h
      have d1 := rep_py (K := K) _ _ _ h1 rx
      have d2 : Dp K H u (.list ps) := by rw [ev]; exact .lst (SqL.of ha) (rep_pyL _ _ _ h2 r)
      refine .inl (.inl (.inr ?_))
      cases neg
      · exact ⟨p, ps, d1, d2, h3, h4, q _ _ _ _ _ hk (.same (by simp [Rep]))⟩
      · exact ⟨p, ps, d1, d2, h3, h4, q _ _ _ _ _ hk (.same (by simp [Rep]))⟩
  | tup xs =>
    obtain ⟨a, vs, ev, f, ha, r⟩ := ry
    obtain ⟨c, h⟩ := h
    rw [Bool.and_eq_true] at c
    refine .inl (.inl (.inl ⟨a, vs, ev, .inr (SqT.of ha), flat_rep c.1 rx, all_flat_rep r c.2, ?_⟩))
    rw [any_rep c.1 rx r c.2]
    cases neg <;> exact q _ _ _ _ _ h (.same (by simp [Rep]))
  | str z =>
    obtain ⟨c, e, hk⟩ := h
    subst e
    exact .inl (.inr ⟨c, z, rx, ry, q _ _ _ _ _ hk (.same rfl)⟩)
  | _ => exact h.elim
section
variable {X : Cx} {en : En} {a b c e : Expr} {ta tb tc : TO} {pos : Pos}
theorem op_inAll (hu : X.A.units + 65 < cLine) : OpR X (compareOp .In) (rInAll X.K false) := by
  intro pins s σ H x y v u Q I rx ry h
  rcases h with ((h | h) | ⟨c, z, h1, h2, h3⟩) | ⟨a, o, h1, h2, h3⟩
  · exact op_in_seq pins s σ H x y v u Q I rx ry h
  · exact op_inD hu pins s σ H x y v u Q I rx ry h
  · exact op_in_sign pins s σ H x y v u Q I rx ry ⟨c, z, h1, h2, by simpa using h3⟩
  · subst h1
    obtain rfl : u = Value.ref a := ry
    exact d_in (by omega) I h2 rx fun s3 I3 => ⟨.bl o.isSome, H, I3, rfl, by simpa using h3⟩
theorem op_notInAll (hu : X.A.units + 65 < cLine) : OpR X (compareOp .NotIn) (rInAll X.K true) := by
  intro pins s σ H x y v u Q I rx ry h
  rcases h with ((h | h) | ⟨c, z, h1, h2, h3⟩) | ⟨a, o, h1, h2, h3⟩
  · exact op_notIn_seq pins s σ H x y v u Q I rx ry h
  · exact op_notInD hu pins s σ H x y v u Q I rx ry h
  · exact op_notIn_sign pins s σ H x y v u Q I rx ry ⟨c, z, h1, h2, by simpa using h3⟩
  · subst h1
    obtain rfl : u = Value.ref a := ry
    exact d_notIn (by omega) I h2 rx fun s3 I3 => ⟨.bl (!o.isSome), H, I3, rfl, by simpa using h3⟩
abbrev wIn : W2 := wInB false
abbrev wNotIn : W2 := wInB true
theorem v_in (hu : X.A.units + 65 < cLine) (A : PV X en a ta) (B : PV X en b tb) (hb : behindInMarks .In b = false := by rfl) : PV X en (.Compare a [.In] [b] pos) (dB wIn ta tb) :=
  ⟨(pe_cmpR (op_inAll hu) A.run B.run hb).imp fun σ H Q h => lift_two A B fits_in h, mono_B mono_in A.mono B.mono⟩
theorem v_notIn (hu : X.A.units + 65 < cLine) (A : PV X en a ta) (B : PV X en b tb) (hb : behindInMarks .NotIn b = false := by rfl) : PV X en (.Compare a [.NotIn] [b] pos) (dB wNotIn ta tb) :=
  ⟨(pe_cmpR (op_notInAll hu) A.run B.run hb).imp fun σ H Q h => lift_two A B fits_in h, mono_B mono_in A.mono B.mono⟩
end
end DL

/-! DLk: calls of what is built in, slices, fields, objects made, methods. -/
namespace DL
open PySem PySem.Spec PyProof.Rows L2
variable [LamT]

section
variable {X : Cx} {en : En} {a b c e : Expr} {es : List Expr} {ta tb tc : TO} {tl : TDs} {pos p : Pos} {x : Str} {id T : String} {r : List V → Hp → VK → Prop} {g : WL}
/-- a built-in function, called -/
theorem v_callB (hc : CallR X (.builtin id) r) (hf : FitsL r g) (hm' : MonoL g) (hv : bootBuiltins x = some (.builtin id)) (hm : X.mg x = none) (A : PVs X en (e :: es) tl) (hg : Gl X x := by rfl) (hn : x ≠ "__name__" := by decide) (hdb : (x == ("__debug__" : Str)) = false := by decide)
    (he : starEach (e :: es) X.env = (false, eval e X.env) :: starEach es X.env := by rfl) (hpl : (backTo pos (starEach es X.env)).any (·.1) = false := by rfl) : PV X en (.Call (.Name x p) (e :: es) [] pos) (dL g tl) :=
  ⟨(pe_callB hc hg hm hv A.run hn hdb he hpl).imp fun σ H Q h => lift_lst A hf h, mono_L hm' A.mono⟩
theorem v_callT (hc : CallR X (.type T) r) (hf : FitsL r g) (hm' : MonoL g) (hv : bootBuiltins x = some (.type T)) (hm : X.mg x = none) (A : PVs X en (e :: es) tl) (hg : Gl X x := by rfl) (hn : x ≠ "__name__" := by decide) (hdb : (x == ("__debug__" : Str)) = false := by decide)
    (he : starEach (e :: es) X.env = (false, eval e X.env) :: starEach es X.env := by rfl) (hpl : (backTo pos (starEach es X.env)).any (·.1) = false := by rfl) : PV X en (.Call (.Name x p) (e :: es) [] pos) (dL g tl) :=
  ⟨(pe_callTy hc hg hm hv A.run hn hdb he hpl).imp fun σ H Q h => lift_lst A hf h, mono_L hm' A.mono⟩
end

/-! ### len -/
def lenD : D → Option Nat
  | .lst xs => some xs.length
  | .tup xs => some xs.length
  | .dic kvs => some kvs.length
  | .str x => some x.length
  | _ => none
def wLen : WL := fun ds k => ∃ d n, ds = [d] ∧ lenD d = some n ∧ (∀ x, d = .str x → x.length ≤ sizeLine) ∧ k (0, .int n)
theorem mono_len : MonoL wLen := fun _ _ _ f ⟨d, n, h1, h2, h3, h4⟩ => ⟨d, n, h1, h2, h3, f _ h4⟩
def rLenD : List V → Hp → VK → Prop := fun xs H Q => ∃ p kvs, xs = [.ref p] ∧ Rd H p (.dK kvs) ∧ Q (.int kvs.length) H
theorem call_lenR {X : Cx} : CallR X (.builtin "len") rLenD := by
  intro pins s σ H xs us Q I r h
  obtain ⟨p, kvs, rfl, e, q⟩ := h
  obtain ⟨u, rfl, rx⟩ := vals1 r
  obtain rfl : u = Value.ref p := rx
  exact d_len I e fun t s' I' => ⟨.int kvs.length, H, I', ⟨t, rfl⟩, q⟩
theorem RepK.len {F : Fz} {H : Hp} : ∀ {ds : List (Key × D)} {vs : List (Key × V)}, RepK F H ds vs → ds.length = vs.length
  | [], _, h => by
    have h : _ = [] := h
    subst h
    rfl
  | d :: ds, _, h => by
    obtain ⟨v, r, e, _, h2⟩ := h
    rw [e]
    simp [RepK.len h2]
theorem fits_len {K : PySem.W.Frag} : FitsL (fun xs H Q => (∃ x n, xs = [x] ∧ LenV K x H n ∧ Q (.int n) H) ∨ rLenD xs H Q) wLen := fun xs vs F H Q k tr r ⟨d, n, e, h1, h2, hk⟩ q => by
  subst e
  obtain ⟨v, ev, rv⟩ := repl_one r
  subst ev
  cases d with
  | lst ys =>
    cases h1
    obtain ⟨a, ws, ea, f, ha, rl⟩ := rv
    exact .inl ⟨v, _, rfl, by rw [ea]; exact .inl ⟨ws, SqL.of ha, rl.len⟩, q _ _ _ _ _ hk (.same rfl)⟩
  | tup ys =>
    cases h1
    obtain ⟨a, ws, ea, f, ha, rl⟩ := rv
    exact .inl ⟨v, _, rfl, by rw [ea]; exact .inr ⟨ws, SqT.of ha, rl.len⟩, q _ _ _ _ _ hk (.same rfl)⟩
  | dic kvs =>
    cases h1
    obtain ⟨a, ws, ea, f, ha, rl⟩ := rv
    refine .inr ⟨a, ws, by rw [ea], ha, ?_⟩
    rw [← rl.len]
    exact q _ _ _ _ _ hk (.same rfl)
  | str x =>
    cases h1
    have rv : v = .str x := rv
    exact .inl ⟨v, _, rfl, by rw [rv]; exact ⟨h2 x rfl, rfl⟩, q _ _ _ _ _ hk (.same rfl)⟩
  | _ => exact nomatch h1

/-! ### list, tuple -/
def wList : WL := fun ds k => ∃ d xs, ds = [d] ∧ seqD d = some xs ∧ k (1, .lst xs)
theorem mono_list : MonoL wList := fun _ _ _ f ⟨d, xs, h1, h2, h3⟩ => ⟨d, xs, h1, h2, f _ h3⟩
theorem fits_list {K : PySem.W.Frag} : FitsL (fun xs H Q => ∃ p ys, xs = [.ref p] ∧ (SqL K H p ys ∨ SqT K H p ys) ∧ ∀ l, H l = none → Q (.ref l) (upd H l (.lst ys))) wList := fun xs vs F H Q k tr r ⟨d, ys, e, h1, hk⟩ q => by
  subst e
  obtain ⟨v, ev, rv⟩ := repl_one r
  subst ev
  rcases seqD_cases h1 with e | e <;> subst e
  · obtain ⟨a, ws, ea, f, ha, rl⟩ := rv
    exact ⟨a, ws, by rw [ea], .inl (SqL.of ha), fun l hl => q _ _ _ _ _ hk (ans_lst tr hl rl)⟩
  · obtain ⟨a, ws, ea, f, ha, rl⟩ := rv
    exact ⟨a, ws, by rw [ea], .inr (SqT.of ha), fun l hl => q _ _ _ _ _ hk (ans_lst tr hl rl)⟩
def wTuple : WL := fun ds k => ∃ d xs, ds = [d] ∧ seqD d = some xs ∧ k (0, .tup xs)
theorem mono_tuple : MonoL wTuple := fun _ _ _ f ⟨d, xs, h1, h2, h3⟩ => ⟨d, xs, h1, h2, f _ h3⟩
theorem fits_tuple {K : PySem.W.Frag} : FitsL (fun xs H Q => ∃ p ys, xs = [.ref p] ∧ ((SqL K H p ys ∧ ∀ l, H l = none → Q (.ref l) (upd H l (.tup ys))) ∨ (SqT K H p ys ∧ Q (.ref p) H))) wTuple := fun xs vs F H Q k tr r ⟨d, ys, e, h1, hk⟩ q => by
  subst e
  obtain ⟨v, ev, rv⟩ := repl_one r
  subst ev
  rcases seqD_cases h1 with e | e <;> subst e
  · obtain ⟨a, ws, ea, f, ha, rl⟩ := rv
    exact ⟨a, ws, by rw [ea], .inl ⟨SqL.of ha, fun l hl => q _ _ _ _ _ hk (ans_tup tr hl rl)⟩⟩
  · obtain ⟨a, ws, ea, f, ha, rl⟩ := rv
    exact ⟨a, ws, by rw [ea], .inr ⟨SqT.of ha, q _ _ _ _ _ hk (.same ⟨a, ws, rfl, f, ha, rl⟩)⟩⟩

/-! ### sums, least and greatest, all and any, sorted -/
section
variable {F : Fz} {H : Hp}
theorem repl_ints : ∀ {ns : List Int} {vs : List V}, RepL F H (ns.map D.int) vs → vs = ns.map V.int
  | [], _, h => h
  | n :: ns, _, h => by
    obtain ⟨v, r, e, h1, h2⟩ := h
    have h1 : v = .int n := h1
    rw [e, h1, repl_ints h2]
    rfl
theorem ints_repl : ∀ (ns : List Int), RepL F H (ns.map D.int) (ns.map V.int)
  | [] => rfl
  | n :: ns => ⟨_, _, rfl, rfl, ints_repl ns⟩
theorem repl_strs : ∀ {ns : List Str} {vs : List V}, RepL F H (ns.map D.str) vs → vs = ns.map V.str
  | [], _, h => h
  | n :: ns, _, h => by
    obtain ⟨v, r, e, h1, h2⟩ := h
    have h1 : v = .str n := h1
    rw [e, h1, repl_strs h2]
    rfl
theorem strs_repl : ∀ (ns : List Str), RepL F H (ns.map D.str) (ns.map V.str)
  | [] => rfl
  | n :: ns => ⟨_, _, rfl, rfl, strs_repl ns⟩
theorem repl_bls : ∀ {ns : List Bool} {vs : List V}, RepL F H (ns.map D.bl) vs → vs = ns.map V.bl
  | [], _, h => h
  | n :: ns, _, h => by
    obtain ⟨v, r, e, h1, h2⟩ := h
    have h1 : v = .bl n := h1
    rw [e, h1, repl_bls h2]
    rfl
end
def wSum : WL := fun ds k => ∃ ns : List Int, ds = [.lst (ns.map D.int)] ∧ k (0, .int ns.sum)
def wAllAny (f : List Bool → Bool) : WL := fun ds k => ∃ bs : List Bool, ds = [.lst (bs.map D.bl)] ∧ k (0, .bl (f bs))
def wMaxL : WL := fun ds k => ∃ ns : List Int, ds = [.lst (ns.map D.int)] ∧ 0 < ns.length ∧ ∀ m, m ∈ ns → (∀ y, y ∈ ns → y ≤ m) → k (0, .int m)
def wMinL : WL := fun ds k => ∃ ns : List Int, ds = [.lst (ns.map D.int)] ∧ 0 < ns.length ∧ ∀ m, m ∈ ns → (∀ y, y ∈ ns → m ≤ y) → k (0, .int m)
def wMax2 : WL := fun ds k => ∃ i j : Int, ds = [.int i, .int j] ∧ k (0, .int (if j > i then j else i))
def wMin2 : WL := fun ds k => ∃ i j : Int, ds = [.int i, .int j] ∧ k (0, .int (if j < i then j else i))
def wInt1 : WL := fun ds k => (∃ i : Int, ds = [.int i] ∧ k (0, .int i)) ∨ ∃ b : Bool, ds = [.bl b] ∧ k (0, .int (if b then 1 else 0))
def wSortS : WL := fun ds k => ∃ d, ∃ xs : List Str, ds = [d] ∧ d = .lst (xs.map D.str) ∧ xs.length < 64 ∧ ∀ ys : List Str, ys.Perm xs → sortedS ys = true → k (1, .lst (ys.map D.str))
def wSortI : WL := fun ds k => ∃ ns : List Int, ds = [.lst (ns.map D.int)] ∧ ns.length < 64 ∧ ∀ ns' : List Int, ns'.Perm ns → ns'.Pairwise (· ≤ ·) → k (1, .lst (ns'.map D.int))
theorem fits_sum {K : PySem.W.Frag} : FitsL (rSum K) wSum := fun xs vs F H Q k tr r ⟨ns, e, hk⟩ q => by
  subst e
  obtain ⟨v, ev, a, ws, ea, f, ha, rl⟩ := repl_one r
  subst ev ea
  rw [repl_ints rl] at ha
  exact ⟨a, ns, rfl, SqL.of ha, q _ _ _ _ _ hk (.same rfl)⟩
theorem fits_all {K : PySem.W.Frag} : FitsL (rAll K) (wAllAny fun bs => bs.all id) := fun xs vs F H Q k tr r ⟨ns, e, hk⟩ q => by
  subst e
  obtain ⟨v, ev, a, ws, ea, f, ha, rl⟩ := repl_one r
  subst ev ea
  rw [repl_bls rl] at ha
  exact ⟨a, ns, rfl, SqL.of ha, q _ _ _ _ _ hk (.same rfl)⟩
theorem fits_any {K : PySem.W.Frag} : FitsL (rAny K) (wAllAny fun bs => bs.any id) := fun xs vs F H Q k tr r ⟨ns, e, hk⟩ q => by
  subst e
  obtain ⟨v, ev, a, ws, ea, f, ha, rl⟩ := repl_one r
  subst ev ea
  rw [repl_bls rl] at ha
  exact ⟨a, ns, rfl, SqL.of ha, q _ _ _ _ _ hk (.same rfl)⟩
theorem fits_maxL {K : PySem.W.Frag} : FitsL (rMax K) wMaxL := fun xs vs F H Q k tr r ⟨ns, e, h0, hk⟩ q => by
  subst e
  obtain ⟨v, ev, a, ws, ea, f, ha, rl⟩ := repl_one r
  subst ev ea
  rw [repl_ints rl] at ha
  exact ⟨a, ns, rfl, SqL.of ha, h0, fun m h1 h2 => q _ _ _ _ _ (hk m h1 h2) (.same rfl)⟩
theorem fits_minL {K : PySem.W.Frag} : FitsL (rMin K) wMinL := fun xs vs F H Q k tr r ⟨ns, e, h0, hk⟩ q => by
  subst e
  obtain ⟨v, ev, a, ws, ea, f, ha, rl⟩ := repl_one r
  subst ev ea
  rw [repl_ints rl] at ha
  exact ⟨a, ns, rfl, SqL.of ha, h0, fun m h1 h2 => q _ _ _ _ _ (hk m h1 h2) (.same rfl)⟩
theorem fits_max2 : FitsL (fun xs H Q => ∃ i j, xs = [.int i, .int j] ∧ Q (.int (if j > i then j else i)) H) wMax2 := fun xs vs F H Q k tr r ⟨i, j, e, hk⟩ q => by
  subst e
  exact ⟨i, j, repl2 r, q _ _ _ _ _ hk (.same rfl)⟩
theorem fits_min2 : FitsL (fun xs H Q => ∃ i j, xs = [.int i, .int j] ∧ Q (.int (if j < i then j else i)) H) wMin2 := fun xs vs F H Q k tr r ⟨i, j, e, hk⟩ q => by
  subst e
  exact ⟨i, j, repl2 r, q _ _ _ _ _ hk (.same rfl)⟩
theorem fits_int1 : FitsL (fun xs H Q => (∃ i, xs = [.int i] ∧ Q (.int i) H) ∨ ∃ k, xs = [.bl k] ∧ Q (.int (if k then 1 else 0)) H) wInt1 := fun xs vs F H Q k tr r h q => by
  rcases h with ⟨i, e, hk⟩ | ⟨b, e, hk⟩ <;> subst e
  · exact .inl ⟨i, repl1 r, q _ _ _ _ _ hk (.same rfl)⟩
  · obtain ⟨v, ev, rv⟩ := repl_one r
    have rv : v = .bl b := rv
    exact .inr ⟨b, by rw [ev, rv], q _ _ _ _ _ hk (.same rfl)⟩
theorem fits_sortS {K : PySem.W.Frag} : FitsL (rSortedS K) wSortS := fun xs vs F H Q k tr r ⟨d, ns, e, ed, h0, hk⟩ q => by
  subst e ed
  obtain ⟨v, ev, a, ws, ea, f, ha, rl⟩ := repl_one r
  subst ev ea
  rw [repl_strs rl] at ha
  exact ⟨a, ns, rfl, SqL.of ha, h0, fun ys p h1 h2 hp => q _ _ _ _ _ (hk ys h1 h2) (ans_lst tr hp (strs_repl ys))⟩
theorem fits_sortI {K : PySem.W.Frag} : FitsL (rSorted K) wSortI := fun xs vs F H Q k tr r ⟨ns, e, h0, hk⟩ q => by
  subst e
  obtain ⟨v, ev, a, ws, ea, f, ha, rl⟩ := repl_one r
  subst ev ea
  rw [repl_ints rl] at ha
  exact ⟨a, ns, rfl, SqL.of ha, h0, fun ys p h1 h2 hp => q _ _ _ _ _ (hk ys h1 h2) (ans_lst tr hp (ints_repl ys))⟩
theorem mono_sum : MonoL wSum := fun _ _ _ f ⟨a, h1, h2⟩ => ⟨a, h1, f _ h2⟩
theorem mono_allany {f : List Bool → Bool} : MonoL (wAllAny f) := fun _ _ _ f ⟨a, h1, h2⟩ => ⟨a, h1, f _ h2⟩
theorem mono_maxL : MonoL wMaxL := fun _ _ _ f ⟨a, h1, h2, h3⟩ => ⟨a, h1, h2, fun m a b => f _ (h3 m a b)⟩
theorem mono_minL : MonoL wMinL := fun _ _ _ f ⟨a, h1, h2, h3⟩ => ⟨a, h1, h2, fun m a b => f _ (h3 m a b)⟩
theorem mono_max2 : MonoL wMax2 := fun _ _ _ f ⟨a, b, h1, h2⟩ => ⟨a, b, h1, f _ h2⟩
theorem mono_min2 : MonoL wMin2 := fun _ _ _ f ⟨a, b, h1, h2⟩ => ⟨a, b, h1, f _ h2⟩
theorem mono_int1 : MonoL wInt1 := fun _ _ _ f h => h.elim (fun ⟨a, h1, h2⟩ => .inl ⟨a, h1, f _ h2⟩) fun ⟨a, h1, h2⟩ => .inr ⟨a, h1, f _ h2⟩
theorem mono_sortS : MonoL wSortS := fun _ _ _ f ⟨d, a, h1, h2, h3, h4⟩ => ⟨d, a, h1, h2, h3, fun m a b => f _ (h4 m a b)⟩
theorem mono_sortI : MonoL wSortI := fun _ _ _ f ⟨a, h1, h3, h4⟩ => ⟨a, h1, h3, fun m a b => f _ (h4 m a b)⟩

/-! ### slices -/
def partD : Option D → Option (Option Int)
  | none => some none
  | some (.int i) => some (some i)
  | _ => none
def cutD (xs : List D) (lo hi : Option Int) : List D := (xs.drop (HT.sIx xs.length 0 lo)).take (HT.sIx xs.length xs.length hi - HT.sIx xs.length 0 lo)
theorem RepL.drop {F : Fz} {H : Hp} : ∀ (n : Nat) {ds : List D} {vs : List V}, RepL F H ds vs → RepL F H (ds.drop n) (vs.drop n)
  | 0, _, _, h => h
  | n + 1, [], _, h => by
    have h : _ = [] := h
    subst h
    rfl
  | n + 1, d :: ds, _, h => by
    obtain ⟨v, r, e, h1, h2⟩ := h
    subst e
    exact h2.drop n
theorem RepL.take {F : Fz} {H : Hp} : ∀ (n : Nat) {ds : List D} {vs : List V}, RepL F H ds vs → RepL F H (ds.take n) (vs.take n)
  | 0, _, _, h => rfl
  | n + 1, [], _, h => by
    have h : _ = [] := h
    subst h
    rfl
  | n + 1, d :: ds, _, h => by
    obtain ⟨v, r, e, h1, h2⟩ := h
    subst e
    exact ⟨v, _, rfl, h1, h2.take n⟩
/-- xs[lo:hi] of a list -/
def dSlice (ta : TO) (tl th : DSt → (Option Int → DSt → Prop) → Prop) : TO := fun ρ Q => ta ρ fun x ρ1 => tl ρ1 fun lo ρ2 => th ρ2 fun hi ρ3 => ∃ xs, x.2 = .lst xs ∧ Q (1, .lst (cutD xs lo hi)) ρ3
def dNoPart : DSt → (Option Int → DSt → Prop) → Prop := fun ρ Q => Q none ρ
def dPart (t : TO) : DSt → (Option Int → DSt → Prop) → Prop := fun ρ Q => t ρ fun s ρ' => ∃ i, s.2 = .int i ∧ Q (some i) ρ'
structure POd (X : Cx) (en : En) (e : Option Expr) (t : DSt → (Option Int → DSt → Prop) → Prop) : Prop where
  run : PO X e fun σ H Q => ∃ ρ F fp, SI en ρ σ H F fp ∧ t ρ fun o ρ' => ∀ H' F' fp', SI en ρ' σ H' F' fp' → Ext F H F' H' → Q o H'
  mono : MonoD t
section
variable {X : Cx} {en : En} {e : Expr} {te : TO} {lo hi : Option Expr} {tl th : DSt → (Option Int → DSt → Prop) → Prop} {pos p2 : Pos}
theorem o_none : POd X en none dNoPart := ⟨⟨fun pins s σ H Q I h => po_none.run pins s σ H Q I (by
  obtain ⟨ρ, F, fp, S, h⟩ := h
  exact h H F fp S (Ext.refl _ _))⟩, fun _ _ _ k h => k _ _ h⟩
theorem o_some (E : PV X en e te) : POd X en (some e) (dPart te) := ⟨⟨fun pins s σ H Q I h => (po_some E.run).run pins s σ H Q I (by
  obtain ⟨ρ, F, fp, S, h⟩ := h
  refine ⟨ρ, F, fp, S, E.mono _ _ _ (fun s ρ1 ⟨i, h1, h2⟩ v H1 F1 fp1 l S1 E1 T1 => ?_) h⟩
  obtain ⟨S1', R1⟩ := T1.freeze S1
  rw [h1] at R1
  exact ⟨i, R1, h2 H1 _ fp1 S1' (E1.trans (Ext.addL _ _ _))⟩)⟩, fun ρ Q Q' k h => E.mono _ _ _ (fun s ρ' ⟨i, h1, h2⟩ => ⟨i, h1, k _ _ h2⟩) h⟩
theorem v_slice (A : PV X en e te) (L : POd X en lo tl) (U : POd X en hi th) : PV X en (.Subscript e (.Slice lo hi none p2) pos) (dSlice te tl th) := by
  refine ⟨(pe_slice sl_list A.run L.run U.run).imp fun σ H Q h => ?_, fun ρ Q Q' k h => A.mono _ _ _ (fun x ρ1 h => L.mono _ _ _ (fun lo ρ2 h => U.mono _ _ _ (fun hi ρ3 ⟨xs, h1, h2⟩ => ⟨xs, h1, k _ _ h2⟩) h) h) h⟩
  obtain ⟨ρ, F, fp, S, h⟩ := h
  refine ⟨ρ, F, fp, S, A.mono _ _ _ (fun x ρ1 hx v1 H1 F1 fp1 l1 S1 E1 T1 => ?_) h⟩
  obtain ⟨S1', R1⟩ := T1.freeze S1
  have E1' := E1.trans (Ext.addL F1 H1 l1)
  refine ⟨ρ1, _, fp1, S1', L.mono _ _ _ (fun lo ρ2 hl H2 F2 fp2 S2 E2 => ?_) hx⟩
  refine ⟨ρ2, _, fp2, S2, U.mono _ _ _ (fun hi ρ3 hh H3 F3 fp3 S3 E3 => ?_) hl⟩
  obtain ⟨xs, ex, hq⟩ := hh
  rw [ex] at R1
  obtain ⟨a, vs, ev, f, ha, r⟩ := R1.ext (E2.trans E3)
  refine ⟨a, vs, ev, SqL.of ha, fun p hp => ?_⟩
  have rc : RepL F3 H3 (cutD xs lo hi) (cutV vs lo hi) := by
    unfold cutD cutV
    rw [r.len]
    exact (r.drop _).take _
  obtain ⟨S4, E4, T4⟩ := (ans_lst S3.tr hp rc).step S3
  exact hq _ _ _ fp3 _ S4 (((E1'.trans E2).trans E3).trans E4) T4
end
end DL

/-! DLl: objects: fields read and stored, objects made, methods called. -/
namespace DL
open PySem PySem.Spec PyProof.Rows L2
variable [LamT]

theorem RepS.lookup {F : Fz} {H : Hp} {f : Str} {d : D} : ∀ {fs : List (Str × D)} {ws : List (Str × V)}, RepS F H fs ws → fs.lookup f = some d → ∃ v, ws.lookup f = some v ∧ Rep F H d v
  | [], _, _, h => by simp [List.lookup] at h
  | (g, e) :: r, _, h, hl => by
    obtain ⟨q, s, ew, h1, h2⟩ := h
    obtain ⟨q1, q2⟩ := q
    have hh : q1 = g ∧ Rep F H e q2 := h1
    obtain ⟨e1, h3⟩ := hh
    subst ew e1
    by_cases hf : f = q1
    · have hb : (f == q1) = true := beq_iff_eq.mpr hf
      simp only [List.lookup, hb] at hl ⊢
      cases hl
      exact ⟨q2, rfl, h3⟩
    · have hb : (f == q1) = false := beq_eq_false_iff_ne.mpr hf
      simp only [List.lookup, hb] at hl ⊢
      exact RepS.lookup h2 hl
theorem RepS.none {F : Fz} {H : Hp} {f : Str} : ∀ {fs : List (Str × D)} {ws : List (Str × V)}, RepS F H fs ws → fs.lookup f = none → ws.lookup f = none
  | [], _, h, _ => by
    have h : _ = [] := h
    subst h
    rfl
  | (g, e) :: r, _, h, hl => by
    obtain ⟨q, s, ew, h1, h2⟩ := h
    obtain ⟨q1, q2⟩ := q
    have hh : q1 = g ∧ Rep F H e q2 := h1
    obtain ⟨e1, h3⟩ := hh
    subst ew e1
    by_cases hf : f = q1
    · have hb : (f == q1) = true := beq_iff_eq.mpr hf
      simp only [List.lookup, hb] at hl
      cases hl
    · have hb : (f == q1) = false := beq_eq_false_iff_ne.mpr hf
      simp only [List.lookup, hb] at hl ⊢
      exact RepS.none h2 hl
theorem RepS.len {F : Fz} {H : Hp} : ∀ {ds : List (Str × D)} {vs : List (Str × V)}, RepS F H ds vs → ds.length = vs.length
  | [], _, h => by
    have h : _ = [] := h
    subst h
    rfl
  | d :: ds, _, h => by
    obtain ⟨v, r, e, _, h2⟩ := h
    rw [e]
    simp [RepS.len h2]
def putFD (f : Str) (v : D) : List (Str × D) → List (Str × D)
  | [] => [(f, v)]
  | (g, x) :: r => if g = f then (g, v) :: r else (g, x) :: putFD f v r
theorem RepS.put {F : Fz} {H : Hp} {f : Str} {d : D} {v : V} (rd : Rep F H d v) : ∀ {fs : List (Str × D)} {ws : List (Str × V)}, RepS F H fs ws → RepS F H (putFD f d fs) (putF f v ws)
  | [], _, h => by
    have h : _ = [] := h
    subst h
    exact ⟨_, [], rfl, ⟨rfl, rd⟩, rfl⟩
  | (g, e) :: r, _, h => by
    obtain ⟨q, s, ew, h1, h2⟩ := h
    obtain ⟨q1, q2⟩ := q
    have hh : q1 = g ∧ Rep F H e q2 := h1
    obtain ⟨e1, h3⟩ := hh
    subst ew e1
    show RepS F H (if q1 = f then (q1, d) :: r else (q1, e) :: putFD f d r) (if q1 = f then (q1, v) :: s else (q1, q2) :: putF f v s)
    by_cases hf : q1 = f
    · rw [if_pos hf, if_pos hf]
      exact ⟨_, s, rfl, ⟨rfl, rd⟩, h2⟩
    · rw [if_neg hf, if_neg hf]
      exact ⟨_, _, rfl, ⟨rfl, h3⟩, h2.put rd⟩
section
variable {F : Fz} {H : Hp}
theorem ownS_zero : ∀ {ds : List (Str × D)} {vs : List (Str × V)} {l : List Addr}, OwnK (Own F H 0) ds vs l → l = [] ∧ RepS F H ds vs
  | [], _, _, h => ⟨h.2, h.1⟩
  | d :: ds, _, _, h => by
    obtain ⟨v, r, l1, l2, e1, e2, h1, h2⟩ := h
    obtain ⟨a, b⟩ := ownS_zero h2
    have h1' : l1 = [] := h1.1
    refine ⟨by rw [e2, a, h1']; rfl, _, r, e1, ?_, b⟩
    cases d
    exact ⟨rfl, h1.2⟩
theorem ownS0 : ∀ {ds : List (Str × D)} {vs : List (Str × V)}, RepS F H ds vs → OwnK (Own F H 0) ds vs []
  | [], _, h => ⟨h, rfl⟩
  | (k, d) :: ds, _, h => by
    obtain ⟨q, r, e, h1, h2⟩ := h
    have h1 : q.1 = k ∧ Rep F H d q.2 := h1
    refine ⟨q.2, r, [], [], ?_, rfl, ⟨rfl, h1.2⟩, ownS0 h2⟩
    rw [e, ← h1.1]
theorem own1_ins {C : Addr} {ds : List (Str × D)} {v : V} {l : List Addr} (h : Own F H 1 (.ins C ds) v l) : ∃ a dx vs, v = .ref a ∧ H a = some (.ins C dx vs) ∧ RepS F H ds vs ∧ l = [a] := by
  obtain ⟨a, dx, vs, ls, e, h1, h2, e2⟩ := h
  obtain ⟨z, r⟩ := ownS_zero h2
  exact ⟨a, dx, vs, e, h1, r, by rw [e2, z]⟩
theorem mk1_ins {C dx : Addr} {ds : List (Str × D)} {a : Addr} {vs : List (Str × V)} (h : H a = some (.ins C dx vs)) (r : RepS F H ds vs) : Own F H 1 (.ins C ds) (.ref a) [a] := ⟨a, dx, vs, [], rfl, h, ownS0 r, rfl⟩
end

/-! ### fields -/
def dFld (C : Addr) (f : Str) (ta : TO) : TO := fun ρ Q => ta ρ fun s ρ1 => ∃ fs d, s.2 = .ins C fs ∧ fs.lookup f = some d ∧ Q (0, d) ρ1
/-- name.f = e -/
def dSetF (i : Nat) (C : Addr) (f : Str) (te : TO) : TSd := fun A ρ => te ρ fun s ρ1 => ∃ fs, ρ1[i]? = some (some (1, .ins C fs)) ∧ fs.length < 1000 ∧ A.nx (ρ1.set i (some (1, .ins C (putFD f s.2 fs))))
section
variable {X : Cx} {en : En} {o e value : Expr} {es : List Expr} {f x : Str} {C : Addr} {pos pos' p : Pos} {ta te : TO}
theorem v_fld (cl : Cls X.K C) (na : NoAttr X.K C f) (A : PV X en e ta) (hb : attributeBase e f X.env (eval e X.env) = eval e X.env := by rfl) : PV X en (.Attribute e f pos) (dFld C f ta) := by
  refine ⟨(pe_fld A.run hb).imp fun σ H Q h => ?_, fun ρ Q Q' k h => A.mono _ _ _ (fun s ρ1 ⟨fs, d, h1, h2, h3⟩ => ⟨fs, d, h1, h2, k _ _ h3⟩) h⟩
  obtain ⟨ρ, F, fp, S, h⟩ := h
  refine ⟨ρ, F, fp, S, A.mono _ _ _ (fun s ρ1 ⟨fs, d, h1, h2, h3⟩ v H1 F1 fp1 l S1 E1 T1 => ?_) h⟩
  obtain ⟨S1', R1⟩ := T1.freeze S1
  have E1' := E1.trans (Ext.addL F1 H1 l)
  rw [h1] at R1
  obtain ⟨a, dx, ws, ev, fa, ha, r⟩ := R1
  obtain ⟨w, hw, rw'⟩ := r.lookup h2
  exact ⟨a, C, dx, ws, w, ev, ha, cl, na, hw, h3 w H1 _ fp1 [] S1' E1' (Tmp.flat rw')⟩
theorem s_setF (i : Nat) (cl : Cls X.K C) (na : NoAttr X.K C f) (E : PV X en value te) (hN : X.N[i]? = some x := by rfl) (hv : Vis X.env.scope x := by first | exact Or.inl rfl | exact Or.inr (Or.inl rfl) | exact Or.inr (Or.inr rfl))
    (hs : swapsWith value (some (.Attribute (.Name x p) f pos')) pos.line X.env = pure false := by rfl) (hd : (x == ("__debug__" : Str)) = false := by decide) (hcd : (x == ("__classdict__" : Str)) = false := by decide) :
    PSd X en (.Assign [.Attribute (.Name x p) f pos'] value pos) (dSetF i C f te) := by
  refine ⟨(ps_fld (pe_var hN hv hd hcd) E.run hs).imp fun B σ H h => ?_, fun A B ρ L h => E.mono _ _ _ (fun s ρ1 ⟨fs, h1, h2, h3⟩ => ⟨fs, h1, h2, L.nx _ h3⟩) h⟩
  obtain ⟨A, ρ, F, fp, L, S, h⟩ := h
  refine ⟨ρ, F, fp, S, E.mono _ _ _ (fun s ρ1 ⟨fs, h1, h2, h3⟩ y H1 F1 fp1 l S1 E1 T1 => ?_) h⟩
  obtain ⟨S1', R1⟩ := T1.freeze S1
  have E1' := E1.trans (Ext.addL F1 H1 l)
  obtain ⟨v, ev, ow⟩ := S1'.sl i _ _ h1
  obtain ⟨a, dx, ws, ea, ha, r, hfp⟩ := own1_ins ow
  subst ea
  refine ⟨.ref a, ev, a, C, dx, ws, rfl, ha, cl, na, by rw [← r.len]; exact h2, ?_⟩
  have hx : Ext (addL F1 l) H1 (addL F1 l) (upd H1 a (.ins C dx (putF f y ws))) := .of (fun _ h => h) fun b h => upd_ne fun z => S1'.nF i a (by rw [hfp]; simp) (z ▸ h)
  obtain ⟨S2, E2⟩ := S1'.mut (a := a) (n := 1) (n' := 1) (d := .ins C fs) (d' := .ins C (putFD f s.2 fs)) (o := .ins C dx (putF f y ws)) ev (by rw [hfp]; simp) (by rw [hfp]; exact mk1_ins upd_same (RepS.ext hx _ _ (r.put R1)))
  exact L.nx _ _ ⟨_, _, fp1, S2, E1'.trans E2, h3⟩
end

/-! ### an object made -/
section
variable {en : En} {ρ : DSt} {σ : St} {H H' : Hp} {F F' : Fz} {fp : Nat → List Addr}
/-- behind a call that may have changed what nobody owns yet -/
theorem SI.calledT (S : SI en ρ σ H F fp) {l : List Addr} (hl : ∀ a ∈ l, en.H0 a = none ∧ ¬ F a ∧ ∀ i, a ∉ fp i) (P : Since (enOf F H l []) F' H') : SI en ρ σ H' F' fp ∧ Ext F H F' H' := by
  have kk : ∀ a, H a ≠ none → a ∉ l → ¬ F a → H' a = H a := fun a h n m => by
    cases q : H a with
    | none => exact absurd q h
    | some o => exact P.kp a o q n m
  have nf : ∀ a, H a ≠ none → ¬ F a → ¬ F' a := fun a h n q => (P.fr a q).elim n fun z => z.elim h id
  have fl : ∀ i a, a ∈ fp i → a ∉ l := fun i a h z => (hl a z).2.2 i h
  have x : Ext F H F' H' := ⟨P.up, fun a h => P.kF a h, fun p h _ => P.tb p h⟩
  have h0 : ∀ a, H a = none → en.H0 a = none := fun a h => by
    cases q : en.H0 a with
    | none => rfl
    | some o => exact absurd h (S.dm a (by rw [q]; simp))
  refine ⟨{ up := fun a h => x.up a (S.up a h), fr := fun a h => ?_, tr := P.tr, kp := fun a o e n m => ?_, kF := fun a h => (S.kF a h).trans (x.kp a (S.up a h)), tb := fun p h => x.tb p h (S.tb p h), dm := fun a h => P.dm a (S.dm a h), pH := S.pH, pf := S.pf, sl := fun j m d h => ?_, nd := S.nd, dj := S.dj, nF := fun i a h => nf a (S.tf i a h) (S.nF i a h), tf := fun i a h => by rw [kk a (S.tf i a h) (fl i a h) (S.nF i a h)]; exact S.tf i a h, own := S.own, io := S.io, len := S.len, pinF := fun a h q => ?_ }, x⟩
  · rcases P.fr a h with q | q | q
    · exact S.fr a q
    · exact .inr (.inl (h0 a q))
    · exact q.elim
  · exact P.kp a o (S.kp a o e n m) (fun z => by rw [(hl a z).1] at e; cases e) (S.nF0 e n m)
  · obtain ⟨v, e, ow⟩ := S.sl j m d h
    exact ⟨v, e, ow.ext x _ _ _ _ fun b hb => kk b (S.tf j b hb) (fl j b hb) (S.nF j b hb)⟩
  · by_cases hF : F a
    · exact S.pinF a h hF
    · exact absurd q (nf a (S.dm a (S.pH a h)) hF)
end
def dMake (C : Addr) (sp : SpD) (ta : TDs) (R : RX) : TO := fun ρ Q => ta ρ fun ds ρ1 => sp ((1, .ins C []) :: fz ds) (fun r out => r.2 = .non ∧ Q out ρ1) fun x => R x ρ1
/-- a class and its __init__, as what may be made -/
structure Maker (P : Program) (w : World) (K : PySem.W.Frag) (mg : Str → Option Value) (base : Heap) (x : Str) (C : Addr) (k : Nat) (sp : SpD) : Prop where
  ex : ∃ (f : Addr) (fd : FuncData) (ps : List Str), FnOk P w K mg base (L2.CX P w) k f fd ps (spOf (some 0) sp) ∧ Mk K C f ∧ mg x = some (.ref C) ∧ Binds K fd ps []
section
variable {X : Cx} {en : En} {e : Expr} {es : List Expr} {ta : TDs} {R : RX} {k : Nat} {sp : SpD} {x : Str} {C f : Addr} {p pos : Pos}
def tMakeS (C : Addr) (sp : Sp) (E : St → XK) (t : TA) : TE := fun σ H Q => t σ H fun vs H1 => ∀ x dx, H1 x = none → H1 dx = none → dx ≠ x →
  sp (.ref x :: vs) (upd (upd H1 dx (.own x)) x (.ins C dx [])) (fun v H2 => v = .non ∧ Q (.ref x) H2) (E σ)
theorem run_makeS {CX : CXT} {fd : FuncData} {ps : List Str} {sp : Sp} {E : XK} {pins : List (Addr × Obj)} {σ : St} {H : Hp} {s : Shared} {Q : VK} {us : List Value} {vs : List V} (M : Mk X.K C f) (F : FnOk X.prog X.w X.K X.mg X.base CX k f fd ps sp) (hr : Room (k + 1) X.A) (hb : Binds X.K fd ps [])
    (hx : PassesAt CX X σ E) (I : Inv X pins σ H s) (r : Vals vs us)
    (h : ∀ x dx, H x = none → H dx = none → dx ≠ x → sp (.ref x :: vs) (upd (upd H dx (.own x)) x (.ins C dx [])) (fun v H2 => v = .non ∧ Q (.ref x) H2) E) :
    wpAny (model X.prog X.w) X.A (call (.ref C) us) (EP X pins σ Q) X.xe s := by
  have hq := h (s.heap.objs.size + 1) s.heap.objs.size (I.hok.fresh (Nat.le_succ _)) (I.hok.fresh (Nat.le_refl _)) (Nat.ne_of_lt (Nat.lt_succ_self _))
  have I2 := Inv.made (C := C) I
  have r2 : Vals (V.ref (s.heap.objs.size + 1) :: vs) (Value.ref (s.heap.objs.size + 1) :: us) := .cons rfl r
  have hl : (Value.ref (s.heap.objs.size + 1) :: us).length = ps.length := by
    have e := r2.length
    rw [F.len _ _ _ _ hq] at e
    exact e.symm
  have b := hb { s with heap := (s.heap.push { cls := .type "dict", data := .dict #[] }).push (PySem.W.instObj C s.heap.objs.size) } (Value.ref (s.heap.objs.size + 1) :: us) I2.kIn (by rw [List.append_nil]; exact hl)
  rw [List.append_nil] at b
  refine wpAny_call (make_map (f := f) I.kIn M.makes M.init (beq_iff_eq.mp M.fn) (codeAny_mono (F.run _ X.stack _ _ ⟨Value.ref (s.heap.objs.size + 1) :: us, []⟩ (Value.ref (s.heap.objs.size + 1) :: us) _ _ E (hr.make C us [])
    (I2.env0.make C us []) b r2 hq) fun r s' hq' => ?_))
  cases r with
  | error e => exact hx pins _ _ e s' I2 hq'
  | ok fl =>
    cases fl with
    | ret u =>
      obtain ⟨v, H', I3, rv, ev, q3⟩ := I2.after hq'
      subst ev
      exact ⟨rv, ⟨V.ref (s.heap.objs.size + 1), H', I3, rfl, q3⟩⟩
    | next => exact False.elim hq'
    | brk => exact False.elim hq'
    | cont => exact False.elim hq'
theorem pe_makeS {CX : CXT} {fd : FuncData} {ps : List Str} {sp : Sp} {E : St → XK} {t : TA} (M : Mk X.K C f) (F : FnOk X.prog X.w X.K X.mg X.base CX k f fd ps sp) (hr : Room (k + 1) X.A) (hg : Gl X x) (hm : X.mg x = some (.ref C)) (hb : Binds X.K fd ps []) (hx : ∀ σ, PassesAt CX X σ (E σ))
    (ha : PA X (e :: es) t) (hdb : (x == ("__debug__" : Str)) = false := by decide) (he : starEach (e :: es) X.env = (false, eval e X.env) :: starEach es X.env := by rfl) (hpl : (backTo pos (starEach es X.env)).any (·.1) = false := by rfl) :
    PE X (.Call (.Name x p) (e :: es) [] pos) (tMakeS C sp E t) := by
  refine ⟨fun pins s σ H Q I h => ?_⟩
  refine wpAny_Call_Name_kw (ld_glob I hg hm ?_ hdb)
  refine PySem.W.callWith_K (h₀ := X.base) I.ok.mod.kin M.kp (thn (ha.run pos pins s σ H _ I h) fun us s1 ⟨vs, H1, I1, r, q⟩ => ⟨I1.kIn, ?_⟩) he hpl
  exact run_makeS M F hr hb (hx σ) I1 r q
theorem make_core {σ : St} {H : Hp} {Q : VK} {F : Fz} {ρ : DSt} {fp : Nat → List Addr} {ds : List D} {vs : List V} {Q' : Sl → DSt → Prop} (S : SI en ρ σ H F fp) (r : RepL F H ds vs)
    (h : sp ((1, .ins C []) :: fz ds) (fun r out => r.2 = .non ∧ Q' out ρ) fun x => R x ρ) (mono : MonoSp sp)
    (k : ∀ s v F' H' l, SI en ρ σ H' F' fp → Ext F H F' H' → Tmp en F' H' fp s v l → Q' s ρ → Q v H') (x dx : Addr) (hx : H x = none) (hdx : H dx = none) (hne : dx ≠ x) :
    spOf (some 0) sp (.ref x :: vs) (upd (upd H dx (.own x)) x (.ins C dx [])) (fun v H2 => v = .non ∧ Q (.ref x) H2) (WE (wOf en R) σ) := by
  obtain ⟨S1, E1⟩ := S.newO (o := .own x) hdx
  have hx1 : upd H dx (.own x) x = none := by rw [upd_ne (Ne.symm hne)]; exact hx
  obtain ⟨S2, E2⟩ := S1.newO (o := .ins C dx []) hx1
  have fx := S.free hx
  have E12 := E1.trans E2
  have A := args_fz (RepL.ext E12 _ _ r) S2.tr S2.tb
  have hl : ∀ a ∈ [x], en.H0 a = none ∧ ¬ F a ∧ ∀ i, a ∉ fp i := fun a ha => by
    have e : a = x := by simpa using ha
    subst e
    exact ⟨fx.1, fx.2.1, fx.2.2.1⟩
  refine ⟨(1, .ins C []) :: fz ds, F, [x], { len := by simpa using A.len, rep := fun i s v h1 h2 hn => ?_, own := fun i hi => ?_, nil := fun z => (nomatch z), nd := by simp, ok := fun a ha => ?_, tr := S2.tr, tb := S2.tb }, mono _ _ _ _ _ (fun s o hs v F' H' lr lo RO => ?_) (fun y hy cls d F' H' P lF ex => ?_) h⟩
  · cases i with
    | zero => exact absurd rfl hn
    | succ i => exact A.rep i s v (by simpa using h1) (by simpa using h2) (by simp)
  · cases hi
    exact ⟨_, _, rfl, rfl, mk1_ins upd_same rfl⟩
  · have e : a = x := by simpa using ha
    subst e
    exact ⟨fx.2.1, by rw [upd_same]; simp⟩
  · obtain ⟨w, hw, owo⟩ := RO.out
    have hw : V.ref x = w := by simpa using hw
    subst hw
    obtain ⟨S3, E3⟩ := S2.calledT hl RO.since
    have nd := List.nodup_append.mp RO.nd
    have fl : ∀ a ∈ lo, en.H0 a = none ∧ ∀ i, a ∉ fp i := fun a ha => by
      rcases RO.fo a ha with q | q
      · exact ⟨(S2.free q).1, (S2.free q).2.2.1⟩
      · exact ⟨(hl a q).1, (hl a q).2.2⟩
    refine ⟨?_, k o (.ref x) F' H' lo S3 (E12.trans E3) ⟨owo, nd.2.1, fun a ha => ?_⟩ hs.2⟩
    · have := RO.ret.freeze (fun _ h => .inl h) _ _ _ _ (F' := addL F' lr) fun a h => .inr h
      rw [hs.1] at this
      exact this
    · have q := RO.ok a (List.mem_append_right _ ha)
      exact ⟨q.1, q.2, (fl a ha).1, fun z => S.pH a z (fl a ha).1, (fl a ha).2⟩
  · obtain ⟨S3, E3⟩ := S2.calledT hl P
    exact ⟨ρ, F', fp, y, S3, ex, hy⟩
theorem v_make (M : Maker X.prog X.w X.K X.mg X.base x C k sp) (mono : MonoSp sp) (hr : Room (k + 1) X.A) (tk : Takes X (wOf en R)) (A : PVs X en (e :: es) ta) (hg : Gl X x := by rfl) (hdb : (x == ("__debug__" : Str)) = false := by decide)
    (he : starEach (e :: es) X.env = (false, eval e X.env) :: starEach es X.env := by rfl) (hpl : (backTo pos (starEach es X.env)).any (·.1) = false := by rfl) : PV X en (.Call (.Name x p) (e :: es) [] pos) (dMake C sp ta R) := by
  obtain ⟨f, fd, ps, G, M, hm, hb⟩ := M.ex
  refine ⟨(pe_makeS M G hr hg hm hb (fun σ => passAt tk σ) A.run hdb he hpl).imp fun σ H Q h => ?_, fun ρ Q Q' kk h => A.mono _ _ _ (fun ds ρ1 h => mono _ _ _ _ _ (fun r o h => ⟨h.1, kk _ _ h.2⟩) (fun _ h => h) h) h⟩
  obtain ⟨ρ, F, fp, S, h⟩ := h
  refine ⟨ρ, F, fp, S, A.mono _ _ _ (fun ds ρ1 h vs H1 F1 fp1 S1 E1 R1 => ?_) h⟩
  exact fun x dx hx hdx hne => make_core (Q' := fun s ρ' => ∀ (v : V) (H' : Hp) (F' : Fz) (fp' : Nat → List Addr) (l : List Addr), SI en ρ' σ H' F' fp' → Ext F H F' H' → Tmp en F' H' fp' s v l → Q v H') S1 R1 h mono
    (fun s v F' H' l S2 E2 T2 hs => hs v H' F' fp1 l S2 (E1.trans E2) T2) x dx hx hdx hne
end

/-! ### a method of an object that is looked at -/
def dMeth (C : Addr) (m : Str) (sp : SpD) (to : TO) (ta : TDs) (R : RX) : TO := fun ρ Q => to ρ fun s ρ1 => ∃ fs, s.2 = .ins C fs ∧ fs.lookup m = none ∧ ta ρ1 fun ds ρ2 => sp (fz (.ins C fs :: ds)) (fun r _ => Q r ρ2) fun x => R x ρ2
structure CalleeM (P : Program) (w : World) (K : PySem.W.Frag) (mg : Str → Option Value) (base : Heap) (C : Addr) (m : Str) (k : Nat) (sp : SpD) : Prop where
  cl : Cls K C
  ex : ∃ (f : Addr) (fd : FuncData) (ps : List Str), FnOk P w K mg base (L2.CX P w) k f fd ps (spOf none sp) ∧ Meth K C m f ∧ Binds K fd ps []
section
variable {X : Cx} {en : En} {o e : Expr} {es : List Expr} {to : TO} {ta : TDs} {R : RX} {k : Nat} {sp : SpD} {m : Str} {C f : Addr} {p pos apos : Pos}
def tMethS (C : Addr) (m : Str) (sp : Sp) (E : St → XK) (ta : TE) (t : TA) : TE := fun σ H Q => ta σ H fun x H1 => ∃ a dx fs, x = .ref a ∧ H1 a = some (.ins C dx fs) ∧ fs.lookup m = none ∧
  t σ H1 fun vs H2 => sp (x :: vs) H2 Q (E σ)
theorem pe_methS {CX : CXT} {fd : FuncData} {ps : List Str} {sp : Sp} {E : St → XK} {ta : TE} {t : TA} {pl : Sem Bool} (he : PE X o ta) (c : Cls X.K C) (hm : Meth X.K C m f) (F : FnOk X.prog X.w X.K X.mg X.base CX k f fd ps sp) (hr : Room k X.A) (hb : Binds X.K fd ps []) (hx : ∀ σ, PassesAt CX X σ (E σ)) (ha : PA X (e :: es) t)
    (hst : starEach (e :: es) X.env = (false, eval e X.env) :: starEach es X.env := by rfl) (hpl : (backTo pos (starEach es X.env)).any (·.1) = false := by rfl)
    (ht : eval (.Call (.Attribute o m apos) (e :: es) [] pos) X.env = (do
      let ov ← eval o X.env
      standAt apos.atName
      let (f, first) ← holding [ov] (getMethod ov m pl)
      callWith pos f first (backTo pos (starEach (e :: es) X.env)) (backToKw pos (keywordEach [] X.env))) := by rfl) :
    PE X (.Call (.Attribute o m apos) (e :: es) [] pos) (tMethS C m sp E ta t) := by
  refine ⟨fun pins s σ H Q I h => ?_⟩
  refine PySem.W.methodCall_KW (pl := pl) (thn (he.run pins s σ H _ I h) fun u s1 ⟨x, H1, I1, rx, a, dx, fs, ex, ea, l, q⟩ => ?_) ht
  subst ex
  obtain rfl : u = Value.ref a := rx
  refine getmeth_ok I1 ea c hm l ?_
  refine PySem.W.callWith_K (first := [.ref a]) (h₀ := X.base) I.ok.mod.kin hm.kp (thn (ha.run pos pins s1 σ H1 _ I1 q) fun us s2 ⟨vs, H2, I2, r, q2⟩ => ⟨I2.kIn, ?_⟩) hst hpl
  exact run_fnS (us := .ref a :: us) (vs := .ref a :: vs) F hr hb (hx σ) I2 (.cons rfl r) q2
theorem pe_methS0 {CX : CXT} {fd : FuncData} {ps : List Str} {sp : Sp} {E : St → XK} {ta : TE} {pl : Sem Bool} (he : PE X o ta) (c : Cls X.K C) (hm : Meth X.K C m f) (F : FnOk X.prog X.w X.K X.mg X.base CX k f fd ps sp) (hr : Room k X.A) (hb : Binds X.K fd ps []) (hx : ∀ σ, PassesAt CX X σ (E σ))
    (ht : eval (.Call (.Attribute o m apos) [] [] pos) X.env = (do
      let ov ← eval o X.env
      standAt apos.atName
      let (f, first) ← holding [ov] (getMethod ov m pl)
      callWith pos f first (backTo pos (starEach [] X.env)) (backToKw pos (keywordEach [] X.env))) := by rfl) :
    PE X (.Call (.Attribute o m apos) [] [] pos) (tMethS C m sp E ta tNil) := by
  refine ⟨fun pins s σ H Q I h => ?_⟩
  refine PySem.W.methodCall_KW (pl := pl) (thn (he.run pins s σ H _ I h) fun u s1 ⟨x, H1, I1, rx, a, dx, fs, ex, ea, l, q⟩ => ?_) ht
  subst ex
  obtain rfl : u = Value.ref a := rx
  refine getmeth_ok I1 ea c hm l ?_
  exact PySem.W.callWith_K0 (first := [.ref a]) I1.kIn hm.kp (run_fnS (us := [.ref a]) (vs := [.ref a]) F hr hb (hx σ) I1 (.cons rfl .nil) q)
theorem meth_read {σ : St} {H : Hp} {Q : VK} (O : PV X en o to) (A : PVs X en es ta) (mono : MonoSp sp) (h : lift en (dMeth C m sp to ta R) σ H Q) : tMethS C m (spOf none sp) (fun σ => WE (wOf en R) σ) (lift en to) (liftL en ta) σ H Q := by
  obtain ⟨ρ, F, fp, S, h⟩ := h
  refine ⟨ρ, F, fp, S, O.mono _ _ _ (fun s ρ1 ⟨fs, h1, h2, h3⟩ v H1 F1 fp1 l S1 E1 T1 => ?_) h⟩
  obtain ⟨S1', R1⟩ := T1.freeze S1
  have E1' := E1.trans (Ext.addL F1 H1 l)
  rw [h1] at R1
  obtain ⟨a, dx, ws, ev, fa, ha, r⟩ := id R1
  refine ⟨a, dx, ws, ev, ha, r.none h2, ρ1, _, fp1, S1', A.mono _ _ _ (fun ds ρ2 h vs H2 F2 fp2 S2 E2 R2 => ?_) h3⟩
  exact call_core (ds := .ins C fs :: ds) (vs := v :: vs) (Q' := fun s ρ' => ∀ (v : V) (H' : Hp) (F' : Fz) (fp' : Nat → List Addr) (l : List Addr), SI en ρ' σ H' F' fp' → Ext F H F' H' → Tmp en F' H' fp' s v l → Q v H') S2 ⟨v, vs, rfl, Rep.ext E2 _ _ R1, R2⟩ h mono
    fun s v F' H' l S3 E3 T3 hs => hs v H' F' fp2 l S3 ((E1'.trans E2).trans E3) T3
theorem mono_meth (O : MonoD to) (A : MonoD ta) (mono : MonoSp sp) : MonoD (dMeth C m sp to ta R) := fun ρ Q Q' k h => O _ _ _ (fun s ρ1 ⟨fs, h1, h2, h3⟩ => ⟨fs, h1, h2, A _ _ _ (fun ds ρ2 h => mono _ _ _ _ _ (fun r o h => k _ _ h) (fun _ h => h) h) h3⟩) h
theorem v_meth {pl : Sem Bool} (CM : CalleeM X.prog X.w X.K X.mg X.base C m k sp) (mono : MonoSp sp) (hr : Room k X.A) (tk : Takes X (wOf en R)) (O : PV X en o to) (A : PVs X en (e :: es) ta)
    (hst : starEach (e :: es) X.env = (false, eval e X.env) :: starEach es X.env := by rfl) (hpl : (backTo pos (starEach es X.env)).any (·.1) = false := by rfl)
    (ht : eval (.Call (.Attribute o m apos) (e :: es) [] pos) X.env = (do
      let ov ← eval o X.env
      standAt apos.atName
      let (f, first) ← holding [ov] (getMethod ov m pl)
      callWith pos f first (backTo pos (starEach (e :: es) X.env)) (backToKw pos (keywordEach [] X.env))) := by rfl) : PV X en (.Call (.Attribute o m apos) (e :: es) [] pos) (dMeth C m sp to ta R) := by
  obtain ⟨f, fd, ps, G, M, hb⟩ := CM.ex
  exact ⟨(pe_methS O.run CM.cl M G hr hb (fun σ => passAt tk σ) A.run hst hpl ht).imp fun σ H Q h => meth_read O A mono h, mono_meth O.mono A.mono mono⟩
theorem v_meth0 {pl : Sem Bool} (CM : CalleeM X.prog X.w X.K X.mg X.base C m k sp) (mono : MonoSp sp) (hr : Room k X.A) (tk : Takes X (wOf en R)) (O : PV X en o to)
    (ht : eval (.Call (.Attribute o m apos) [] [] pos) X.env = (do
      let ov ← eval o X.env
      standAt apos.atName
      let (f, first) ← holding [ov] (getMethod ov m pl)
      callWith pos f first (backTo pos (starEach [] X.env)) (backToKw pos (keywordEach [] X.env))) := by rfl) : PV X en (.Call (.Attribute o m apos) [] [] pos) (dMeth C m sp to dNil R) := by
  obtain ⟨f, fd, ps, G, M, hb⟩ := CM.ex
  refine ⟨(pe_methS0 O.run CM.cl M G hr hb (fun σ => passAt tk σ) ht).imp fun σ H Q h => ?_, mono_meth O.mono (v_nil (X := X) (en := en)).mono mono⟩
  have q := meth_read O (v_nil (X := X) (en := en)) mono h
  obtain ⟨ρ, F, fp, S, q⟩ := q
  refine ⟨ρ, F, fp, S, O.mono _ _ _ (fun s ρ1 q v H1 F1 fp1 l S1 E1 T1 => ?_) q⟩
  obtain ⟨a, dx, ws, h1, h2, h3, ρ2, F2, fp2, S2, h4⟩ := q v H1 F1 fp1 l S1 E1 T1
  exact ⟨a, dx, ws, h1, h2, h3, h4 [] H1 F2 fp2 S2 (Ext.refl _ _) rfl⟩
end
end DL

/-! DLm: dicts filled and changed, dict comprehensions, a, b = e, f. -/
namespace DL
open PySem PySem.Spec PyProof.Rows L2
variable [LamT]

/-! ### a table, by its data -/
section
variable {κ : Type} [DecidableEq κ]
def putD (kvs : List (κ × D)) (k : κ) (d : D) : List (κ × D) :=
  if (kvs.any fun kv => decide (kv.1 = k)) = true then kvs.map (fun kv => if kv.1 = k then (kv.1, d) else kv) else kvs ++ [(k, d)]
theorem putD_length (kvs : List (κ × D)) (k : κ) (d : D) : (putD kvs k d).length ≤ kvs.length + 1 := by
  unfold putD
  split <;> simp
theorem valD_any (k : κ) : ∀ kvs : List (κ × D), (kvs.any fun kv => decide (kv.1 = k)) = (valD kvs k).isSome
  | [] => rfl
  | p :: r => by
    unfold valD
    rw [List.any_cons, List.find?_cons]
    by_cases e : p.1 = k
    · simp [e]
    · simp only [decide_eq_false e, Bool.false_or]
      exact valD_any k r
end
section
variable {F : Fz} {H : Hp}
theorem RepK.any {k : Key} : ∀ {kvs : List (Key × D)} {ws : List (Key × V)}, RepK F H kvs ws → (kvs.any fun kv => decide (kv.1 = k)) = ws.any fun kv => decide (kv.1 = k)
  | [], _, h => by
    have h : _ = [] := h
    subst h
    rfl
  | (k', d) :: r, _, h => by
    obtain ⟨q, s, e, h1, h2⟩ := h
    subst e
    have h1 : q.1 = k' ∧ Rep F H d q.2 := h1
    rw [List.any_cons, List.any_cons, h2.any, h1.1]
theorem RepK.mapPut {k : Key} {d : D} {v : V} (rd : Rep F H d v) : ∀ {kvs : List (Key × D)} {ws : List (Key × V)}, RepK F H kvs ws → RepK F H (kvs.map fun kv => if kv.1 = k then (kv.1, d) else kv) (ws.map fun kv => if kv.1 = k then (kv.1, v) else kv)
  | [], _, h => by
    have h : _ = [] := h
    subst h
    rfl
  | (k', d') :: r, _, h => by
    obtain ⟨q, s, e, h1, h2⟩ := h
    subst e
    obtain ⟨q1, q2⟩ := q
    have hh : q1 = k' ∧ Rep F H d' q2 := h1
    obtain ⟨e1, h3⟩ := hh
    subst e1
    refine ⟨_, _, List.map_cons, ?_, h2.mapPut rd⟩
    by_cases hk : q1 = k
    · simp only [if_pos hk]
      exact ⟨rfl, rd⟩
    · simp only [if_neg hk]
      exact ⟨rfl, h3⟩
theorem RepK.append : ∀ {ds es : List (Key × D)} {vs ws : List (Key × V)}, RepK F H ds vs → RepK F H es ws → RepK F H (ds ++ es) (vs ++ ws)
  | [], _, _, _, h, h' => by
    have h : _ = [] := h
    rw [h]
    exact h'
  | d :: ds, _, _, _, h, h' => by
    obtain ⟨v, r, e, h1, h2⟩ := h
    rw [e]
    exact ⟨v, r ++ _, rfl, h1, h2.append h'⟩
theorem RepK.put {k : Key} {d : D} {v : V} {kvs : List (Key × D)} {ws : List (Key × V)} (r : RepK F H kvs ws) (rd : Rep F H d v) : RepK F H (putD kvs k d) (putK ws k v) := by
  unfold putD putK
  rw [r.any (k := k)]
  split
  · exact r.mapPut rd
  · exact r.append ⟨_, [], rfl, ⟨rfl, rd⟩, rfl⟩
end

/-! ### d[k] = v -/
def dPut (i : Nat) (tk tv : TO) : TSd := fun A ρ => tv ρ fun sv ρ1 => (∃ s, ρ1[i]? = some (some s)) ∧ tk ρ1 fun sk ρ2 => ∃ kvs q, ρ2[i]? = some (some (1, .dic kvs)) ∧ keyD sk.2 = some q ∧ kvs.length < sizeLine ∧ A.nx (ρ2.set i (some (1, .dic (putD kvs q sv.2))))
section
variable {X : Cx} {en : En} {k value a b c : Expr} {x y z : Str} {pos pos' p : Pos} {tk tv ta tb tc : TO}
theorem s_put (i : Nat) (hu : X.A.units + 1 < cLine) (Kk : PV X en k tk) (E : PV X en value tv) (hN : X.N[i]? = some x := by rfl) (hv : Vis X.env.scope x := by first | exact Or.inl rfl | exact Or.inr (Or.inl rfl) | exact Or.inr (Or.inr rfl))
    (hs : swapsWith value (some (.Subscript (.Name x p) k pos')) pos.line X.env = pure false := by rfl) (hd : (x == ("__debug__" : Str)) = false := by decide) (hcd : (x == ("__classdict__" : Str)) = false := by decide) :
    PSd X en (.Assign [.Subscript (.Name x p) k pos'] value pos) (dPut i tk tv) := by
  refine ⟨(ps_dput hu (pe_var hN hv hd hcd) Kk.run E.run hs).imp fun B σ H h => ?_, fun A B ρ L h => E.mono _ _ _ (fun sv ρ1 ⟨h0, h⟩ => ⟨h0, Kk.mono _ _ _ (fun sk ρ2 ⟨kvs, q, h1, h2, h3, h4⟩ => ⟨kvs, q, h1, h2, h3, L.nx _ h4⟩) h⟩) h⟩
  obtain ⟨A, ρ, F, fp, L, S, h⟩ := h
  refine ⟨ρ, F, fp, S, E.mono _ _ _ (fun sv ρ1 ⟨⟨s0, h0⟩, h⟩ v H1 F1 fp1 l S1 E1 T1 => ?_) h⟩
  obtain ⟨S1', R1⟩ := T1.freeze S1
  have E1' := E1.trans (Ext.addL F1 H1 l)
  obtain ⟨dv, ev, _⟩ := S1'.sl i s0.1 s0.2 h0
  refine ⟨dv, ev, ρ1, _, fp1, S1', Kk.mono _ _ _ (fun sk ρ2 ⟨kvs, q, h1, h2, h3, h4⟩ kv H2 F2 fp2 l2 S2 E2 T2 => ?_) h⟩
  obtain ⟨S2', R2⟩ := T2.freeze S2
  have E2' := E2.trans (Ext.addL F2 H2 l2)
  obtain ⟨dv2, ev2, ow⟩ := S2'.sl i _ _ h1
  rw [ev] at ev2
  cases ev2
  obtain ⟨a, ws, ea, ha, r, hfp⟩ := own1_dic ow
  subst ea
  have ek := keyD_rep h2 R2
  subst ek
  have hx : Ext (addL F2 l2) H2 (addL F2 l2) (upd H2 a (.dK (putK ws q v))) := .of (fun _ h => h) fun b h => upd_ne fun z => S2'.nF i a (by rw [hfp]; simp) (z ▸ h)
  obtain ⟨S3, E3⟩ := S2'.mut (a := a) (n := 1) (n' := 1) (d := .dic kvs) (d' := .dic (putD kvs q sv.2)) (o := .dK (putK ws q v)) ev (by rw [hfp]; simp) (by rw [hfp]; exact mk1_dic upd_same (RepK.ext hx _ _ (r.put (R1.ext E2'))))
  exact ⟨a, _, rfl, .inl ⟨ws, q, ha, rfl, by rw [← r.len]; exact h3, rfl⟩, L.nx _ _ ⟨_, _, fp2, S3, (E1'.trans E2').trans E3, h4⟩⟩
end

/-! ### a thing that nobody owns yet, behind a part on its own -/
section
variable {en : En} {ρ ρ2 : DSt} {σ σ2 : St} {H H2 : Hp} {F F2 : Fz} {fp fp2 : Nat → List Addr} {s s2 : Sl} {v v2 : V} {l l2 : List Addr}
theorem Tmp.over (T : Tmp en F H fp s v l) (S2 : SI (rb en F H fp) ρ2 σ2 H2 F2 fp2) (E2 : Ext F H F2 H2) : Tmp en F2 H2 fp2 s v l := by
  have keep : ∀ a ∈ l, H2 a = H a := fun a ha => by
    cases q : H a with
    | none => exact absurd q (T.ok a ha).2.1
    | some o => exact S2.kp a o q (fun ⟨i, z⟩ => (T.ok a ha).2.2.2.2 i z) (T.ok a ha).1
  refine ⟨T.own.ext E2 _ _ _ _ keep, T.nd, fun a ha => ?_⟩
  have t := T.ok a ha
  refine ⟨fun q => ?_, by rw [keep a ha]; exact t.2.1, t.2.2.1, t.2.2.2.1, fun i q => ?_⟩
  · rcases S2.fr a q with z | z | ⟨i, _, z⟩
    · exact t.1 z
    · exact t.2.1 z
    · exact t.2.2.2.2 i z
  · rcases S2.own i a q with z | ⟨⟨j, z⟩, _⟩
    · exact t.2.1 z
    · exact t.2.2.2.2 j z
theorem Tmp.under (S : SI en ρ σ H F fp) (T : Tmp (rb en F H fp) F2 H2 fp2 s v l) : Tmp en F2 H2 fp2 s v l := by
  refine ⟨T.own, T.nd, fun a ha => ?_⟩
  have t := T.ok a ha
  have h0 : H a = none := t.2.2.1
  have f := S.free h0
  exact ⟨t.1, t.2.1, f.1, fun z => S.pH a z f.1, t.2.2.2.2⟩
theorem Tmp.apart (T : Tmp en F H fp s v l) (T2 : Tmp (rb en F H fp) F2 H2 fp2 s2 v2 l2) : ∀ a ∈ l2, a ∉ l := fun a h z => (T.ok a z).2.1 (T2.ok a h).2.2.1
/-- a second thing beside one that is stored -/
theorem Tmp.beside {i : Nat} (T2 : Tmp en F H fp s2 v2 l2) (ap : ∀ a ∈ l2, a ∉ l) : Tmp en F H (fun j => if j = i then l else fp j) s2 v2 l2 :=
  ⟨T2.own, T2.nd, fun a h => ⟨(T2.ok a h).1, (T2.ok a h).2.1, (T2.ok a h).2.2.1, (T2.ok a h).2.2.2.1, fun j => by
    by_cases hj : j = i
    · simp only [if_pos hj]; exact ap a h
    · simp only [if_neg hj]; exact (T2.ok a h).2.2.2.2 j⟩⟩
end
def dPar2 (i j : Nat) (ta tb : TO) : TSd := fun A ρ => ta ρ fun s1 ρ1 => tb ρ1 fun s2 ρ2 => A.nx ((ρ2.set i (some s1)).set j (some s2))
section
variable {X : Cx} {en : En} {a b c : Expr} {x y z : Str} {pos px py pz pt pt2 : Pos} {kt k2 : Nat} {ta tb tc : TO}
theorem par2_read {i j : Nat} {σ : St} {H : Hp} {Q : List V → Hp → Prop} {P : DSt → Prop} (A : MonoD ta) (B : MonoD tb) (hi : i ∉ en.ios) (hj : j ∉ en.ios)
    {ρ : DSt} {F : Fz} {fp : Nat → List Addr} (S : SI en ρ σ H F fp) (h : ta ρ fun s1 ρ1 => tb ρ1 fun s2 ρ2 => P ((ρ2.set i (some s1)).set j (some s2)))
    (k : ∀ v1 v2 ρ' H' F' fp', SI en ρ' ((σ.set i (some v1)).set j (some v2)) H' F' fp' → Ext F H F' H' → P ρ' → Q [v1, v2] H') :
    tCons (lift en ta) (tCons (anyE en tb) tNil) σ H Q := by
  refine ⟨ρ, F, fp, S, A _ _ _ (fun s1 ρ1 h1 v1 H1 F1 fp1 l1 S1 E1 T1 => ?_) h⟩
  refine ⟨rb en F1 H1 fp1, rfl, ρ1, F1, fp1, S1.rebase, B _ _ _ (fun s2 ρ2 h2 v2 H2 F2 fp2 l2 S2 E2 T2 => ?_) h1⟩
  have ap := T1.apart T2
  have T1' := T1.over S2 E2
  have T2' := Tmp.under S1 T2
  have S3 := (S1.unbase S2).store T1' hi
  have S4 := S3.store (T2'.beside ap) hj
  exact k v1 v2 _ H2 F2 _ S4 (E1.trans E2) h2
theorem s_par2 {i j : Nat} (A : PV X en a ta) (B : ∀ en', en'.ios = en.ios → PV X en' b tb) (hi : i ∉ en.ios) (hj : j ∉ en.ios) (hij : i ≠ j) (hc : X.calm = true) (hN : X.N.Nodup) (hxi : X.N[i]? = some x := by rfl) (hyj : X.N[j]? = some y := by rfl)
    (hx : X.env.scope.names.lookup x = some .local := by rfl) (hy : X.env.scope.names.lookup y = some .local := by rfl)
    (hw : swappedStores [.Tuple [.Name x px, .Name y py] kt pt] (.Tuple [a, b] k2 pt2) X.env = pure (some [x, y]) := by rfl)
    (hs : swapsWithSole [.Tuple [.Name x px, .Name y py] kt pt] (.Tuple [a, b] k2 pt2) pos.line X.env = pure false := by rfl)
    (h1 : starEach [a, b] X.env = (false, eval a X.env) :: starEach [b] X.env := by rfl) (h2 : starEach [b] X.env = (false, eval b X.env) :: starEach [] X.env := by rfl) :
    PSd X en (.Assign [.Tuple [.Name x px, .Name y py] kt pt] (.Tuple [a, b] k2 pt2) pos) (dPar2 i j ta tb) := by
  have mb : MonoD tb := (B en rfl).mono
  refine ⟨(ps_par hc hN hxi hyj hij hx hy (pa_cons A.run (pa_cons (pe_any B) pa_nil h2) h1) hw hs).imp fun D σ H h => ?_, fun A' B' ρ L h => A.mono _ _ _ (fun s1 ρ1 h => mb _ _ _ (fun s2 ρ2 h => L.nx _ h) h) h⟩
  obtain ⟨A', ρ, F, fp, L, S, h⟩ := h
  exact par2_read A.mono mb hi hj S h fun v1 v2 ρ' H' F' fp' S' E' h' => ⟨v1, v2, rfl, L.nx _ _ ⟨ρ', F', fp', S', E', h'⟩⟩
/-- .. where a comprehension or a lambda reads one of the names -/
theorem s_par2c {i j : Nat} (A : PV X en a ta) (B : ∀ en', en'.ios = en.ios → PV X en' b tb) (hi : i ∉ en.ios) (hj : j ∉ en.ios) (hij : i ≠ j) (hc : X.calm = true) (hN : X.N.Nodup) (hxi : X.N[i]? = some x := by rfl) (hyj : X.N[j]? = some y := by rfl)
    (hx : Loc X.env.scope x := by first | exact Or.inl rfl | exact Or.inr rfl) (hy : Loc X.env.scope y := by first | exact Or.inl rfl | exact Or.inr rfl)
    (fx : X.fn x = true ∨ X.env.scope.names.lookup x = some .local := by first | exact .inl rfl | exact .inr rfl) (fy : X.fn y = true ∨ X.env.scope.names.lookup y = some .local := by first | exact .inl rfl | exact .inr rfl)
    (hw : swappedStores [.Tuple [.Name x px, .Name y py] kt pt] (.Tuple [a, b] k2 pt2) X.env = pure none := by rfl)
    (hs : swapsWithSole [.Tuple [.Name x px, .Name y py] kt pt] (.Tuple [a, b] k2 pt2) pos.line X.env = pure false := by rfl)
    (g1 : (assignEach [.Name x px, .Name y py] X.env).map (·.2) = assign (.Name x px) X.env :: (assignEach [.Name y py] X.env).map (·.2) := by rfl)
    (g2 : (assignEach [.Name y py] X.env).map (·.2) = assign (.Name y py) X.env :: (assignEach [] X.env).map (·.2) := by rfl)
    (g3 : (assignEach [.Name x px, .Name y py] X.env).length = 2 := by rfl) (g4 : (assignEach [.Name x px, .Name y py] X.env).findIdx? (·.1) = none := by rfl)
    (h1 : starEach [a, b] X.env = (false, eval a X.env) :: starEach [b] X.env := by rfl) (h2 : starEach [b] X.env = (false, eval b X.env) :: starEach [] X.env := by rfl) :
    PSd X en (.Assign [.Tuple [.Name x px, .Name y py] kt pt] (.Tuple [a, b] k2 pt2) pos) (dPar2 i j ta tb) := by
  have mb : MonoD tb := (B en rfl).mono
  refine ⟨(ps_asg (pe_tup (pa_cons A.run (pa_cons (pe_any B) pa_nil h2) h1)) (pg_tup hc (pgs_cons (pg_name hN hxi hx fx) (pgs_cons (pg_name hN hyj hy fy) pgs_nil g2) g1) g3 g4) hs hw).imp fun D σ H h => ?_, fun A' B' ρ L h => A.mono _ _ _ (fun s1 ρ1 h => mb _ _ _ (fun s2 ρ2 h => L.nx _ h) h) h⟩
  obtain ⟨A', ρ, F, fp, L, S, h⟩ := h
  refine par2_read (Q := fun xs H1 => xs.length ≤ sizeLine ∧ ∀ p, H1 p = none → L2.gTup X.K 2 (L2.gCons (gName i) (L2.gCons (gName j) L2.gNil)) (.ref p) σ (upd H1 p (.tup xs)) D.nx) A.mono mb hi hj S h fun v1 v2 ρ' H' F' fp' S' E' h' => ⟨by show 2 ≤ sizeLine; rw [sizeLine_eq]; omega, fun p hp => ?_⟩
  obtain ⟨S2, E2⟩ := S'.newO (o := .tup [v1, v2]) hp
  exact ⟨p, [v1, v2], rfl, SqT.of upd_same, rfl, v1, [v2], rfl, v2, [], rfl, rfl, L.nx _ _ ⟨ρ', F', fp', S2, E'.trans E2, h'⟩⟩
end
end DL

/-! DLn: dict comprehensions and displays. -/
namespace DL
open PySem PySem.Spec PyProof.Rows L2
variable [LamT]

section
variable {F F' : Fz} {H H' : Hp} {m : Nat}
/-- a table of things owned to the depth m -/
theorem OwnK.append {P : D → V → List Addr → Prop} : ∀ {ds es : List (Key × D)} {vs ws : List (Key × V)} {l l' : List Addr}, OwnK P ds vs l → OwnK P es ws l' → OwnK P (ds ++ es) (vs ++ ws) (l ++ l')
  | [], _, _, _, _, _, h, h' => by
    rw [h.1, h.2]
    exact h'
  | d :: ds, _, _, _, _, _, h, h' => by
    obtain ⟨v, r, l1, l2, e1, e2, h1, h2⟩ := h
    rw [e1, e2]
    exact ⟨v, r ++ _, l1, l2 ++ _, rfl, by rw [List.append_assoc], h1, h2.append h'⟩
theorem OwnK.any {P : D → V → List Addr → Prop} {k : Key} : ∀ {kvs : List (Key × D)} {ws : List (Key × V)} {l : List Addr}, OwnK P kvs ws l → (kvs.any fun kv => decide (kv.1 = k)) = ws.any fun kv => decide (kv.1 = k)
  | [], _, _, h => by rw [h.1]; rfl
  | d :: ds, _, _, h => by
    obtain ⟨v, r, l1, l2, e1, e2, h1, h2⟩ := h
    rw [e1, List.any_cons, List.any_cons, h2.any]
end

/-! ### {k: v for tg in iter if ..}, the values owned to the depth m (0: frozen) -/
def dDcL (m : Nat) (vs : List Nat) (g : TGd) (tt : TB) (tk tv : TO) (K : List (Key × D) → DSt → Prop) : List D → List (Key × D) → DSt → Prop
  | [], acc, ρ => K acc ρ
  | x :: xs, acc, ρ => g x ρ fun ρ1 => tt ρ1 fun b ρ2 => if b = true then tk ρ2 fun sk ρ3 => tv ρ3 fun sv ρ4 => ∃ q, keyD sk.2 = some q ∧ (m = 0 ∨ (sv.1 = m ∧ valD acc q = none)) ∧ dDcL m vs g tt tk tv K xs (putD acc q sv.2) (wipeD ρ4 vs)
      else dDcL m vs g tt tk tv K xs acc (wipeD ρ2 vs)
def dDc (m : Nat) (vs : List Nat) (ti : TDs) (g : TGd) (tt : TB) (tk tv : TO) : TO := fun ρ Q => ti ρ fun xs ρ1 => xs.length ≤ sizeLine ∧ dDcL m vs g tt tk tv (fun acc ρ' => Q (m + 1, .dic acc) ρ') xs [] (wipeD ρ1 vs)
theorem mono_dcL {m : Nat} {vs : List Nat} {g : TGd} {tt : TB} {tk tv : TO} (mg : MonoG g) (mt : MonoD tt) (mk : MonoD tk) (me : MonoD tv) {K K' : List (Key × D) → DSt → Prop} (k : ∀ a ρ, K a ρ → K' a ρ) : ∀ (xs : List D) (acc : List (Key × D)) (ρ : DSt),
    dDcL m vs g tt tk tv K xs acc ρ → dDcL m vs g tt tk tv K' xs acc ρ
  | [], acc, ρ, h => k acc ρ h
  | x :: xs, acc, ρ, h => mg _ _ _ _ (fun ρ1 h => mt _ _ _ (fun b ρ2 h => by
      cases b with
      | true =>
        rw [if_pos rfl] at h ⊢
        exact mk _ _ _ (fun sk ρ3 h => me _ _ _ (fun sv ρ4 ⟨q, h1, h2, h3⟩ => ⟨q, h1, h2, mono_dcL mg mt mk me k xs _ _ h3⟩) h) h
      | false => rw [if_neg Bool.false_ne_true] at h ⊢; exact mono_dcL mg mt mk me k xs _ _ h) h) h
section
variable {X : Cx} {en : En} {tg iter kx vx : Expr} {ifs : List Expr} {ti : TDs} {g : TGd} {tt : TB} {tk tv : TO} {sl vs : List Nat} {scope : Scope} {own : List (Str × Nat)} {pos spos : Pos} {m : Nat}
theorem dc_loop {σ : St} {H1 : Hp} {F1 : Fz} {fp1 : Nat → List Addr} {ρ1 : DSt} {Q : VK} {J : It} {xs : List D} {KK : List (Key × D) → DSt → Prop} (mg : MonoG g) (mt : MonoD tt) (mk : MonoD tk) (me : MonoD tv) (hsl : ∀ i ∈ sl, i ∈ vs) (hv : ∀ i ∈ vs, i ∉ en.ios)
    (S1 : SI en ρ1 σ H1 F1 fp1) (K : ItOk en J xs F1 H1) (hz : xs.length ≤ sizeLine) (h : dDcL m vs g tt tk tv KK xs [] (wipeD ρ1 vs)) (kk : ∀ acc ρ' v H' F' fp' l, KK acc ρ' → SI en ρ' σ H' F' fp' → Ext F1 H1 F' H' → Tmp en F' H' fp' (m + 1, .dic acc) v l → Q v H') (dd : Addr) (hD : H1 dd = none) :
    ∃ W : Nat → Nat → Hp → Prop, (∃ m, W 0 m (upd H1 dd (.dK []))) ∧ ∀ i m H, W i m H →
      (J.stop i H ∧ Q (.ref dd) H) ∨ (J.go i H ∧ ∃ Nx : Hp → Prop, (∀ H', Nx H' → ∃ m', m' < m ∧ W (i + 1) m' H') ∧ ∀ x H', J.yld i H x H' → anyG en sl g x (wipe σ vs) H' fun σ2 H2 => wipe σ2 vs = wipe σ vs ∧ anyB en tt σ2 H2 fun b H3 =>
        if b = true then anyE en tk σ2 H3 fun y H4 => anyE en tv σ2 H4 fun z H5 => ∃ kvs k, y = kV k ∧ H5 dd = some (.dK kvs) ∧ kvs.length < sizeLine ∧ Nx (upd H5 dd (.dK (putK kvs k z))) else Nx H3) := by
  obtain ⟨d0, dF, df, dF0⟩ := S1.free hD
  have S0 := S1.forget (σ' := wipe σ vs) wipe_setTo hv
  obtain ⟨S00, E00⟩ := S0.newO (o := .dK []) hD
  refine ⟨fun i mm H' => mm = xs.length - i ∧ i ≤ xs.length ∧ ∃ ρ' F' fp' acc vacc L, SI en ρ' (wipe σ vs) H' F' fp' ∧ Ext F1 H1 F' H' ∧ H' dd = some (.dK vacc) ∧ ¬ F' dd ∧ (∀ i, dd ∉ fp' i) ∧ dd ∉ L ∧ L.Nodup ∧
      (∀ a ∈ L, ¬ F' a ∧ H' a ≠ none ∧ en.H0 a = none ∧ ∀ i, a ∉ fp' i) ∧ OwnK (Own F' H' m) acc vacc L ∧ acc.length ≤ i ∧ dDcL m vs g tt tk tv KK (xs.drop i) acc ρ',
    ⟨xs.length, rfl, Nat.zero_le _, wipeD ρ1 vs, F1, fp1, [], [], [], S00, E00, upd_same, dF, df, by simp, List.nodup_nil, fun a z => absurd z (by simp), ⟨rfl, rfl⟩, Nat.zero_le _, h⟩, ?_⟩
  rintro i mm H' ⟨rfl, hi, ρ', F', fp', acc, vacc, L, S', E', hDa, hDF, hDf, hDL, hLn, hL, rA, lA, h'⟩
  by_cases hlt : i < xs.length
  · refine .inr ⟨K.go i H' F' E' hlt, fun H2 => ∃ ρ2 F2 fp2 acc vacc L, SI en ρ2 (wipe σ vs) H2 F2 fp2 ∧ Ext F1 H1 F2 H2 ∧ H2 dd = some (.dK vacc) ∧ ¬ F2 dd ∧ (∀ i, dd ∉ fp2 i) ∧ dd ∉ L ∧ L.Nodup ∧
      (∀ a ∈ L, ¬ F2 a ∧ H2 a ≠ none ∧ en.H0 a = none ∧ ∀ i, a ∉ fp2 i) ∧ OwnK (Own F2 H2 m) acc vacc L ∧ acc.length ≤ i + 1 ∧ dDcL m vs g tt tk tv KK (xs.drop (i + 1)) acc ρ2,
      fun H2 h2 => ⟨xs.length - (i + 1), by omega, rfl, hlt, h2⟩, fun x H2 hy => ?_⟩
    obtain ⟨F2, d, hd, S2, E2, R2, k2, n2⟩ := K.yld i H' F' x H2 E' hlt hy ρ' _ fp' S'
    have ed : xs.drop i = d :: xs.drop (i + 1) := by
      rw [List.drop_eq_getElem_cons hlt]
      congr 1
      rw [List.getElem?_eq_getElem hlt] at hd
      exact Option.some.inj hd
    rw [ed] at h'
    have keep0 : ∀ a, H' a ≠ none → ¬ F' a → (∀ i, a ∉ fp' i) → H2 a = H' a ∧ ¬ F2 a := fun a h1 h2 h3 => by
      cases q : H' a with
      | none => exact absurd q h1
      | some o => exact ⟨k2 a o q, fun z => (n2 a z).elim h2 h1⟩
    have keep : ∀ {ρ4 : DSt} {σ4 : St} {H4 : Hp} {F4 : Fz} {fp4 : Nat → List Addr}, SI (rb en F2 H2 fp') ρ4 σ4 H4 F4 fp4 → ∀ a, H' a ≠ none → ¬ F' a → (∀ i, a ∉ fp' i) → H4 a = H' a ∧ ¬ F4 a ∧ ∀ i, a ∉ fp4 i := fun {ρ4 σ4 H4 F4 fp4} S4 a h1 h2 h3 => by
      obtain ⟨z1, z2⟩ := keep0 a h1 h2 h3
      have hh : H2 a ≠ none := by rw [z1]; exact h1
      refine ⟨?_, fun q => ?_, fun i q => ?_⟩
      · cases q : H2 a with
        | none => exact absurd q hh
        | some o => rw [S4.kp a o q (fun ⟨i, z⟩ => h3 i z) z2, ← z1, q]
      · rcases S4.fr a q with z | z | ⟨j, _, z⟩
        · exact z2 z
        · exact hh z
        · exact h3 j z
      · rcases S4.own i a q with z | ⟨⟨j, z⟩, _⟩
        · exact hh z
        · exact h3 j z
    have hDn : H' dd ≠ none := by rw [hDa]; simp
    refine ⟨rb en F2 H2 fp', rfl, d, ρ', F2, fp', S2.rebase, R2, mg _ _ _ _ (fun ρ3 h3 σ3 fp3 S3 t3 => ?_) h'⟩
    have tv' := t3.wide hsl
    have ew := wipe_set tv'
    have back : SetTo vs σ3 (wipe σ vs) := by rw [← ew]; exact wipe_setTo
    refine ⟨ew, rb en F2 H2 fp', rfl, ρ3, F2, fp3, S3, mt _ _ _ (fun b ρ4 h4 H4 F4 fp4 S4 E4 => ?_) h3⟩
    cases b with
    | true =>
      rw [if_pos rfl] at h4
      refine iteT ?_
      refine ⟨rb en F2 H2 fp', rfl, ρ4, F4, fp4, S4, mk _ _ _ (fun sk ρ5 h5 y H5 F5 fp5 l5 S5 E5 T5 => ?_) h4⟩
      obtain ⟨S5', R5⟩ := T5.freeze S5
      have E5' := E5.trans (Ext.addL F5 H5 l5)
      refine ⟨rb en F2 H2 fp', rfl, ρ5, _, fp5, S5', me _ _ _ (fun sv ρ6 ⟨q, hq, hm, h6⟩ z H6 F6 fp6 l6 S6 E6 T6 => ?_) h5⟩
      have ek := keyD_rep hq (R5.ext E6)
      have E26 : Ext F' H' F6 H6 := ((E2.trans E4).trans E5').trans E6
      have ownA : ∀ {F7 : Fz} (_ : Ext F6 H6 F7 H6), OwnK (Own F7 H6 m) acc vacc L := fun {F7} x7 => rA.imp fun d v l' hl p => p.ext (E26.trans x7) _ _ _ _ fun a ha => (keep S6 a (hL a (hl a ha)).2.1 (hL a (hl a ha)).1 (hL a (hl a ha)).2.2.2).1
      have la : acc.length = vacc.length := by
        have : ∀ {ds : List (Key × D)} {ws : List (Key × V)} {l : List Addr}, OwnK (Own F' H' m) ds ws l → ds.length = ws.length := by
          intro ds
          induction ds with
          | nil => intro ws l h; rw [h.1]; rfl
          | cons d ds ih =>
            intro ws l h
            obtain ⟨v, r, l1, l2, e1, e2, h1, h2⟩ := h
            rw [e1]
            simp [ih h2]
        exact this rA
      rcases hm with hm | ⟨hm, hn⟩
      · -- frozen values
        subst hm
        obtain ⟨S7, R7⟩ := T6.freeze S6
        obtain ⟨k1, k2', k3⟩ := keep S7 dd hDn hDF hDf
        have S8 := (S2.unbase S7).forget back hv
        obtain ⟨S9, E9⟩ := S8.updFree (o := .dK (putK vacc q z)) d0 k2' k3 (by rw [k1]; exact hDn)
        obtain ⟨el, ra⟩ := ownK_zero (ownA (Ext.addL F6 H6 l6))
        refine ⟨vacc, q, ek, by rw [k1]; exact hDa, ?_, _, _, _, putD acc q sv.2, putK vacc q z, [], S9, E'.trans ((E26.trans (Ext.addL F6 H6 l6)).trans E9), upd_same, k2', k3, by simp, List.nodup_nil, fun a z => absurd z (by simp), ownK0 (RepK.ext E9 _ _ (ra.put R7)), ?_, h6⟩
        · rw [← la]; omega
        · have := putD_length acc q sv.2; omega
      · -- owned values, new keys
        obtain ⟨k1, k2', k3⟩ := keep S6 dd hDn hDF hDf
        have T6' := Tmp.under S2 T6
        have S8 := (S2.unbase S6).forget back hv
        obtain ⟨S9, E9⟩ := S8.updFree (o := .dK (putK vacc q z)) d0 k2' k3 (by rw [k1]; exact hDn)
        have hnd : dd ∉ l6 := fun w => by
          have w0 : H2 dd = none := (T6.ok dd w).2.2.1
          rw [(keep0 dd hDn hDF hDf).1] at w0
          exact hDn w0
        have hLd : ∀ a ∈ L, a ∉ l6 := fun a ha w => by
          have w0 : H2 a = none := (T6.ok a w).2.2.1
          rw [(keep0 a (hL a ha).2.1 (hL a ha).1 (hL a ha).2.2.2).1] at w0
          exact (hL a ha).2.1 w0
        have pa : putD acc q sv.2 = acc ++ [(q, sv.2)] := by
          unfold putD
          rw [valD_any, hn]
          rfl
        have pv' : putK vacc q z = vacc ++ [(q, z)] := by
          unfold putK
          rw [← rA.any, valD_any, hn]
          rfl
        have ne9 : ∀ a, a ≠ dd → upd H6 dd (.dK (putK vacc q z)) a = H6 a := fun a ha => upd_ne ha
        refine ⟨vacc, q, ek, by rw [k1]; exact hDa, ?_, _, _, _, putD acc q sv.2, putK vacc q z, L ++ l6, S9, E'.trans (E26.trans E9), upd_same, k2', k3, ?_, ?_, ?_, ?_, ?_, h6⟩
        · rw [← la]; omega
        · intro w
          rcases List.mem_append.mp w with w | w
          · exact hDL w
          · exact hnd w
        · exact List.nodup_append.mpr ⟨hLn, T6.nd, fun a ha b hb e => hLd a ha (e ▸ hb)⟩
        · intro a ha
          rcases List.mem_append.mp ha with ha | ha
          · obtain ⟨q1, q2, q3⟩ := keep S6 a (hL a ha).2.1 (hL a ha).1 (hL a ha).2.2.2
            exact ⟨q2, by rw [ne9 a fun e => hDL (e ▸ ha), q1]; exact (hL a ha).2.1, (hL a ha).2.2.1, q3⟩
          · have t := T6'.ok a ha
            exact ⟨t.1, by rw [ne9 a fun e => hnd (e ▸ ha)]; exact t.2.1, t.2.2.1, t.2.2.2.2⟩
        · have key : OwnK (Own F6 (upd H6 dd (.dK (putK vacc q z))) m) (acc ++ [(q, sv.2)]) (vacc ++ [(q, z)]) (L ++ l6) := by
            refine OwnK.append ((ownA (Ext.refl _ _)).imp fun d v l' hl p => p.ext E9 _ _ _ _ fun a ha => ne9 a fun e => hDL (hl _ (e ▸ ha))) ?_
            refine ⟨z, [], l6, [], rfl, by simp, ?_, rfl, rfl⟩
            have := T6.own
            rw [hm] at this
            exact this.ext E9 _ _ _ _ fun a ha => ne9 a fun e => hnd (e ▸ ha)
          rw [← pa, ← pv'] at key
          exact key
        · have := putD_length acc q sv.2; omega
    | false =>
      rw [if_neg Bool.false_ne_true] at h4
      refine iteF ?_
      obtain ⟨k1, k2', k3⟩ := keep S4 dd hDn hDF hDf
      have E6 : Ext F' H' F4 H4 := E2.trans E4
      refine ⟨_, _, _, acc, vacc, L, (S2.unbase S4).forget back hv, E'.trans E6, by rw [k1]; exact hDa, k2', k3, hDL, hLn, fun a ha => ?_, rA.imp fun d v l' hl p => p.ext E6 _ _ _ _ fun a ha => (keep S4 a (hL a (hl a ha)).2.1 (hL a (hl a ha)).1 (hL a (hl a ha)).2.2.2).1, Nat.le_succ_of_le lA, h4⟩
      obtain ⟨q1, q2, q3⟩ := keep S4 a (hL a ha).2.1 (hL a ha).1 (hL a ha).2.2.2
      exact ⟨q2, by rw [q1]; exact (hL a ha).2.1, (hL a ha).2.2.1, q3⟩
  · have e : i = xs.length := by omega
    subst e
    rw [List.drop_length] at h'
    refine .inl ⟨K.stop _ H' F' E' (Nat.le_refl _), kk acc ρ' (.ref dd) H' F' fp' (dd :: L) h' S'.unwipe E' ⟨⟨dd, vacc, L, rfl, hDa, rA, rfl⟩, List.nodup_cons.mpr ⟨hDL, hLn⟩, fun a ha => ?_⟩⟩
    rcases List.mem_cons.mp ha with e | ha
    · subst e
      exact ⟨hDF, by rw [hDa]; simp, d0, fun z => S1.pH _ z d0, hDf⟩
    · have t := hL a ha
      exact ⟨t.1, t.2.1, t.2.2.1, fun z => S1.pH _ z t.2.2.1, t.2.2.2⟩
theorem dc_read {σ : St} {H : Hp} {Q : VK} (I : MonoD ti) (mg : MonoG g) (mt : MonoD tt) (mk : MonoD tk) (me : MonoD tv) (hsl : ∀ i ∈ sl, i ∈ vs) (hv : ∀ i ∈ vs, i ∉ en.ios)
    (h : lift en (dDc m vs ti g tt tk tv) σ H Q) : tDc (liftI en ti) (anyG en sl g) (anyB en tt) (anyE en tk) (anyE en tv) vs σ H Q := by
  obtain ⟨ρ, F, fp, S, h⟩ := h
  exact ⟨ρ, F, fp, S, I _ _ _ (fun xs ρ1 ⟨hz, h⟩ J H1 F1 fp1 S1 E1 K => dc_loop mg mt mk me hsl hv S1 K hz h fun acc ρ' v H' F' fp' l q S' E' T' => q v H' F' fp' l S' (E1.trans E') T') h⟩
theorem mono_dc (I : MonoD ti) (mg : MonoG g) (mt : MonoD tt) (mk : MonoD tk) (me : MonoD tv) : MonoD (dDc m vs ti g tt tk tv) := fun ρ Q Q' k h => I _ _ _ (fun xs ρ1 ⟨hz, h⟩ => ⟨hz, mono_dcL mg mt mk me (fun a ρ h => k _ _ h) xs [] _ h⟩) h
theorem v_dc (m : Nat) (hc : X.calm = true) (hN : X.N.Nodup) (I : PId X en tg iter ti) (ok : BlkOk X.N X.env.scope scope own) (hsl : ∀ i ∈ sl, i ∈ own.map (·.2)) (hv : ∀ i ∈ own.map (·.2), i ∉ en.ios)
    (hg : ∀ (s : Shared) (H : Hp) (C : Addr) (cl : List (Str × Addr)) (fp : List Addr) (en' : En), en'.ios = en.ios → PGd (X.blk s H scope (compEnvC scope cl C X.env) fp) en' tg sl g)
    (ht : ∀ (s : Shared) (H : Hp) (C : Addr) (cl : List (Str × Addr)) (fp : List Addr) (en' : En), en'.ios = en.ios → PBs (X.blk s H scope (compEnvC scope cl C X.env) fp) en' ifs tt)
    (hk : ∀ (s : Shared) (H : Hp) (C : Addr) (cl : List (Str × Addr)) (fp : List Addr) (en' : En), en'.ios = en.ios → PV (X.blk s H scope (compEnvC scope cl C X.env) fp) en' kx tk)
    (he : ∀ (s : Shared) (H : Hp) (C : Addr) (cl : List (Str × Addr)) (fp : List Addr) (en' : En), en'.ios = en.ios → PV (X.blk s H scope (compEnvC scope cl C X.env) fp) en' vx tv)
    (hs : ∀ x, foldedSetIterable iter X.env x = pure x := by intro _; rfl) : PV X en (.DictComp kx vx [⟨tg, iter, ifs, 0⟩] scope pos) (dDc m (own.map (·.2)) ti g tt tk tv) := by
  have mg : MonoG g := (hg {} (fun _ => none) 0 [] [] en rfl).mono
  have mt : MonoD tt := (ht {} (fun _ => none) 0 [] [] en rfl).mono
  have mk : MonoD tk := (hk {} (fun _ => none) 0 [] [] en rfl).mono
  have me : MonoD tv := (he {} (fun _ => none) 0 [] [] en rfl).mono
  exact ⟨(pe_dc hc hN I.run ok (fun s H C cl fp => pg_any (hg s H C cl fp)) (fun s H C cl fp => pts_any (ht s H C cl fp)) (fun s H C cl fp => pe_any (hk s H C cl fp)) (fun s H C cl fp => pe_any (he s H C cl fp)) hs).imp fun σ H Q h => dc_read I.mono mg mt mk me hsl hv h, mono_dc I.mono mg mt mk me⟩
end
end DL

/-! DLo: walks over dicts (locked for good), enumerate, zip, texts; list, sorted, dict of dicts and of pairs. -/
namespace DL
open PySem PySem.Spec PyProof.Rows L2
variable [LamT]

def kD : Key → D
  | .inl i => .int i
  | .inr x => .str x
theorem rep_kD {F : Fz} {H : Hp} (k : Key) : Rep F H (kD k) (kV k) := by
  cases k <;> exact rfl

/-! ### a dict that an expression answers is locked from here on -/
def tKeep (t : TE) : TE := fun σ H Q => t σ H fun x H1 => ∃ d, x = .ref d ∧ ((∃ o kvs, H1 d = some (.frz o (.dK kvs)) ∧ Q x H1) ∨ ∃ kvs, H1 d = some (.dK kvs) ∧ ∀ o, Q x (upd H1 d (.frz o (.dK kvs))))
theorem pe_keep {X : Cx} {e : Expr} {t : TE} (h : PE X e t) : PE X e (tKeep t) := by
  refine ⟨fun pins s σ H Q I hw => thn (h.run pins s σ H _ I hw) fun v s1 ⟨x, H1, I1, r, d, ex, q⟩ => ?_⟩
  rcases q with ⟨o, kvs, hd, q⟩ | ⟨kvs, hd, q⟩
  · exact ⟨x, H1, I1, r, q⟩
  · obtain ⟨od, I2⟩ := I1.lock hd trivial
    exact ⟨x, _, I2, r, q od⟩
section
variable {en : En} {ρ : DSt} {σ : St} {H : Hp} {F : Fz} {fp : Nat → List Addr}
theorem SI.lockF (S : SI en ρ σ H F fp) {d : Addr} {o : Obj} {ws : List (Key × V)} (f : F d) (h : H d = some (.dK ws)) : SI en ρ σ (upd H d (.frz o (.dK ws))) F fp ∧ Ext F H F (upd H d (.frz o (.dK ws))) := by
  have x : Ext F H F (upd H d (.frz o (.dK ws))) := ⟨fun _ h => h, fun a fa => by
    by_cases e : a = d
    · rw [e, upd_same]; exact .inr (.inl ⟨o, ws, h, rfl⟩)
    · rw [upd_ne e]; exact .inl rfl, fun p hp t => t.lock (fun _ z => z) fun a o' fa e n => by
    rw [upd_ne (show a ≠ d from fun z => by rw [z, h] at e; cases e; exact n ws rfl)]
    exact e⟩
  refine ⟨S.go x (fun i a ha => ⟨upd_ne fun e => S.nF i a ha (e ▸ f), S.nF i a ha⟩) (fun _ h => .inl h) (fun a h => (x.kp a h).some (S.tr a h)) (fun a o' e n => ?_) S.pinF, x⟩
  have ne : a ≠ d := fun z => n (by rw [z]; exact f)
  rw [upd_ne ne]
  exact e
end

/-! ### what is walked -/
def keysD (kvs : List (Key × D)) : List D := kvs.map fun kv => kD kv.1
def pairsD (kvs : List (Key × D)) : List D := kvs.map fun kv => .tup [kD kv.1, kv.2]
def valsD (kvs : List (Key × D)) : List D := kvs.map fun kv => kv.2
theorem RepK.get {F : Fz} {H : Hp} : ∀ {ds : List (Key × D)} {vs : List (Key × V)} {i : Nat} {k : Key} {d : D}, RepK F H ds vs → ds[i]? = some (k, d) → ∃ v, vs[i]? = some (k, v) ∧ Rep F H d v
  | [], _, _, _, _, _, e => by simp at e
  | (k1, d1) :: ds, _, i, k, d', h, e => by
    obtain ⟨⟨k2, v⟩, r, ev, h1, h2⟩ := h
    have hh : k2 = k1 ∧ Rep F H d1 v := h1
    obtain ⟨e1, h3⟩ := hh
    subst ev
    subst e1
    cases i with
    | zero =>
      simp at e
      obtain ⟨e1, e2⟩ := e
      subst e1 e2
      exact ⟨v, rfl, h3⟩
    | succ i => exact RepK.get (i := i) h2 (by simpa using e)
section
variable {en : En} {F₁ : Fz} {H₁ : Hp} {d : Addr} {o : Obj} {ws : List (Key × V)} {kvs : List (Key × D)}
theorem it_keys (f : F₁ d) (h : H₁ d = some (.frz o (.dK ws))) (r : RepK F₁ H₁ kvs ws) : ItOk en (Itk d o ws) (keysD kvs) F₁ H₁ where
  go := fun i H F x hi => ⟨(x.kp d f).keep h (fun _ z => nomatch z), by rw [← r.len]; simpa [keysD] using hi⟩
  stop := fun i H F x hi => ⟨(x.kp d f).keep h (fun _ z => nomatch z), by rw [← r.len]; simpa [keysD] using hi⟩
  yld := fun i H F x H' ex hi hy ρ σ fp S => by
    obtain ⟨e, k, v, hk, ev⟩ := hy
    subst e
    have hi' : i < kvs.length := by simpa [keysD] using hi
    obtain ⟨⟨k0, d0⟩, hd⟩ : ∃ p, kvs[i]? = some p := ⟨kvs[i], List.getElem?_eq_getElem hi'⟩
    obtain ⟨v', h1, h2⟩ := r.get hd
    rw [hk] at h1
    cases h1
    exact ⟨F, kD k, by simp [keysD, hd], S, Ext.refl _ _, ev ▸ rep_kD k, fun _ _ h => h, fun _ h => .inl h⟩
theorem it_vals (f : F₁ d) (h : H₁ d = some (.frz o (.dK ws))) (r : RepK F₁ H₁ kvs ws) : ItOk en (Itd d o ws) (valsD kvs) F₁ H₁ where
  go := fun i H F x hi => ⟨(x.kp d f).keep h (fun _ z => nomatch z), by rw [← r.len]; simpa [valsD] using hi⟩
  stop := fun i H F x hi => ⟨(x.kp d f).keep h (fun _ z => nomatch z), by rw [← r.len]; simpa [valsD] using hi⟩
  yld := fun i H F x H' ex hi hy ρ σ fp S => by
    obtain ⟨e, k, hk⟩ := hy
    subst e
    have hi' : i < kvs.length := by simpa [valsD] using hi
    obtain ⟨⟨k0, d0⟩, hd⟩ : ∃ p, kvs[i]? = some p := ⟨kvs[i], List.getElem?_eq_getElem hi'⟩
    obtain ⟨v', h1, h2⟩ := r.get hd
    rw [hk] at h1
    cases h1
    exact ⟨F, d0, by simp [valsD, hd], S, Ext.refl _ _, h2.ext ex, fun _ _ h => h, fun _ h => .inl h⟩
theorem it_items (f : F₁ d) (h : H₁ d = some (.frz o (.dK ws))) (r : RepK F₁ H₁ kvs ws) : ItOk en (Iti d o ws) (pairsD kvs) F₁ H₁ where
  go := fun i H F x hi => ⟨(x.kp d f).keep h (fun _ z => nomatch z), by rw [← r.len]; simpa [pairsD] using hi⟩
  stop := fun i H F x hi => ⟨(x.kp d f).keep h (fun _ z => nomatch z), by rw [← r.len]; simpa [pairsD] using hi⟩
  yld := fun i H F x H' ex hi hy ρ σ fp S => by
    obtain ⟨T, k, v, hk, ev, hT, e⟩ := hy
    subst e ev
    have hi' : i < kvs.length := by simpa [pairsD] using hi
    obtain ⟨⟨k0, d0⟩, hd⟩ : ∃ p, kvs[i]? = some p := ⟨kvs[i], List.getElem?_eq_getElem hi'⟩
    obtain ⟨v', h1, h2⟩ := r.get hd
    rw [hk] at h1
    cases h1
    have E2 : Ext F H (addF F T) (upd H T (.tup [kV k, v])) := Ext.new (S.free hT).2.1
    exact ⟨addF F T, .tup [kD k, d0], by simp [pairsD, hd], S.new hT, E2, ⟨T, _, rfl, .inr rfl, upd_same, kV k, [v], rfl, rep_kD k, v, [], rfl, h2.ext (ex.trans E2), rfl⟩, fun a o' e => by rw [upd_ne (ne_of_none e hT)]; exact e,
      fun a h => h.elim .inl fun z => .inr (z ▸ hT)⟩
end
def dWalk (w : List (Key × D) → List D) (te : TO) : TDs := fun ρ Q => te ρ fun s ρ1 => ∃ kvs, s.2 = .dic kvs ∧ Q (w kvs) ρ1
section
variable {X : Cx} {en : En} {tg e : Expr} {te : TO} {apos cpos : Pos}
/-- the core of the walks over a dict -/
theorem walk_core {σ : St} {H : Hp} {w : List (Key × D) → List D} {J : Addr → Obj → List (Key × V) → It} {R : It → Hp → Prop} (hJ : ∀ {F₁ : Fz} {H₁ : Hp} {d : Addr} {o : Obj} {ws : List (Key × V)} {kvs : List (Key × D)}, F₁ d → H₁ d = some (.frz o (.dK ws)) → RepK F₁ H₁ kvs ws → ItOk en (J d o ws) (w kvs) F₁ H₁)
    (E : MonoD te) (h : liftI en (dWalk w te) σ H R) : tKeep (lift en te) σ H fun x H1 => ∃ d o ws, x = .ref d ∧ H1 d = some (.frz o (.dK ws)) ∧ R (J d o ws) H1 := by
  obtain ⟨ρ, F, fp, S, h⟩ := h
  refine ⟨ρ, F, fp, S, E _ _ _ (fun s ρ1 ⟨kvs, h1, h2⟩ v H1 F1 fp1 l S1 E1 T1 => ?_) h⟩
  obtain ⟨S1', R1⟩ := T1.freeze S1
  have E1' := E1.trans (Ext.addL F1 H1 l)
  rw [h1] at R1
  obtain ⟨d, ws, ev, f, ha, r⟩ := R1
  subst ev
  refine ⟨d, rfl, ?_⟩
  rcases ha with ha | ⟨o, ha⟩
  · refine .inr ⟨ws, ha, fun o => ?_⟩
    obtain ⟨S2, E2⟩ := S1'.lockF (o := o) f ha
    exact ⟨d, o, ws, rfl, upd_same, h2 _ _ _ fp1 S2 (E1'.trans E2) (hJ f upd_same (RepK.ext E2 _ _ r))⟩
  · exact .inl ⟨o, ws, ha, d, o, ws, rfl, ha, h2 _ H1 _ fp1 S1' E1' (hJ f ha r)⟩
theorem mono_walk {w : List (Key × D) → List D} (E : MonoD te) : MonoD (dWalk w te) := fun ρ Q Q' k h => E _ _ _ (fun s ρ1 ⟨kvs, h1, h2⟩ => ⟨kvs, h1, k _ _ h2⟩) h
/-- for k in d -/
theorem i_keys (E : PV X en e te) : PId X en tg e (dWalk keysD te) := by
  refine ⟨(pi_keys (pe_keep E.run)).imp fun σ H R h => ?_, mono_walk E.mono⟩
  have q := walk_core (fun f h r => it_keys f h r) E.mono h
  obtain ⟨ρ, F, fp, S, q⟩ := q
  refine ⟨ρ, F, fp, S, E.mono _ _ _ (fun s ρ1 q v H1 F1 fp1 l S1 E1 T1 => ?_) q⟩
  obtain ⟨d, ev, q⟩ := q v H1 F1 fp1 l S1 E1 T1
  refine ⟨d, ev, ?_⟩
  rcases q with ⟨o, kvs, hd, d', o', ws, ev', h1, h2⟩ | ⟨kvs, hd, q⟩
  · exact .inl ⟨o, kvs, hd, d', o', ev', .inl ⟨ws, h1, h2⟩⟩
  · refine .inr ⟨kvs, hd, fun o => ?_⟩
    obtain ⟨d', o', ws, ev', h1, h2⟩ := q o
    exact ⟨d', o', ev', .inl ⟨ws, h1, h2⟩⟩
/-- for k in d.keys() -/
theorem i_keysM (E : PV X en e te) (hbase : attributeBase e "keys" X.env (eval e X.env) = eval e X.env := by rfl) (hline : (apos.endLine == cpos.line) = true := by rfl) : PId X en tg (.Call (.Attribute e "keys" apos) [] [] cpos) (dWalk keysD te) :=
  ⟨(pi_keysM (pe_keep E.run) hbase hline).imp fun σ H R h => walk_core (fun f h r => it_keys f h r) E.mono h, mono_walk E.mono⟩
/-- for v in d.values() -/
theorem i_values (E : PV X en e te) (hbase : attributeBase e "values" X.env (eval e X.env) = eval e X.env := by rfl) (hline : (apos.endLine == cpos.line) = true := by rfl) : PId X en tg (.Call (.Attribute e "values" apos) [] [] cpos) (dWalk valsD te) :=
  ⟨(pi_values (pe_keep E.run) hbase hline).imp fun σ H R h => walk_core (fun f h r => it_vals f h r) E.mono h, mono_walk E.mono⟩
/-- for k, v in d.items() -/
theorem i_items {elts : List Expr} {kk : Nat} {tpos : Pos} (E : PV X en e te) (hbase : attributeBase e "items" X.env (eval e X.env) = eval e X.env := by rfl) (hline : (apos.endLine == cpos.line) = true := by rfl) :
    PId X en (.Tuple elts kk tpos) (.Call (.Attribute e "items" apos) [] [] cpos) (dWalk pairsD te) :=
  ⟨(pi_items (pe_keep E.run) hbase hline).imp fun σ H R h => walk_core (fun f h r => it_items f h r) E.mono h, mono_walk E.mono⟩

/-! ### enumerate, zip, a text -/
def enumD : Nat → List D → List D
  | _, [] => []
  | i, x :: xs => .tup [.int (i : Nat), x] :: enumD (i + 1) xs
theorem enumD_len : ∀ (i : Nat) (xs : List D), (enumD i xs).length = xs.length
  | _, [] => rfl
  | i, x :: xs => by show (enumD (i + 1) xs).length + 1 = _; rw [enumD_len]; rfl
theorem enumD_get : ∀ (k : Nat) (xs : List D) (i : Nat) (d : D), xs[i]? = some d → (enumD k xs)[i]? = some (.tup [.int ((k + i : Nat) : Int), d])
  | _, [], _, _, e => by simp at e
  | k, x :: xs, 0, d, e => by
    simp at e
    subst e
    rfl
  | k, x :: xs, i + 1, d, e => by
    have := enumD_get (k + 1) xs i d (by simpa using e)
    show (enumD (k + 1) xs)[i]? = _
    rw [this]
    have : k + 1 + i = k + (i + 1) := by omega
    rw [this]
def zipD : List D → List D → List D := fun xs ys => (xs.zip ys).map fun p => .tup [p.1, p.2]
def dEnum (ta : TDs) : TDs := fun ρ Q => ta ρ fun ds ρ1 => ∃ xs, ds = [.lst xs] ∧ Q (enumD 0 xs) ρ1
def dZip (ta : TDs) : TDs := fun ρ Q => ta ρ fun ds ρ1 => ∃ xs ys, ds = [.lst xs, .lst ys] ∧ Q (zipD xs ys) ρ1
def strD (x : Str) : List D := x.cps.toList.map fun c => .str ⟨#[c]⟩
def dStrI (te : TO) : TDs := fun ρ Q => te ρ fun s ρ1 => ∃ x, s.2 = .str x ∧ Q (strD x) ρ1
theorem it_enum {K : PySem.W.Frag} {F₁ : Fz} {H₁ : Hp} {a : Addr} {vs : List V} {ds : List D} (f : F₁ a) (h : H₁ a = some (.lst vs)) (r : RepL F₁ H₁ ds vs) : ItOk en (Ite K a) (enumD 0 ds) F₁ H₁ where
  go := fun i H F x hi => by
    rw [enumD_len] at hi
    exact ⟨vs, vs[i]'(by rw [← r.len]; exact hi), SqL.of ((x.kp a f).keep h (fun _ z => nomatch z)), List.getElem?_eq_getElem _⟩
  stop := fun i H F x hi => by
    rw [enumD_len] at hi
    exact ⟨vs, SqL.of ((x.kp a f).keep h (fun _ z => nomatch z)), by rw [← r.len]; exact hi⟩
  yld := fun i H F v H' ex hi hy ρ σ fp S => by
    rw [enumD_len] at hi
    obtain ⟨T, x, ev, hT, e, hy⟩ := hy
    subst e ev
    have hx := hy vs (SqL.of ((ex.kp a f).keep h (fun _ z => nomatch z)))
    obtain ⟨d, hd⟩ : ∃ d, ds[i]? = some d := ⟨ds[i], List.getElem?_eq_getElem hi⟩
    obtain ⟨v, h1, h2⟩ := r.get hd
    rw [hx] at h1
    cases h1
    have E2 : Ext F H (addF F T) (upd H T (.tup [.int (i : Nat), x])) := Ext.new (S.free hT).2.1
    have eg := enumD_get 0 ds i d hd
    rw [Nat.zero_add] at eg
    exact ⟨addF F T, _, eg, S.new hT, E2, ⟨T, _, rfl, .inr rfl, upd_same, .int (i : Nat), [x], rfl, rfl, x, [], rfl, h2.ext (ex.trans E2), rfl⟩, fun a o' e => by rw [upd_ne (ne_of_none e hT)]; exact e,
      fun a h => h.elim .inl fun z => .inr (z ▸ hT)⟩
theorem it_zip {K : PySem.W.Frag} {F₁ : Fz} {H₁ : Hp} {a b : Addr} {vs us : List V} {ds es : List D} (f : F₁ a) (h : H₁ a = some (.lst vs)) (r : RepL F₁ H₁ ds vs) (f' : F₁ b) (h' : H₁ b = some (.lst us)) (r' : RepL F₁ H₁ es us) : ItOk en (Itz K a b) (zipD ds es) F₁ H₁ where
  go := fun i H F x hi => by
    have hi' : i < ds.length ∧ i < es.length := by simpa [zipD, Nat.lt_min] using hi
    exact ⟨vs, us, vs[i]'(by rw [← r.len]; exact hi'.1), us[i]'(by rw [← r'.len]; exact hi'.2), SqL.of ((x.kp a f).keep h (fun _ z => nomatch z)), SqL.of ((x.kp b f').keep h' (fun _ z => nomatch z)), List.getElem?_eq_getElem _, List.getElem?_eq_getElem _⟩
  stop := fun i H F x hi => by
    have hi' : ds.length ≤ i ∨ es.length ≤ i := by
      have : min ds.length es.length ≤ i := by simpa [zipD] using hi
      omega
    refine ⟨vs, us, SqL.of ((x.kp a f).keep h (fun _ z => nomatch z)), SqL.of ((x.kp b f').keep h' (fun _ z => nomatch z)), ?_⟩
    rw [← r.len, ← r'.len]
    exact hi'
  yld := fun i H F v H' ex hi hy ρ σ fp S => by
    have hi' : i < ds.length ∧ i < es.length := by simpa [zipD, Nat.lt_min] using hi
    obtain ⟨T, x, y, ev, hT, e, hx, hy⟩ := hy
    subst e ev
    have hx := hx vs (SqL.of ((ex.kp a f).keep h (fun _ z => nomatch z)))
    have hy := hy us (SqL.of ((ex.kp b f').keep h' (fun _ z => nomatch z)))
    obtain ⟨d, hd⟩ : ∃ d, ds[i]? = some d := ⟨ds[i], List.getElem?_eq_getElem hi'.1⟩
    obtain ⟨d', hd'⟩ : ∃ d, es[i]? = some d := ⟨es[i], List.getElem?_eq_getElem hi'.2⟩
    obtain ⟨v, h1, h2⟩ := r.get hd
    obtain ⟨v', h3, h4⟩ := r'.get hd'
    rw [hx] at h1
    cases h1
    rw [hy] at h3
    cases h3
    have E2 : Ext F H (addF F T) (upd H T (.tup [x, y])) := Ext.new (S.free hT).2.1
    have eg : (zipD ds es)[i]? = some (.tup [d, d']) := by
      unfold zipD
      rw [List.getElem?_map, List.getElem?_zip_eq_some (z := (d, d')) |>.mpr ⟨hd, hd'⟩]
      rfl
    exact ⟨addF F T, _, eg, S.new hT, E2, ⟨T, _, rfl, .inr rfl, upd_same, x, [y], rfl, h2.ext (ex.trans E2), y, [], rfl, h4.ext (ex.trans E2), rfl⟩, fun a o' e => by rw [upd_ne (ne_of_none e hT)]; exact e,
      fun a h => h.elim .inl fun z => .inr (z ▸ hT)⟩
theorem it_str {F₁ : Fz} {H₁ : Hp} {x : Str} : ItOk en (Its x) (strD x) F₁ H₁ where
  go := fun i H F _ hi => by
    show i < x.cps.size
    simpa [strD] using hi
  stop := fun i H F _ hi => by
    show x.cps.size ≤ i
    simpa [strD] using hi
  yld := fun i H F v H' ex hi hy ρ σ fp S => by
    obtain ⟨e, c, hc, ev⟩ := hy
    subst e ev
    have hc' : x.cps.toList[i]? = some c := by rw [Array.getElem?_toList]; exact hc
    exact ⟨F, .str ⟨#[c]⟩, by simp [strD, hc], S, Ext.refl _ _, rfl, fun _ _ h => h, fun _ h => .inl h⟩
theorem i_str (E : PV X en e te) : PId X en tg e (dStrI te) := by
  refine ⟨(pi_str E.run).imp fun σ H R h => ?_, fun ρ Q Q' k h => E.mono _ _ _ (fun s ρ1 ⟨x, h1, h2⟩ => ⟨x, h1, k _ _ h2⟩) h⟩
  obtain ⟨ρ, F, fp, S, h⟩ := h
  refine ⟨ρ, F, fp, S, E.mono _ _ _ (fun s ρ1 ⟨x, h1, h2⟩ v H1 F1 fp1 l S1 E1 T1 => ?_) h⟩
  obtain ⟨S1', R1⟩ := T1.freeze S1
  rw [h1] at R1
  exact ⟨x, R1, h2 _ H1 _ fp1 S1' (E1.trans (Ext.addL F1 H1 l)) it_str⟩
theorem i_enum {a : Expr} {ta : TDs} {p pos tpos : Pos} {elts : List Expr} {kk : Nat} (A : PVs X en [a] ta) (hm : X.mg "enumerate" = none) (hg : Gl X "enumerate" := by rfl) (hs : starEach [a] X.env = [(false, eval a X.env)] := by rfl) :
    PId X en (.Tuple elts kk tpos) (.Call (.Name "enumerate" p) [a] [] pos) (dEnum ta) := by
  refine ⟨(pi_enum hg hm A.run hs).imp fun σ H R h => ?_, fun ρ Q Q' k h => A.mono _ _ _ (fun ds ρ1 ⟨xs, h1, h2⟩ => ⟨xs, h1, k _ _ h2⟩) h⟩
  obtain ⟨ρ, F, fp, S, h⟩ := h
  refine ⟨ρ, F, fp, S, A.mono _ _ _ (fun ds ρ1 ⟨xs, h1, h2⟩ vs H1 F1 fp1 S1 E1 R1 => ?_) h⟩
  subst h1
  obtain ⟨v, ev, a, ws, ea, f, ha, r⟩ := repl_one R1
  exact ⟨a, ws, by rw [ev, ea], SqL.of ha, h2 _ H1 F1 fp1 S1 E1 (it_enum f ha r)⟩
theorem i_zip {a b : Expr} {ta : TDs} {p pos tpos : Pos} {elts : List Expr} {kk : Nat} (A : PVs X en [a, b] ta) (hm : X.mg "zip" = none) (hg : Gl X "zip" := by rfl) (hs : starEach [a, b] X.env = (false, eval a X.env) :: starEach [b] X.env := by rfl) (hpl : (backTo pos (starEach [b] X.env)).any (·.1) = false := by rfl) :
    PId X en (.Tuple elts kk tpos) (.Call (.Name "zip" p) [a, b] [] pos) (dZip ta) := by
  refine ⟨(pi_zip hg hm A.run hs hpl).imp fun σ H R h => ?_, fun ρ Q Q' k h => A.mono _ _ _ (fun ds ρ1 ⟨xs, ys, h1, h2⟩ => ⟨xs, ys, h1, k _ _ h2⟩) h⟩
  obtain ⟨ρ, F, fp, S, h⟩ := h
  refine ⟨ρ, F, fp, S, A.mono _ _ _ (fun ds ρ1 ⟨xs, ys, h1, h2⟩ vs H1 F1 fp1 S1 E1 R1 => ?_) h⟩
  subst h1
  obtain ⟨v, r, ev, ⟨a, ws, ea, f, ha, rl⟩, R2⟩ := R1
  obtain ⟨v2, ev2, b, us, eb, f', hb, rl'⟩ := repl_one R2
  exact ⟨a, b, ws, us, by rw [ev, ev2, ea, eb], SqL.of ha, SqL.of hb, h2 _ H1 F1 fp1 S1 E1 (it_zip f ha rl f' hb rl')⟩
end
end DL

/-! DLp: list, sorted, dict of dicts; isinstance, chains, is of bools; {k: v}; names of the program and built-in ones; found[k].append(x). -/
namespace DL
open PySem PySem.Spec PyProof.Rows L2
variable [LamT]

/-! ### list(d), sorted(d), dict(d), dict(pairs) -/
def wListDic : WL := fun ds k => ∃ kvs, ds = [.dic kvs] ∧ k (1, .lst (keysD kvs))
theorem mono_listDic : MonoL wListDic := fun _ _ _ f ⟨d, h1, h3⟩ => ⟨d, h1, f _ h3⟩
theorem repL_keys {F : Fz} {H : Hp} : ∀ {ds : List (Key × D)} {vs : List (Key × V)}, RepK F H ds vs → RepL F H (keysD ds) (vs.map fun kv => kV kv.1)
  | [], _, h => by
    have h : _ = [] := h
    subst h
    rfl
  | (k, d) :: ds, _, h => by
    obtain ⟨⟨k2, v⟩, r, e, h1, h2⟩ := h
    have hh : k2 = k ∧ Rep F H d v := h1
    subst e
    obtain ⟨e1, _⟩ := hh
    subst e1
    exact ⟨kV k2, _, rfl, rep_kD k2, repL_keys h2⟩
theorem fits_listDic : FitsL (fun xs H Q => ∃ (a : Addr) (kvs : List (Key × V)), xs = [.ref a] ∧ Rd H a (.dK kvs) ∧ ∀ p, H p = none → Q (.ref p) (upd H p (.lst (kvs.map fun kv => kV kv.1)))) wListDic := fun xs vs F H Q k tr r ⟨kvs, e, hk⟩ q => by
  subst e
  obtain ⟨v, ev, a, ws, ea, f, ha, rl⟩ := repl_one r
  exact ⟨a, ws, by rw [ev, ea], ha, fun p hp => q _ _ _ _ _ hk (ans_lst tr hp (repL_keys rl))⟩
def wDictDic : WL := fun ds k => ∃ kvs, ds = [.dic kvs] ∧ k (1, .dic kvs)
theorem mono_dictDic : MonoL wDictDic := fun _ _ _ f ⟨d, h1, h3⟩ => ⟨d, h1, f _ h3⟩
theorem fits_dictDic : FitsL (fun xs H Q => ∃ (a : Addr) (kvs : List (Key × V)), xs = [.ref a] ∧ Rd H a (.dK kvs) ∧ ∀ p, H p = none → Q (.ref p) (upd H p (.dK kvs))) wDictDic := fun xs vs F H Q k tr r ⟨kvs, e, hk⟩ q => by
  subst e
  obtain ⟨v, ev, a, ws, ea, f, ha, rl⟩ := repl_one r
  exact ⟨a, ws, by rw [ev, ea], ha, fun p hp => q _ _ _ _ _ hk (ans_dic tr hp rl)⟩
def wSortDic : WL := fun ds k => ∃ (kvs : List (Key × D)) (ks : List Str), ds = [.dic kvs] ∧ kvs.map (·.1) = ks.map Sum.inr ∧ ks.length < 64 ∧ ∀ ys : List Str, ys.Perm ks → sortedS ys = true → k (1, .lst (ys.map D.str))
theorem mono_sortDic : MonoL wSortDic := fun _ _ _ f ⟨d, ks, h1, h2, h3, h4⟩ => ⟨d, ks, h1, h2, h3, fun ys a b => f _ (h4 ys a b)⟩
theorem RepK.keys {F : Fz} {H : Hp} : ∀ {ds : List (Key × D)} {vs : List (Key × V)}, RepK F H ds vs → vs.map (·.1) = ds.map (·.1)
  | [], _, h => by
    have h : _ = [] := h
    subst h
    rfl
  | (k, d) :: ds, _, h => by
    obtain ⟨⟨k2, v⟩, r, e, h1, h2⟩ := h
    have hh : k2 = k ∧ Rep F H d v := h1
    subst e
    simp only [List.map_cons, RepK.keys h2, hh.1]
theorem repL_strs {F : Fz} {H : Hp} : ∀ (xs : List Str), RepL F H (xs.map D.str) (xs.map V.str)
  | [] => rfl
  | x :: xs => ⟨.str x, _, rfl, rfl, repL_strs xs⟩
theorem fits_sortDic : FitsL (fun xs H Q => ∃ (a : Addr) (kvs : List (Key × V)) (ks : List Str), xs = [.ref a] ∧ Rd H a (.dK kvs) ∧ kvs.map (·.1) = ks.map Sum.inr ∧ ks.length < 64 ∧
    ∀ ys p, ys.Perm ks → sortedS ys = true → H p = none → Q (.ref p) (upd H p (.lst (ys.map V.str)))) wSortDic := fun xs vs F H Q k tr r ⟨kvs, ks, e, h1, h2, hk⟩ q => by
  subst e
  obtain ⟨v, ev, a, ws, ea, f, ha, rl⟩ := repl_one r
  exact ⟨a, ws, ks, by rw [ev, ea], ha, rl.keys.trans h1, h2, fun ys p h3 h4 hp => q _ _ _ _ _ (hk ys h3 h4) (ans_lst tr hp (repL_strs ys))⟩
def mergeD (kvs more : List (Key × D)) : List (Key × D) := more.foldl (fun acc kv => putD acc kv.1 kv.2) kvs
theorem RepK.merge {F : Fz} {H : Hp} : ∀ {more : List (Key × D)} {ms : List (Key × V)} {kvs : List (Key × D)} {ws : List (Key × V)}, RepK F H more ms → RepK F H kvs ws → RepK F H (mergeD kvs more) (mergeK ws ms)
  | [], _, _, _, h, h' => by
    have h : _ = [] := h
    subst h
    exact h'
  | (k, d) :: more, _, _, _, h, h' => by
    obtain ⟨⟨k2, v⟩, r, e, h1, h2⟩ := h
    have hh : k2 = k ∧ Rep F H d v := h1
    subst e
    obtain ⟨e1, rd⟩ := hh
    subst e1
    have q := RepK.merge (more := more) h2 (h'.put (k := k2) rd)
    exact q
def wDictP : WL := fun ds k => ∃ kvs, ds = [.lst (pairsD kvs)] ∧ k (1, .dic (mergeD [] kvs))
theorem mono_dictP : MonoL wDictP := fun _ _ _ f ⟨d, h1, h3⟩ => ⟨d, h1, f _ h3⟩
theorem repl_pairs {K : PySem.W.Frag} {F : Fz} {H : Hp} : ∀ {kvs : List (Key × D)} {vs : List V}, RepL F H (pairsD kvs) vs → ∃ (ps : List Addr) (ws : List (Key × V)), vs = ps.map V.ref ∧ RepK F H kvs ws ∧ Paired (fun p kv => SqT K H p [kV kv.1, kv.2]) ps ws
  | [], _, h => by
    have h : _ = [] := h
    exact ⟨[], [], h, rfl, .nil⟩
  | (k, d) :: kvs, _, h => by
    obtain ⟨v, r, e, ⟨a, us, ea, f, ha, hr⟩, h2⟩ := h
    obtain ⟨x, r1, e1, h3, h4⟩ := hr
    obtain ⟨y, ey, h5⟩ := repl_one h4
    obtain ⟨ps, ws, e2, h6, h7⟩ := repl_pairs (K := K) h2
    have ex : x = kV k := by
      cases k <;> exact h3
    refine ⟨a :: ps, (k, y) :: ws, by rw [e, ea, e2]; rfl, ⟨(k, y), ws, rfl, ⟨rfl, h5⟩, h6⟩, .cons (SqT.of ?_) h7⟩
    rw [ha, e1, ex, ey]
theorem fits_dictP {K : PySem.W.Frag} : FitsL (fun xs H Q => ∃ (a : Addr) (ps : List Addr) (kvs : List (Key × V)), xs = [.ref a] ∧ SqL K H a (ps.map V.ref) ∧ Paired (fun p kv => SqT K H p [kV kv.1, kv.2]) ps kvs ∧
    ∀ p, H p = none → Q (.ref p) (upd H p (.dK (mergeK [] kvs)))) wDictP := fun xs vs F H Q k tr r ⟨kvs, e, hk⟩ q => by
  subst e
  obtain ⟨v, ev, a, us, ea, f, ha, rl⟩ := repl_one r
  obtain ⟨ps, ws, e2, h6, h7⟩ := repl_pairs (K := K) rl
  exact ⟨a, ps, ws, by rw [ev, ea], e2 ▸ SqL.of ha, h7, fun p hp => q _ _ _ _ _ hk (ans_dic tr hp (h6.merge (kvs := []) rfl))⟩

/-! ### isinstance -/
def tyD : D → Option String
  | .non => some "NoneType"
  | .bl _ => some "bool"
  | .int _ => some "int"
  | .str _ => some "str"
  | .lst _ => some "list"
  | .tup _ => some "tuple"
  | .dic _ => some "dict"
  | .tag _ (.lst _) => some "list"
  | .tag _ (.dic _) => some "dict"
  | _ => none
def tysB : List String := ["list", "tuple", "dict", "int", "bool", "str"]
def isTy (a b : String) : Bool := a == b || (a == "bool" && b == "int")
theorem tyD_mem {d : D} {a : String} (h : tyD d = some a) : a ∈ ["NoneType", "bool", "int", "str", "list", "tuple", "dict"] := by
  cases d with
  | tag w d => cases d <;> cases h <;> simp
  | _ => cases h <;> simp
theorem kitB_ok : ∀ a ∈ ["NoneType", "bool", "int", "str", "list", "tuple", "dict"], ∀ b ∈ tysB, kitB a b = some (isTy a b) := by decide +kernel
theorem rep_ty {K : PySem.W.Frag} {F : Fz} {H : Hp} {d : D} {v : V} {a : String} (r : Rep F H d v) (h : tyD d = some a) : TyX K H v (.type a) := by
  cases d with
  | non => cases h; have r : v = .non := r; subst r; exact .base .non
  | bl b => cases h; have r : v = .bl b := r; subst r; exact .base (.bl b)
  | int b => cases h; have r : v = .int b := r; subst r; exact .base (.int b)
  | str b => cases h; have r : v = .str b := r; subst r; exact .base (.str b)
  | lst xs => cases h; obtain ⟨a, vs, e, f, ha, _⟩ := r; subst e; exact .base (.lst ha)
  | tup xs => cases h; obtain ⟨a, vs, e, f, ha, _⟩ := r; subst e; exact .base (.tup ha)
  | dic xs =>
    cases h
    obtain ⟨a, vs, e, f, ha, _⟩ := r
    subst e
    rcases ha with ha | ⟨o, ha⟩
    · exact .base (.dK ha)
    · exact .fDict ha
  | tag w d =>
    cases d with
    | lst xs => cases h; obtain ⟨_, a, vs, e, f, ha, _⟩ := r; subst e; exact .base (.lst ha)
    | dic xs =>
      cases h
      obtain ⟨_, a, vs, e, f, ha, _⟩ := r
      subst e
      rcases ha with ha | ⟨o, ha⟩
      · exact .base (.dK ha)
      · exact .fDict ha
    | _ => exact nomatch h
  | _ => exact nomatch h
def wIsi : WL := fun ds k => ∃ d b a, ds = [d, .opq (.ty b)] ∧ b ∈ tysB ∧ tyD d = some a ∧ k (0, .bl (isTy a b))
theorem mono_isi : MonoL wIsi := fun _ _ _ f ⟨d, b, a, h1, h2, h3, h4⟩ => ⟨d, b, a, h1, h2, h3, f _ h4⟩
theorem fits_isi {K : PySem.W.Frag} : FitsL (rIsi K) wIsi := fun xs vs F H Q k tr r ⟨d, b, a, e, hb, ha, hk⟩ q => by
  subst e
  obtain ⟨v, v', ev, r1, r2⟩ := repl_two r
  have r2 : v' = .ty b := r2
  subst ev r2
  exact ⟨v, .ty b, .type a, .type b, isTy a b, rfl, .ty b, rep_ty r1 ha, kit_ty (kitB_ok a (tyD_mem ha) b hb), q _ _ _ _ _ hk (.same rfl)⟩
def wIsiT : WL := fun ds k => ∃ (d : D) (bs : List String) (a : String), ds = [d, .tup (bs.map fun b => .opq (.ty b))] ∧ (∀ b ∈ bs, b ∈ tysB) ∧ tyD d = some a ∧ k (0, .bl (bs.any fun b => isTy a b))
theorem mono_isiT : MonoL wIsiT := fun _ _ _ f ⟨d, b, a, h1, h2, h3, h4⟩ => ⟨d, b, a, h1, h2, h3, f _ h4⟩
theorem repl_tys {F : Fz} {H : Hp} : ∀ {bs : List String} {vs : List V}, RepL F H (bs.map fun b => D.opq (.ty b)) vs → vs = bs.map V.ty
  | [], _, h => h
  | b :: bs, _, h => by
    obtain ⟨v, r, e, h1, h2⟩ := h
    have h1 : v = .ty b := h1
    rw [e, h1, repl_tys h2]
    rfl
theorem clsV_all : ∀ (bs : List String), Paired ClsV (bs.map V.ty) (bs.map Value.type)
  | [] => .nil
  | b :: bs => .cons (.ty b) (clsV_all bs)
theorem kitAny_ok {K : PySem.W.Frag} {a : String} (ha : a ∈ ["NoneType", "bool", "int", "str", "list", "tuple", "dict"]) : ∀ (bs : List String), (∀ b ∈ bs, b ∈ tysB) → PySem.W.kitAny K (.type a) (bs.map Value.type) = some (bs.any fun b => isTy a b)
  | [], _ => rfl
  | b :: bs, h => kitAny_cons (b := isTy a b) (kit_ty (kitB_ok a ha b (h b List.mem_cons_self))) (fun e => by
      rw [List.any_cons, e, Bool.false_or]
      exact kitAny_ok ha bs fun c hc => h c (List.mem_cons_of_mem _ hc)) fun e => by rw [List.any_cons, e, Bool.true_or]
theorem fits_isiT {K : PySem.W.Frag} : FitsL (rIsiT K) wIsiT := fun xs vs F H Q k tr r ⟨d, bs, a, e, hb, ha, hk⟩ q => by
  subst e
  obtain ⟨v, v', ev, r1, r2⟩ := repl_two r
  obtain ⟨tp, ws, e2, f, ht, rl⟩ := r2
  subst ev e2
  have ew := repl_tys rl
  subst ew
  exact ⟨v, tp, _, .type a, bs.map Value.type, _, rfl, ht, clsV_all bs, rep_ty r1 ha, kitAny_ok (tyD_mem ha) bs hb, q _ _ _ _ _ hk (.same rfl)⟩

section
variable {X : Cx} {en : En} {a b c e : Expr} {es : List Expr} {ta tb tc te : TO} {pos p apos cpos : Pos} {x : Str}
/-! ### names -/
theorem v_glob {d : D} {w : V} {u : Value} (hm : X.mg x = some u) (r : RelV w u) (rd : ∀ F H, Rep F H d w) (hg : Gl X x := by rfl) (hd : (x == ("__debug__" : Str)) = false := by decide) : PV X en (.Name x pos) (dC d) :=
  v_const (pe_glob hg hm r hd) rd
theorem v_ty {n : String} (hm : X.mg x = none) (hv : bootBuiltins x = some (.type n)) (hg : Gl X x := by rfl) (hn : x ≠ "__name__" := by decide) (hd : (x == ("__debug__" : Str)) = false := by decide) : PV X en (.Name x pos) (dC (.opq (.ty n))) :=
  v_const (pe_bltn (v := .ty n) hg hm hv rfl hn hd) fun _ _ => rfl

/-! ### a op b op c -/
def dChain (g g' : W2) (ta tb tc : TO) : TO := fun ρ Q => ta ρ fun x ρ1 => tb ρ1 fun y ρ2 => g x.2 y.2 fun s => ∃ k, s.2 = .bl k ∧ if k = true then tc ρ2 fun z ρ3 => g' y.2 z.2 fun s' => Q s' ρ3 else Q (0, .bl false) ρ2
theorem lift_chain {r r' : R2} {g g' : W2} {σ : St} {H : Hp} {Q : VK} (A : PV X en a ta) (B : PV X en b tb) (C : PV X en c tc) (hr : Fits2 r g) (hr' : Fits2 r' g') (h : lift en (dChain g g' ta tb tc) σ H Q) : tChain r r' (lift en ta) (lift en tb) (lift en tc) σ H Q := by
  obtain ⟨ρ, F, fp, S, h⟩ := h
  refine ⟨ρ, F, fp, S, A.mono _ _ _ (fun x ρ1 hx v1 H1 F1 fp1 l1 S1 E1 T1 => ?_) h⟩
  obtain ⟨S1', R1⟩ := T1.freeze S1
  have E1' := E1.trans (Ext.addL F1 H1 l1)
  refine ⟨ρ1, _, fp1, S1', B.mono _ _ _ (fun y ρ2 hy v2 H2 F2 fp2 l2 S2 E2 T2 => ?_) hx⟩
  obtain ⟨S2', R2⟩ := T2.freeze S2
  have E2' := E2.trans (Ext.addL F2 H2 l2)
  refine hr x.2 y.2 v1 v2 _ H2 _ _ S2'.tr (R1.ext E2') R2 hy fun s w F' H' l ⟨kk, es, hk⟩ A => ?_
  obtain ⟨S3, E3, T3⟩ := A.step S2'
  obtain ⟨S3', R3⟩ := T3.freeze S3
  have E3' := E3.trans (Ext.addL F' H' l)
  rw [es] at R3
  refine ⟨kk, R3, ?_⟩
  cases kk with
  | true =>
    rw [if_pos rfl] at hk
    refine iteT ?_
    refine ⟨ρ2, _, fp2, S3', C.mono _ _ _ (fun z ρ3 hz v4 H4 F4 fp4 l4 S4 E4 T4 => ?_) hk⟩
    obtain ⟨S4', R4⟩ := T4.freeze S4
    have E4' := E4.trans (Ext.addL F4 H4 l4)
    refine hr' y.2 z.2 v2 v4 _ H4 Q _ S4'.tr (R2.ext (E3'.trans E4')) R4 hz fun s w F' H' l hk A => ?_
    obtain ⟨S5, E5, T5⟩ := A.step S4'
    exact hk w H' F' fp4 l S5 ((((E1'.trans E2').trans E3').trans E4').trans E5) T5
  | false =>
    rw [if_neg Bool.false_ne_true] at hk
    refine iteF ?_
    exact hk _ H' _ fp2 [] S3' ((E1'.trans E2').trans E3') (Tmp.flat (d := .bl false) rfl)
theorem mono_chain {g g' : W2} (A : MonoD ta) (B : MonoD tb) (C : MonoD tc) (hg : Mono2 g) (hg' : Mono2 g') : MonoD (dChain g g' ta tb tc) := fun ρ Q Q' k h => A _ _ _ (fun x ρ1 h => B _ _ _ (fun y ρ2 h => hg _ _ _ _ (fun s ⟨kk, e, h⟩ => ⟨kk, e, by
  cases kk with
  | true => rw [if_pos rfl] at h ⊢; exact C _ _ _ (fun z ρ3 h => hg' _ _ _ _ (fun s h => k _ _ h) h) h
  | false => rw [if_neg Bool.false_ne_true] at h ⊢; exact k _ _ h⟩) h) h) h
theorem v_chain {op op' : CmpOp} {r r' : R2} {g g' : W2} (ho : OpR X (compareOp op) r) (ho' : OpR X (compareOp op') r') (A : PV X en a ta) (B : PV X en b tb) (C : PV X en c tc) (hr : Fits2 r g) (hr' : Fits2 r' g') (hg : Mono2 g) (hg' : Mono2 g')
    (hm : lastMarks [op, op'] [b, c] = false := by with_unfolding_all rfl) : PV X en (.Compare a [op, op'] [b, c] pos) (dChain g g' ta tb tc) :=
  ⟨(pe_chain ho ho' A.run B.run C.run hm).imp fun σ H Q h => lift_chain A B C hr hr' h, mono_chain A.mono B.mono C.mono hg hg'⟩

/-! ### is, is not of bools -/
def wIsB (neg : Bool) : W2 := fun x y k => ∃ a b, x = .bl a ∧ y = .bl b ∧ k (0, .bl (neg ^^ decide (a = b)))
theorem mono_isB {neg : Bool} : Mono2 (wIsB neg) := fun _ _ _ _ f ⟨a, b, h1, h2, h3⟩ => ⟨a, b, h1, h2, f _ h3⟩
theorem fits_isBl : Fits2 rIsB (wIsB false) := fun x y v u F H Q k tr rx ry ⟨a, b, e1, e2, hk⟩ q => by
  subst e1 e2
  have rx : v = .bl a := rx
  have ry : u = .bl b := ry
  exact ⟨a, b, rx, ry, q _ _ _ _ _ hk (by rw [Bool.false_xor]; exact .same rfl)⟩
theorem fits_notBl : Fits2 rNotB (wIsB true) := fun x y v u F H Q k tr rx ry ⟨a, b, e1, e2, hk⟩ q => by
  subst e1 e2
  have rx : v = .bl a := rx
  have ry : u = .bl b := ry
  exact ⟨a, b, rx, ry, q _ _ _ _ _ hk (by rw [Bool.true_xor]; exact .same rfl)⟩
end
end DL

/-! DLq: found[k].append(x) on two depths; {k: v}; list(range(..)); min of pairs. -/
namespace DL
open PySem PySem.Spec PyProof.Rows L2
variable [LamT]

/-! ### found[k].append(x) -/
def setD : List (Key × D) → Key → D → List (Key × D)
  | [], _, _ => []
  | (k, d) :: r, q, d' => if k = q then (k, d') :: r else (k, d) :: setD r q d'
section
variable {F : Fz} {H : Hp}
theorem OwnK.at1 : ∀ {kvs : List (Key × D)} {ws : List (Key × V)} {ls : List Addr} {q : Key} {ds : List D}, OwnK (Own F H 1) kvs ws ls → ls.Nodup → valD kvs q = some (.lst ds) →
    ∃ b vs, valV ws q = some (.ref b) ∧ b ∈ ls ∧ H b = some (.lst vs) ∧ RepL F H ds vs ∧ ∀ o ds' vs', o = .lst vs' → Ext F H F (upd H b o) → RepL F (upd H b o) ds' vs' → OwnK (Own F (upd H b o) 1) (setD kvs q (.lst ds')) ws ls
  | [], _, _, _, _, _, _, h => by cases h
  | (k, d) :: kvs, _, _, q, ds, ow, nd, h => by
    obtain ⟨v, r, l1, l2, e1, e2, h1, h2⟩ := ow
    subst e1 e2
    obtain ⟨nd1, nd2, dj⟩ := List.nodup_append.mp nd
    by_cases e : k = q
    · subst e
      have ed : d = .lst ds := by
        unfold valD at h
        rw [List.find?_cons] at h
        simpa using h
      subst ed
      have h1 : Own F H 1 (.lst ds) v l1 := h1
      obtain ⟨b, vs, ev, hb, rl, el⟩ := own1_lst h1
      subst ev el
      refine ⟨b, vs, ?_, by simp, hb, rl, fun o ds' vs' eo x rl' => ?_⟩
      · unfold valV
        simp
      · subst eo
        unfold setD
        rw [if_pos rfl]
        refine ⟨.ref b, r, [b], l2, rfl, rfl, mk1_lst upd_same rl', h2.imp fun d v l' hl p => p.ext x _ _ _ _ fun a ha => upd_ne fun z => ?_⟩
        exact dj b (by simp) a (hl a ha) z.symm
    · have h' : valD kvs q = some (.lst ds) := by
        unfold valD at h ⊢
        rw [List.find?_cons] at h
        simpa [e] using h
      obtain ⟨b, vs, g1, g2, g3, g4, g5⟩ := OwnK.at1 h2 nd2 h'
      refine ⟨b, vs, ?_, List.mem_append_right _ g2, g3, g4, fun o ds' vs' eo x rl' => ?_⟩
      · unfold valV at g1 ⊢
        rw [List.find?_cons]
        simpa [e] using g1
      · unfold setD
        rw [if_neg e]
        refine ⟨v, r, l1, l2, rfl, rfl, h1.ext x _ _ _ _ fun a ha => upd_ne fun z => ?_, g5 o ds' vs' eo x rl'⟩
        exact dj a ha b g2 z
end
def dAppIx (i : Nat) (tk te : TO) : TO := fun ρ Q => ∃ kvs, ρ[i]? = some (some (2, .dic kvs)) ∧ tk (frz ρ) fun sk _ => flatD sk.2 = true ∧ ∃ q ds, keyD sk.2 = some q ∧ valD kvs q = some (.lst ds) ∧ te (frz ρ) fun sv _ => flatD sv.2 = true ∧ ds.length < sizeLine ∧
  Q (0, .non) (ρ.set i (some (2, .dic (setD kvs q (.lst (ds ++ [sv.2]))))))
section
variable {X : Cx} {en : En} {k e : Expr} {tk te : TO} {p ipos apos cpos pos : Pos} {x : Str}
theorem v_appIx (i : Nat) (hu : X.A.units + 1 < cLine) (Kk : ∀ en', en'.ios = [] → PV X en' k tk) (E : ∀ en', en'.ios = [] → PV X en' e te) (hN : X.N[i]? = some x := by rfl) (hv : Vis X.env.scope x := by first | exact Or.inl rfl | exact Or.inr (Or.inl rfl) | exact Or.inr (Or.inr rfl)) (hs' : PlainIx k := by intro _ _; rfl)
    (hbase : attributeBase (.Subscript (.Name x p) k ipos) "append" X.env (eval (.Subscript (.Name x p) k ipos) X.env) = eval (.Subscript (.Name x p) k ipos) X.env := by rfl)
    (hfew : ((backTo cpos (starEach [e] X.env)).all (fun x => !x.1) && (backToKw cpos (keywordEach [] X.env)).all (fun x => x.1.isSome)
      && decide ([e].length + ([] : List Keyword).length + (if ([] : List Keyword).isEmpty then 0 else 1) < 30)) = true := by rfl)
    (hline : (apos.endLine == cpos.line) = true := by rfl) (hs : starEach [e] X.env = (false, eval e X.env) :: starEach [] X.env := by rfl) (hplain : (backTo cpos (starEach [] X.env)).any (·.1) = false := by rfl)
    (hd : (x == ("__debug__" : Str)) = false := by decide) (hcd : (x == ("__classdict__" : Str)) = false := by decide) : PV X en (.Call (.Attribute (.Subscript (.Name x p) k ipos) "append" apos) [e] [] cpos) (dAppIx i tk te) := by
  have mk : MonoD tk := (Kk ⟨fun _ => False, fun _ => none, fun _ => False, fun _ => False, []⟩ rfl).mono
  have me : MonoD te := (E ⟨fun _ => False, fun _ => none, fun _ => False, fun _ => False, []⟩ rfl).mono
  refine ⟨(pe_bm PySem.F.plainAttrs_list PySem.F.slot_list_append PySem.F.type_list_append mt_append (pe_ix (ix_dict hu) (pe_var hN hv hd hcd) (pe_look (en := en) Kk) hs') (pa_cons (pe_look (en := en) E) pa_nil hs) hbase hfew hline hs hplain).imp fun σ H Q h => ?_, fun ρ Q Q' kk ⟨kvs, h1, h2⟩ => ⟨kvs, h1, mk _ _ _ (fun s ρ1 ⟨f, q, ds, h3, h4, h5⟩ => ⟨f, q, ds, h3, h4, me _ _ _ (fun s ρ2 ⟨f, h6, h7⟩ => ⟨f, h6, kk _ _ h7⟩) h5⟩) h2⟩⟩
  obtain ⟨ρ, F, fp, S0, kvs, h1, h⟩ := h
  have S := S0.clip
  have hz := S0.liv
  obtain ⟨v, ev, ow⟩ := S.sl i _ _ h1
  refine ⟨v, ev, ρ, F, _, S, hz, mk _ _ _ (fun sk ρ1 ⟨f, q, ds, h3, h4, h5⟩ => ⟨f, fun y H1 F1 S1 E1 k1 R1 => ?_⟩) h⟩
  have ow1 : Own F1 H1 2 (.dic kvs) v (clip ρ fp i) := ow.ext E1 _ _ _ _ fun a ha => k1 i a ha
  obtain ⟨a, ws, ls, ea, ha, hl, hfp⟩ := ow1
  subst ea
  have nd : ls.Nodup := by have := S.nd i; rw [hfp] at this; exact (List.nodup_cons.mp this).2
  obtain ⟨b, vs, g1, g2, g3, g4, g5⟩ := hl.at1 nd h4
  refine ⟨a, .ref b, rfl, .inl ⟨ws, q, .inl ha, keyD_rep h3 R1, g1.symm⟩, .inl ⟨rfl, _, SqL.of g3⟩, ρ, F1, _, S1, hz.keep k1, me _ _ _ (fun sv ρ2 ⟨f, h6, h7⟩ => ⟨f, fun z H2 F2 S2 E2 k2 R2 => ?_⟩) h5⟩
  have hb2 : b ∈ clip ρ fp i := by rw [hfp]; exact List.mem_cons_of_mem _ g2
  have hH2 : H2 b = some (.lst vs) := (k2 i b hb2).trans g3
  have ow2 : OwnK (Own F2 H2 1) kvs ws ls := hl.imp fun d v l' hl' p => p.ext E2 _ _ _ _ fun c hc => k2 i c (by rw [hfp]; exact List.mem_cons_of_mem _ (hl' c hc))
  obtain ⟨b', vs', w1, w2, w3, w4, w5⟩ := ow2.at1 nd h4
  have eb : b' = b := by rw [g1] at w1; cases w1; rfl
  subst eb
  have evs : vs' = vs := by rw [w3] at hH2; cases hH2; rfl
  subst evs
  have x : Ext F2 H2 F2 (upd H2 b' (.lst (vs' ++ [z]))) := .of (fun _ h => h) fun c hc => upd_ne fun e => S2.nF i b' hb2 (e ▸ hc)
  have r2 := RepL.append (RepL.ext x _ _ w4) (RepL.one (R2.ext x))
  have nab : a ≠ b' := fun e => by
    have hnd := S.nd i
    rw [hfp] at hnd
    exact (List.nodup_cons.mp hnd).1 (e ▸ g2)
  obtain ⟨S3, E3⟩ := S2.mut (a := b') (o := .lst (vs' ++ [z])) (n := 2) (n' := 2) (d := .dic kvs) (d' := .dic (setD kvs q (.lst (ds ++ [sv.2])))) ev hb2 (by
    rw [hfp]
    exact ⟨a, ws, ls, rfl, by rw [upd_ne nab]; exact (k2 i a (by rw [hfp]; simp)).trans ha, w5 _ _ _ rfl x r2, rfl⟩)
  exact ⟨b', vs', z, rfl, rfl, hH2, by rw [← w4.len]; exact h6, h7 _ _ _ _ [] S3 ((E1.trans E2).trans E3) (Tmp.flat (d := .non) rfl)⟩
end
end DL

/-! DLr: {k: v}; list(range(..)); list(d.items()); min of pairs; pair[::-1]. -/
namespace DL
open PySem PySem.Spec PyProof.Rows L2
variable [LamT]

/-! ### {k: v} -/
def dDisp1 (tk tv : TO) : TO := fun ρ Q => tk ρ fun sk ρ1 => tv ρ1 fun sv ρ2 => ∃ q, keyD sk.2 = some q ∧ Q (1, .dic [(q, sv.2)]) ρ2
section
variable {X : Cx} {en : En} {a b k v e : Expr} {ta tb tk tv te : TO} {p p1 p2 p3 apos cpos pos : Pos}
theorem v_disp1 (Kk : ∀ en', en'.ios = en.ios → PV X en' k tk) (Vv : ∀ en', en'.ios = en.ios → PV X en' v tv) : PV X en (.Dict [some k] [v] pos) (dDisp1 tk tv) := by
  have mk : MonoD tk := (Kk en rfl).mono
  have mv : MonoD tv := (Vv en rfl).mono
  refine ⟨(pe_disp (pps_cons (pe_any Kk) (pe_any Vv) pps_nil) rfl rfl (by simp) (by simp)).imp fun σ H Q h => ?_, fun ρ Q Q' kk h => mk _ _ _ (fun sk ρ1 h => mv _ _ _ (fun sv ρ2 ⟨q, h1, h2⟩ => ⟨q, h1, kk _ _ h2⟩) h) h⟩
  obtain ⟨ρ, F, fp, S, h⟩ := h
  intro p hp
  obtain ⟨h0, nF, nf, nF0⟩ := S.free hp
  obtain ⟨S1, E1⟩ := S.newO (o := .dK []) hp
  refine ⟨rb en F (upd H p (.dK [])) fp, rfl, ρ, F, fp, S1.rebase, mk _ _ _ (fun sk ρ1 h w H2 F2 fp2 l2 S2 E2 T2 => ?_) h⟩
  obtain ⟨S2', R2⟩ := T2.freeze S2
  have E2' := E2.trans (Ext.addL F2 H2 l2)
  refine ⟨rb en F (upd H p (.dK [])) fp, rfl, ρ1, _, fp2, S2', mv _ _ _ (fun sv ρ2 ⟨q, hq, h⟩ z H3 F3 fp3 l3 S3 E3 T3 => ?_) h⟩
  obtain ⟨S3', R3⟩ := T3.freeze S3
  have E3' := E3.trans (Ext.addL F3 H3 l3)
  have hp3 : H3 p = some (.dK []) := S3'.kp p _ upd_same (fun ⟨i, z⟩ => nf i z) nF
  have np : upd H p (HO.dK []) p ≠ none := by rw [upd_same]; simp
  have nF3 : ¬ addL F3 l3 p := fun z => by
    rcases S3'.fr p z with z | z | ⟨i, _, z⟩
    · exact nF z
    · exact np z
    · exact nf i z
  have nf3 : ∀ i, p ∉ fp3 i := fun i z => by
    rcases S3'.own i p z with z | ⟨⟨j, z⟩, _⟩
    · exact np z
    · exact nf j z
  have S4 := S1.unbase S3'
  obtain ⟨S5, E5⟩ := S4.updFree (o := .dK (mergeK [] [(q, z)])) h0 nF3 nf3 (by rw [hp3]; simp)
  refine ⟨hp3, [(q, z)], ?_, by simp, h (.ref p) _ _ fp3 [p] S5 (((E1.trans E2').trans E3').trans E5) ⟨mk1_dic upd_same ⟨(q, z), [], rfl, ⟨rfl, R3.ext E5⟩, rfl⟩, by simp, fun c hc => ?_⟩⟩
  · rw [keyD_rep hq R2]; rfl
  · have e : c = p := by simpa using hc
    subst e
    exact ⟨nF3, by rw [upd_same]; simp, h0, fun z => S.pH _ z h0, nf3⟩

/-! ### list(range(..)) -/
theorem rgV_rep {F : Fz} {H : Hp} (i : Int) (n : Nat) : RepL F H (rangeD i n) ((List.range n).map fun j => V.int (i + (j : Nat))) := by
  unfold rangeD
  generalize List.range n = l
  induction l with
  | nil => exact rfl
  | cons x xs ih => exact ⟨_, _, rfl, rfl, ih⟩
def dListRg1 (ta : TO) : TO := fun ρ Q => ta ρ fun x ρ1 => ∃ n, x.2 = .int n ∧ RgOk 0 n ∧ Q (1, .lst (rangeD 0 (n - 0).toNat)) ρ1
def dListRg2 (ta tb : TO) : TO := fun ρ Q => ta ρ fun x ρ1 => tb ρ1 fun y ρ2 => ∃ i j, x.2 = .int i ∧ y.2 = .int j ∧ RgOk i j ∧ Q (1, .lst (rangeD i (j - i).toNat)) ρ2
theorem v_listRg1 {q1 q2 : Pos} (hc : X.calm = true) (hm : X.mg "list" = none) (hm2 : X.mg "range" = none) (A : PV X en a ta) (hg : Gl X "list" := by rfl) (hg2 : Gl X "range" := by rfl)
    (na : starEach [.Call (.Name "range" q1) [a] [] q2] X.env = (false, eval (.Call (.Name "range" q1) [a] [] q2) X.env) :: starEach [] X.env := by rfl) (na2 : starEach [a] X.env = (false, eval a X.env) :: starEach [] X.env := by rfl) :
    PV X en (.Call (.Name "list" p) [.Call (.Name "range" q1) [a] [] q2] [] pos) (dListRg1 ta) := by
  refine ⟨(pe_listRg hc hg hm (prg_1 hg2 hm2 A.run na2) na).imp fun σ H Q h => ?_, fun ρ Q Q' kk h => A.mono _ _ _ (fun x ρ1 ⟨n, h1, h2, h3⟩ => ⟨n, h1, h2, kk _ _ h3⟩) h⟩
  obtain ⟨ρ, F, fp, S, h⟩ := h
  refine ⟨ρ, F, fp, S, A.mono _ _ _ (fun x ρ1 ⟨n, h1, h2, h3⟩ w H1 F1 fp1 l1 S1 E1 T1 => ?_) h⟩
  obtain ⟨S1', R1⟩ := T1.freeze S1
  have E1' := E1.trans (Ext.addL F1 H1 l1)
  rw [h1] at R1
  refine ⟨n, R1, h2, fun q hq => ?_⟩
  obtain ⟨S2, E2, T2⟩ := (ans_lst S1'.tr hq (rgV_rep (F := addL F1 l1) (H := H1) 0 (n - 0).toNat)).step S1'
  exact h3 _ _ _ fp1 _ S2 (E1'.trans E2) T2
theorem v_listRg2 {q1 q2 : Pos} (hc : X.calm = true) (hm : X.mg "list" = none) (hm2 : X.mg "range" = none) (A : PV X en a ta) (B : PV X en b tb) (hg : Gl X "list" := by rfl) (hg2 : Gl X "range" := by rfl)
    (na : starEach [.Call (.Name "range" q1) [a, b] [] q2] X.env = (false, eval (.Call (.Name "range" q1) [a, b] [] q2) X.env) :: starEach [] X.env := by rfl) (na2 : starEach [a, b] X.env = (false, eval a X.env) :: starEach [b] X.env := by rfl)
    (nb : starEach [b] X.env = (false, eval b X.env) :: starEach [] X.env := by rfl) (na3 : (backTo q2 (starEach [b] X.env)).any (·.1) = false := by rfl) :
    PV X en (.Call (.Name "list" p) [.Call (.Name "range" q1) [a, b] [] q2] [] pos) (dListRg2 ta tb) := by
  refine ⟨(pe_listRg hc hg hm (prg_2 hg2 hm2 A.run B.run na2 nb na3) na).imp fun σ H Q h => ?_, fun ρ Q Q' kk h => A.mono _ _ _ (fun x ρ1 h => B.mono _ _ _ (fun y ρ2 ⟨i, j, h1, h2, h3, h4⟩ => ⟨i, j, h1, h2, h3, kk _ _ h4⟩) h) h⟩
  obtain ⟨ρ, F, fp, S, h⟩ := h
  refine ⟨ρ, F, fp, S, A.mono _ _ _ (fun x ρ1 h w H1 F1 fp1 l1 S1 E1 T1 => ?_) h⟩
  obtain ⟨S1', R1⟩ := T1.freeze S1
  have E1' := E1.trans (Ext.addL F1 H1 l1)
  refine ⟨ρ1, _, fp1, S1', B.mono _ _ _ (fun y ρ2 ⟨i, j, h1, h2, h3, h4⟩ w2 H2 F2 fp2 l2 S2 E2 T2 => ?_) h⟩
  obtain ⟨S2', R2⟩ := T2.freeze S2
  have E2' := E2.trans (Ext.addL F2 H2 l2)
  rw [h1] at R1
  rw [h2] at R2
  refine ⟨i, j, R1, R2, h3, fun q hq => ?_⟩
  obtain ⟨S3, E3, T3⟩ := (ans_lst S2'.tr hq (rgV_rep (F := addL F2 l2) (H := H2) i (j - i).toNat)).step S2'
  exact h4 _ _ _ fp2 _ S3 ((E1'.trans E2').trans E3) T3

/-! ### min of pairs (int, text) -/
def pairIS (p : Int × Str) : D := .tup [.int p.1, .str p.2]
def wMinP : WL := fun ds k => ∃ p0 ps, ds = [.lst ((p0 :: ps).map pairIS)] ∧ k (0, pairIS (PySem.W.minOf p0 ps))
theorem mono_minP : MonoL wMinP := fun _ _ _ f ⟨a, b, h1, h2⟩ => ⟨a, b, h1, f _ h2⟩
def rMinP (K : PySem.W.Frag) : List V → Hp → VK → Prop := fun vs H Q => ∃ (c : Addr) (xs : List V) (p0 : Int × Str) (ps : List (Int × Str)), vs = [.ref c] ∧ SqL K H c xs ∧ DpAll K H xs ((p0 :: ps).map PySem.W.Datum.toD) ∧
  ∀ (i : Nat) (x : V), xs[i]? = some x → (p0 :: ps)[i]? = some (PySem.W.minOf p0 ps) → Q x H
theorem cr_minP (hc : X.calm = true) (hu : X.A.units + 64 < cLine) : CallR X (.builtin "min") (rMinP X.K) := by
  intro pins s σ H vs us Q I r h
  obtain ⟨c, xs, p0, ps, rfl, hs, dp, q⟩ := h
  obtain ⟨its, rv, hl, _⟩ := I.list hs
  rw [Vals.ref1 r]
  obtain ⟨as, rs⟩ := Dp.readsAll I _ _ _ dp rv
  have hd : X.A.units + 1 + PySem.W.Datum.depth (Int × Str) < cLine := by
    show X.A.units + 1 + (max 0 0 + 1) < cLine
    omega
  refine PySem.W.min_list_datum (I.ok.hd hc) hl.isList (x := p0) (xs := ps) ⟨as, by simpa using rs⟩ hd fun i v h' tk hi ho hk => ?_
  have hi' : its[i]? = some v := by rw [List.getElem?_toArray] at hi; exact hi
  have hlt : i < xs.length := by
    rw [rv.length]
    exact (List.getElem?_eq_some_iff.mp hi').1
  obtain ⟨u, hu2, ru⟩ := rv.get (List.getElem?_eq_getElem hlt)
  rw [hi'] at hu2
  cases hu2
  obtain ⟨bs, rd, hlt2, _⟩ := PySem.W.readsAll_at rs i v hi'
  obtain ⟨cs, ro⟩ := ho
  have hlt3 : i < (p0 :: ps).length := by simpa using hlt2
  have eg : (List.map PySem.W.Datum.toD (p0 :: ps)).getD i .none = PySem.W.Datum.toD ((p0 :: ps)[i]) := by
    rw [List.getD_eq_getElem?_getD, List.getElem?_map, List.getElem?_eq_getElem hlt3]
    rfl
  rw [eg] at rd
  have e := PySem.W.alike_unique _ _ v _ _ (PySem.W.DatumOrd.alike ((p0 :: ps)[i]) (PySem.W.minOf p0 ps)) (PyProof.Rows.Reads.keeps hk rd) ro
  refine ⟨_, H, I.kept hk, ru, q i _ (List.getElem?_eq_getElem hlt) ?_⟩
  rw [List.getElem?_eq_getElem hlt3]
  generalize (p0 :: ps)[i] = y at e
  obtain ⟨y1, y2⟩ := y
  generalize PySem.W.minOf p0 ps = z at e
  obtain ⟨z1, z2⟩ := z
  have e : PyData.tuple [.int y1, .str y2] = PyData.tuple [.int z1, .str z2] := e
  simp only [PyData.tuple.injEq, List.cons.injEq, PyData.int.injEq, PyData.str.injEq, and_true] at e
  rw [e.1, e.2]
theorem toPyL_pairs : ∀ (ps : List (Int × Str)), toPyL (ps.map pairIS) = some (ps.map PySem.W.Datum.toD)
  | [] => rfl
  | p :: ps => by
    rw [List.map_cons, List.map_cons]
    unfold toPyL
    rw [toPyL_pairs ps]
    rfl
theorem fits_minP {K : PySem.W.Frag} : FitsL (rMinP K) wMinP := fun xs vs F H Q k tr r ⟨p0, ps, e, hk⟩ q => by
  subst e
  obtain ⟨v, ev, c, us, ea, f, ha, rl⟩ := repl_one r
  refine ⟨c, us, p0, ps, by rw [ev, ea], SqL.of ha, rep_pyL _ _ _ (toPyL_pairs (p0 :: ps)) rl, fun i x hx hm => ?_⟩
  obtain ⟨w, h1, h2⟩ := rl.get (i := i) (d := pairIS (PySem.W.minOf p0 ps)) (by rw [List.getElem?_map, hm]; rfl)
  rw [hx] at h1
  cases h1
  exact q _ _ _ _ _ hk (.same h2)

/-! ### list(d.items()) -/
def rItemsR : V → Hp → VK → Prop := fun x H Q => ∃ (d : Addr) (kvs : List (Key × V)), x = .ref d ∧ Rd H d (.dK kvs) ∧
  ∀ (H' : Hp) (p : Addr) (ts : List Addr), (∀ b o, H b = some o → H' b = some o) → H p = none → (∀ t ∈ ts, H t = none) → p ∉ ts → H' p = some (.lst (ts.map V.ref)) → Paired (fun (t : Addr) (q : Key × V) => H' t = some (.tup [kV q.1, q.2])) ts kvs → Q (.ref p) H'
theorem pe_itemsR (hc : X.calm = true) {te : TE} (he : PE X e te) (hg : Gl X "list") (hm : X.mg "list" = none) (hv : bootBuiltins "list" = some (.type "list")) (hbase : attributeBase e "items" X.env (eval e X.env) = eval e X.env := by rfl) (hline : (apos.endLine == cpos.line) = true := by rfl)
    (hs : starEach [.Call (.Attribute e "items" apos) [] [] cpos] X.env = (false, eval (.Call (.Attribute e "items" apos) [] [] cpos) X.env) :: starEach [] X.env := by rfl) :
    PE X (.Call (.Name "list" p) [.Call (.Attribute e "items" apos) [] [] cpos] [] pos) (fun σ H Q => te σ H fun x H1 => rItemsR x H1 Q) := by
  refine ⟨fun pins s σ H Q I hq => wpAny_Call_Name_kw (ld_blt I hg hm hv (PyProof.Rows.callWith_type1 ?_ hs rfl))⟩
  rw [hs]
  show wpAny _ _ (spliced ((false, eval (.Call (.Attribute e "items" apos) [] [] cpos) X.env) :: backTo pos (starEach [] X.env))) _ _ s
  refine Calls.spliced_cons (wpAny_Call_method (T := "dict") (id := "dict.items") hbase rfl hline PySem.F.plainAttrs_dict PySem.F.slot_dict_items PySem.F.type_dict_items (thn (he.run pins s σ H _ I hq) fun u s1 ⟨x, H1, I1, rx, d, kvs, ex, hd, q⟩ => ?_))
  subst ex
  obtain rfl : u = Value.ref d := rx
  obtain ⟨hz, hs0, vs, kv, hdo⟩ := dk_rd I1.hok hd
  obtain ⟨ep, hat⟩ := hdo.dictAt
  have lk : kvs.length = vs.length := Paired.length kv
  have I2 : Inv X pins σ H1 { s1 with heap := s1.heap.push { cls := .type "dict_items", data := .fields #[.ref d] } } := I1.kept (t' := s1.toks) fun b ob q => Heap.get?_push_of_some _ q
  refine ⟨hdo.typeIs, hdo.mapOf.noDict, ?_⟩
  show wpAny _ _ (callWith cpos (.builtin "dict.items") [.ref d] [] []) _ X.xe s1
  refine method_meetsIn PySem.F.slot_dict_items PySem.F.entry_dict_items rfl (PySem.evalArgs_none ⟨rfl, hdo.typeIs, PySem.F.args_dict_items_1 _, _, meets_dict_items (mixKind X.prog X.w) d hs0, ⟨vs, hdo⟩, Calls.spliced_nil ?_⟩)
  refine PySem.W.kdx_call (knd := mixKind X.prog X.w) (kvs := vs) (ep := ep) (I1.ok.hd hc) ⟨_, Heap.get?_push_size _ rfl, rfl, rfl⟩ (hat.push _) (by omega) fun h' tk acc c as hk hS hl hG hacc => ?_
  obtain ⟨H', k1, k2, k3, k4, k5, k6, J⟩ := LiI.items_laid (tk := tk) I2 hz kv hk hS hl hG hacc
  exact ⟨.ref _, H', J, rfl, q H' _ as k1 k2 k3 k4 k5 k6⟩
def dItemsL (te : TO) : TO := fun ρ Q => te ρ fun s ρ1 => ∃ kvs, s.2 = .dic kvs ∧ Q (1, .lst (pairsD kvs)) ρ1
theorem repl_items {F : Fz} {H H' : Hp} (x : Ext F H F H') : ∀ {kvs : List (Key × D)} {ws : List (Key × V)} {ts : List Addr}, RepK F H kvs ws → Paired (fun (t : Addr) (q : Key × V) => H' t = some (.tup [kV q.1, q.2])) ts ws → RepL (addL F ts) H' (pairsD kvs) (ts.map V.ref)
  | [], _, _, h, pr => by
    have h : _ = [] := h
    subst h
    cases pr
    exact rfl
  | (k, d) :: kvs, _, _, h, pr => by
    obtain ⟨⟨k2, v⟩, r, e, h1, h2⟩ := h
    have hh : k2 = k ∧ Rep F H d v := h1
    subst e
    obtain ⟨e1, rd⟩ := hh
    subst e1
    cases pr with
    | @cons t q ts qs ht pr =>
      have x2 : ∀ {l : List Addr}, Ext F H' (addL F l) H' := fun {l} => Ext.addL F H' l
      refine ⟨.ref t, ts.map V.ref, rfl, ⟨t, _, rfl, .inr List.mem_cons_self, ht, kV k2, [v], rfl, rep_kD k2, v, [], rfl, (rd.ext x).ext x2, rfl⟩, ?_⟩
      have := repl_items x h2 pr
      exact RepL.ext (.of (fun a h => h.elim .inl fun z => .inr (List.mem_cons_of_mem _ z)) fun _ _ => rfl) _ _ this
/-- new objects, all frozen but one -/
theorem SI.grow {ρ : DSt} {σ : St} {H H' : Hp} {F : Fz} {fp : Nat → List Addr} (S : SI en ρ σ H F fp) {ts : List Addr} (k : ∀ b o, H b = some o → H' b = some o) (ht : ∀ t ∈ ts, H t = none) (ht' : ∀ t ∈ ts, H' t ≠ none) : SI en ρ σ H' (addL F ts) fp ∧ Ext F H (addL F ts) H' := by
  have kk : ∀ a, H a ≠ none → H' a = H a := fun a h => by
    cases q : H a with
    | none => exact absurd q h
    | some o => exact k a o q
  have x : Ext F H (addL F ts) H' := .of (fun _ h => .inl h) fun a h => kk a (S.tr a h)
  refine ⟨S.go x (fun i a h => ⟨kk a (S.tf i a h), fun z => z.elim (S.nF i a h) fun z => S.tf i a h (ht a z)⟩) (fun a h => h.elim .inl fun z => .inr (.inl (S.free (ht a z)).1)) (fun a h => h.elim (fun z => by rw [kk a (S.tr a z)]; exact S.tr a z) fun z => ht' a z) (fun a o e _ => k a o e) (fun a h z => z.elim (S.pinF a h) fun z => absurd (ht a z) (S.dm a (S.pH a h))), x⟩
theorem v_items (hc : X.calm = true) (E : PV X en e te) (hm : X.mg "list" = none) (hg : Gl X "list" := by rfl) (hbase : attributeBase e "items" X.env (eval e X.env) = eval e X.env := by rfl) (hline : (apos.endLine == cpos.line) = true := by rfl)
    (hs : starEach [.Call (.Attribute e "items" apos) [] [] cpos] X.env = (false, eval (.Call (.Attribute e "items" apos) [] [] cpos) X.env) :: starEach [] X.env := by rfl) :
    PV X en (.Call (.Name "list" p) [.Call (.Attribute e "items" apos) [] [] cpos] [] pos) (dItemsL te) := by
  refine ⟨(pe_itemsR hc E.run hg hm boot_list hbase hline hs).imp fun σ H Q h => ?_, fun ρ Q Q' kk h => E.mono _ _ _ (fun s ρ1 ⟨kvs, h1, h2⟩ => ⟨kvs, h1, kk _ _ h2⟩) h⟩
  obtain ⟨ρ, F, fp, S, h⟩ := h
  refine ⟨ρ, F, fp, S, E.mono _ _ _ (fun s ρ1 ⟨kvs, h1, h2⟩ w H1 F1 fp1 l1 S1 E1 T1 => ?_) h⟩
  obtain ⟨S1', R1⟩ := T1.freeze S1
  have E1' := E1.trans (Ext.addL F1 H1 l1)
  rw [h1] at R1
  obtain ⟨d, ws, ev, f, ha, r⟩ := R1
  subst ev
  refine ⟨d, ws, rfl, ha, fun H' p ts k1 k2 k3 k4 k5 k6 => ?_⟩
  have kx : Ext (addL F1 l1) H1 (addL F1 l1) H' := .of (fun _ h => h) fun a h => by
    cases q : H1 a with
    | none => exact absurd q (S1'.tr a h)
    | some o => exact k1 a o q
  have rl := repl_items kx r k6
  have tn : ∀ {ts : List Addr} {ws : List (Key × V)}, Paired (fun (t : Addr) (q : Key × V) => H' t = some (.tup [kV q.1, q.2])) ts ws → ∀ t ∈ ts, H' t ≠ none := by
    intro ts ws pr
    induction pr with
    | nil => intro t h; exact absurd h (by simp)
    | cons h _ ih =>
      intro t ht
      rcases List.mem_cons.mp ht with e | ht
      · rw [e, h]; simp
      · exact ih t ht
  obtain ⟨S2, E2⟩ := S1'.grow k1 k3 (tn k6)
  have fr := S1'.free k2
  refine h2 (.ref p) H' _ fp1 [p] S2 (E1'.trans E2) ⟨mk1_lst k5 rl, by simp, fun c hcp => ?_⟩
  have e : c = p := by simpa using hcp
  subst e
  exact ⟨fun z => z.elim fr.2.1 k4, by rw [k5]; simp, fr.1, fun z => S1'.pH _ z fr.1, fr.2.2.1⟩
end
end DL

/-! DLs: pair[::-1]; len by an own __len__. -/
namespace DL
open PySem PySem.Spec PyProof.Rows L2
variable [LamT]

/-! ### pair[::-1] -/
section
variable {prog : Program} {w : World} {A : Around} {E : Value → Shared → Prop} {s : Shared}
theorem applied_rev2 {sl : Addr} {u : Tok} {Q : Int × Int × Nat → Shared → Prop} (hs : s.heap.IsSliceOf sl .none .none (.int (-1) u)) (h : Q (1, -1, 2) s) :
    wpAny (model prog w) A (Builtin.Slice.sliceApplied (.ref sl) (pure ((2 : Nat) : Int))) Q E s := by
  obtain ⟨os, hos, hcs, hds⟩ := id hs
  unfold Builtin.Slice.sliceApplied Builtin.Slice.sliceFields
  refine wpAny_bind (wpAny_bind (wpAny_field hos hds (x := .none) rfl (wpAny_bind (wpAny_field hos hds (x := .none) rfl (wpAny_bind (wpAny_field hos hds (x := .int (-1) u) rfl (wpAny_pure ?_)))))))
  refine wpAny_bind (slicePart_int ?_)
  show wpAny _ _ (if ((-1 : Int) == 0) = true then _ else _) _ _ s
  rw [if_neg (by decide)]
  refine wpAny_bind (slicePart_none (wpAny_bind (slicePart_none (wpAny_bind (wpAny_pure ?_)))))
  exact wpAny_pure h
theorem getItem_rev2 {t sl : Addr} {x y : Value} {u : Tok} {Q : Value → Shared → Prop} (ht : IsTup s.heap t #[x, y]) (hs : s.heap.IsSliceOf sl .none .none (.int (-1) u))
    (h : Q (.ref s.heap.objs.size) { s with heap := s.heap.push { cls := .type "tuple", data := .seq #[y, x] } }) : wpAny (model prog w) A (getItem (.ref t) (.ref sl)) Q E s := by
  have hsz : sizeOk (.seq #[y, x]) := by
    show 2 ≤ sizeLine
    decide
  obtain ⟨os, hos, hcs, hds⟩ := id hs
  have hTs : s.TypeIs (.ref sl) "slice" := ⟨os, hos, hcs⟩
  unfold getItem
  try with_reducible refine wpAny_holding ?_
  first | refine wpAny_bind (wpAny_pure ?_) | skip
  refine wpAny_bind (wpAny_sequenceKey ht.typeIs (by decide) ?_)
  refine wpAny_bind (wpAny_callSpecial?_slot (name := Str.ofString "__getitem__") ht.typeIs slot_tuple_getitem
    (wpAny_call_entry slot_tuple_getitem ht.typeIs entry_tuple_getitem ?_ (args_tuple_getitem _ _)))
  show wpAny _ _ (Builtin.Tuple.tupleItemsOf (.ref t) >>= _) _ _ s
  refine wpAny_bind (tupleItemsOf_ ht ?_)
  refine wpAny_bind (wpAny_typeOf hTs ?_)
  rw [if_pos (by decide)]
  refine wpAny_bind (applied_rev2 hs ?_)
  show wpAny _ _ (if ((1 : Int) == 0 && (-1 : Int) == 1 && (2 : Nat) == 2) = true then _ else _) _ _ s
  rw [if_neg (by decide)]
  have e : ((List.range 2).filterMap fun (k : Nat) => (#[x, y] : Array Value)[((1 : Int) + (k : Int) * (-1)).toNat]?).toArray = #[y, x] := by rfl
  rw [e]
  first
    | exact wpAny_bind (m := Builtin.Tuple.tupleExact _) (wpAny_newObj_type (wpAny_pure ⟨_, rfl, wpAny_pure h⟩) hsz)
    | exact wpAny_bind (m := Builtin.Tuple.tupleExact _) (wpAny_newObj_type (wpAny_bind (wpAny_pure (wpAny_pure ⟨_, rfl, wpAny_pure h⟩))) hsz)
    | exact wpAny_bind (wpAny_bind (m := Builtin.Tuple.tupleExact _) (wpAny_newObj_type (wpAny_pure (wpAny_pure ⟨_, rfl, wpAny_pure h⟩)) hsz))
    | exact wpAny_bind (wpAny_bind (m := Builtin.Tuple.tupleExact _) (wpAny_newObj_type (wpAny_pure ⟨_, rfl, wpAny_pure h⟩) hsz))
end
def tRev2 (te : TE) : TE := fun σ H Q => te σ H fun x H1 => ∃ a y z, x = .ref a ∧ H1 a = some (.tup [y, z]) ∧ ∀ p, H1 p = none → Q (.ref p) (upd H1 p (.tup [z, y]))
theorem pe_rev2 {X : Cx} {e : Expr} {te : TE} {k : Nat} {p1 p2 p3 pos : Pos} (he : PE X e te) : PE X (.Subscript e (.Slice none none (some (.UnaryOp .USub (.Constant (.int 1) k p1) p2)) p3) pos) (tRev2 te) := by
  refine ⟨fun pins s σ H Q I h => Subscript_ (thn (he.run pins s σ H _ I h) fun v s1 ⟨x, H1, I1, r1, q1⟩ => ?_)⟩
  obtain ⟨a, y, z, ex, hx, q⟩ := q1
  subst ex
  cases r1
  have hst : PO X (some (.UnaryOp .USub (.Constant (.int 1) k p1) p2)) (tPart (tUn (rU fun i => .int (-i)) (tC (.int 1)))) := po_some (pe_un un_neg pe_int)
  refine wpAny_Slice (thn (po_none.run pins s1 σ H1 (fun o H2 => o = none ∧ H2 = H1) I1 ⟨rfl, rfl⟩) fun vl s2 ⟨l, H2, I2, pl, el, e2⟩ => ?_)
  subst el e2
  refine thn (po_none.run pins s2 σ H2 (fun o H3 => o = none ∧ H3 = H2) I2 ⟨rfl, rfl⟩) fun vu s3 ⟨u, H3, I3, pu, eu, e3⟩ => ?_
  subst eu e3
  refine thn (hst.run pins s3 σ H3 (fun o H4 => o = some (-1) ∧ H4 = H3) I3 ⟨1, rfl, -1, rfl, rfl, rfl⟩) fun vs s4 ⟨o, H4, I4, ps, eo, e4⟩ => ?_
  subst eo e4
  have I5 : Inv X pins σ H4 { s4 with heap := s4.heap.push { cls := .type "slice", data := .fields #[vl, vu, vs] } } := I4.kept (t' := s4.toks) fun b ob q => Heap.get?_push_of_some _ q
  obtain ⟨its, r, ht, hz⟩ := I5.tuple (SqT.of hx)
  cases pl
  cases pu
  cases ps
  cases r with
  | @cons _ b1 _ bs r1 r2 =>
    cases r2 with
    | @cons _ b2 _ cs r2 r3 =>
      cases r3
      show wpAny (model X.prog X.w) X.A (subscriptTail e (.Slice none none (some (.UnaryOp .USub (.Constant (.int 1) k p1) p2)) p3) (.ref a) (.ref s4.heap.objs.size)) (EP X pins σ Q) X.xe _
      have ht' : IsTup (s4.heap.push { cls := .type "slice", data := .fields #[.none, .none, .int (-1) _] }) a #[b1, b2] := ht
      refine tail_any (ops := [.ref a, .ref s4.heap.objs.size]) ht'.typeIs (slot_tuple_getitem.lookup) ?_ (by with_unfolding_all rfl)
      refine getItem_rev2 ht' (Heap.IsSliceOf.new _ .none .none _) ?_
      refine ⟨.ref _, _, I5.laid (t' := s4.toks) (o := .tup [z, y]) (fun b ob q => Heap.get?_push_of_some _ q) (Nat.le_refl _) ?_, rfl, q _ (I5.hok.fresh (Nat.le_refl _))⟩
      exact ⟨by show 2 ≤ sizeLine; decide, [b2, b1], .cons r2 (.cons r1 .nil), ⟨_, Heap.get?_push_size _ rfl, rfl, _, rfl⟩⟩
def dRev2 (te : TO) : TO := fun ρ Q => te ρ fun s ρ1 => ∃ a b, s.2 = .tup [a, b] ∧ Q (0, .tup [b, a]) ρ1
section
variable {X : Cx} {en : En} {e : Expr} {te : TO} {p pos p1 p2 p3 : Pos}
theorem v_rev2 {k : Nat} (E : PV X en e te) : PV X en (.Subscript e (.Slice none none (some (.UnaryOp .USub (.Constant (.int 1) k p1) p2)) p3) pos) (dRev2 te) := by
  refine ⟨(pe_rev2 E.run).imp fun σ H Q h => ?_, fun ρ Q Q' kk h => E.mono _ _ _ (fun s ρ1 ⟨a, b, h1, h2⟩ => ⟨a, b, h1, kk _ _ h2⟩) h⟩
  obtain ⟨ρ, F, fp, S, h⟩ := h
  refine ⟨ρ, F, fp, S, E.mono _ _ _ (fun s ρ1 ⟨a, b, h1, h2⟩ w H1 F1 fp1 l1 S1 E1 T1 => ?_) h⟩
  obtain ⟨S1', R1⟩ := T1.freeze S1
  have E1' := E1.trans (Ext.addL F1 H1 l1)
  rw [h1] at R1
  obtain ⟨c, ws, ev, f, hc, r⟩ := R1
  obtain ⟨y, z, ew, ry, rz⟩ := repl_two r
  subst ew
  refine ⟨c, y, z, ev, hc, fun p hp => ?_⟩
  obtain ⟨S2, E2, T2⟩ := (ans_tup (ds := [b, a]) S1'.tr hp ⟨z, [y], rfl, rz, y, [], rfl, ry, rfl⟩).step S1'
  exact h2 _ _ _ fp1 _ S2 (E1'.trans E2) T2

/-! ### len(o) of an own class -/
def tLenO (C : Addr) (sp : Sp) (E : St → XK) (te : TE) : TE := fun σ H Q => te σ H fun x H1 => ∃ a dx fs, x = .ref a ∧ H1 a = some (.ins C dx fs) ∧ sp [x] H1 (fun v H2 => ∃ n : Nat, v = .int n ∧ n < 2 ^ 62 ∧ Q (.int n) H2) (E σ)
theorem pe_lenO {CX : CXT} {fd : FuncData} {ps : List Str} {sp : Sp} {E : St → XK} {t : TE} {C f : Addr} {k : Nat} (he : PE X e t) (hm : Meth X.K C "__len__" f) (F : FnOk X.prog X.w X.K X.mg X.base CX k f fd ps sp) (hr : Room (k + 1) X.A) (hb : Binds X.K fd ps []) (hx : ∀ σ, PassesAt CX X σ (E σ))
    (hmg : X.mg "len" = none) (hg : Gl X "len" := by rfl) (hs : starEach [e] X.env = (false, eval e X.env) :: starEach [] X.env := by rfl) (hpl : (backTo pos (starEach [] X.env)).any (·.1) = false := by rfl) :
    PE X (.Call (.Name "len" p) [e] [] pos) (tLenO C sp E t) := by
  refine ⟨fun pins s σ H Q I h => wpAny_Call_Name_kw (ld_blt I hg hmg boot_len ?_)⟩
  let P : V → Hp → Prop := fun x H1 => ∃ a dx fs, x = .ref a ∧ H1 a = some (.ins C dx fs) ∧ sp [x] H1 (fun v H2 => ∃ n : Nat, v = .int n ∧ n < 2 ^ 62 ∧ Q (.int n) H2) (E σ)
  refine PyProof.Rows.callWith_builtin1 (thn ((pa_cons he pa_nil hs).run pos pins s σ H (fun vs H1 => match vs with
    | [x] => P x H1
    | _ => False) I h) fun us s1 ⟨vs, H1, I1, r1, q⟩ => ?_) hs hpl
  match vs, r1, q with
  | [], _, q => exact q.elim
  | _ :: _ :: _, _, q => exact q.elim
  | [x], r1, q =>
    obtain ⟨a, dx, fs, ex, ha, q⟩ := q
    subst ex
    rw [Vals.ref1 r1]
    obtain ⟨mA, J, _⟩ := ins_get I1.hok ha
    obtain ⟨od, J, _⟩ := J.look
    obtain ⟨m, hF⟩ := I1.fr
    refine PySem.W.len_K hF I1.ok.mod.kin J hm.at_ hm.fn ?_
    have hl : ([Value.ref a] : List Value).length = ps.length := (F.len _ _ _ _ q).symm ▸ rfl
    have b := hb s1 [.ref a] I1.kIn (by rw [List.append_nil]; exact hl)
    rw [List.append_nil] at b
    refine wpAny_call (codeAny_mono (F.run X.A.in1 X.stack s1 H1 ⟨[.ref a], []⟩ [.ref a] [.ref a] _ (E σ) hr.in1 I1.env0.in1 b (.cons rfl .nil) q) fun r s' hq => ?_)
    cases r with
    | error e => exact hx σ pins H1 s1 e s' I1 hq
    | ok fl =>
      cases fl with
      | ret u =>
        obtain ⟨v, H', I', rv, n, ev, hn, q'⟩ := I1.after hq
        subst ev
        obtain ⟨t, et⟩ := rv
        subst et
        exact ⟨⟨by omega, by omega⟩, .int n, H', I'.tok _, ⟨_, rfl⟩, q'⟩
      | next => exact False.elim hq
      | brk => exact False.elim hq
      | cont => exact False.elim hq
def dLenO (C : Addr) (sp : SpD) (te : TO) (R : RX) : TO := fun ρ Q => te ρ fun s ρ1 => ∃ fs, s.2 = .ins C fs ∧ sp [(0, .ins C fs)] (fun r _ => ∃ n : Nat, r.2 = .int n ∧ n < 2 ^ 62 ∧ Q (0, .int n) ρ1) fun x => R x ρ1
theorem v_lenO {C : Addr} {k : Nat} {sp : SpD} {R : RX} (CM : CalleeM X.prog X.w X.K X.mg X.base C "__len__" k sp) (mono : MonoSp sp) (hr : Room (k + 1) X.A) (tk : Takes X (wOf en R)) (O : PV X en e te)
    (hmg : X.mg "len" = none) (hg : Gl X "len" := by rfl) (hs : starEach [e] X.env = (false, eval e X.env) :: starEach [] X.env := by rfl) (hpl : (backTo pos (starEach [] X.env)).any (·.1) = false := by rfl) :
    PV X en (.Call (.Name "len" p) [e] [] pos) (dLenO C sp te R) := by
  obtain ⟨f, fd, ps, G, hm, hb⟩ := CM.ex
  refine ⟨(pe_lenO O.run hm G hr hb (fun σ => passAt tk σ) hmg hg hs hpl).imp fun σ H Q h => ?_, fun ρ Q Q' kk h => O.mono _ _ _ (fun s ρ1 ⟨fs, h1, h2⟩ => ⟨fs, h1, mono _ _ _ _ _ (fun r o ⟨n, h3, h4, h5⟩ => ⟨n, h3, h4, kk _ _ h5⟩) (fun _ h => h) h2⟩) h⟩
  obtain ⟨ρ, F, fp, S, h⟩ := h
  refine ⟨ρ, F, fp, S, O.mono _ _ _ (fun s ρ1 ⟨fs, h1, h2⟩ v H1 F1 fp1 l S1 E1 T1 => ?_) h⟩
  obtain ⟨S1', R1⟩ := T1.freeze S1
  have E1' := E1.trans (Ext.addL F1 H1 l)
  rw [h1] at R1
  obtain ⟨a, dx, ws, ev, fa, ha, r⟩ := id R1
  refine ⟨a, dx, ws, ev, ha, ?_⟩
  refine call_core (ds := [.ins C fs]) (vs := [v]) (Q := fun v H2 => ∃ n : Nat, v = .int n ∧ n < 2 ^ 62 ∧ Q (.int n) H2) (Q' := fun r ρ' => ∃ n : Nat, r.2 = .int n ∧ n < 2 ^ 62 ∧ ∀ (v : V) (H' : Hp) (F' : Fz) (fp' : Nat → List Addr) (l : List Addr), SI en ρ' σ H' F' fp' → Ext F H F' H' → Tmp en F' H' fp' (0, .int n) v l → Q v H') S1' ⟨v, [], rfl, R1, rfl⟩ h2 mono
    fun s v F' H' l S3 E3 T3 ⟨n, h3, h4, h5⟩ => ?_
  obtain ⟨S4, R4⟩ := T3.freeze S3
  rw [h3] at R4
  exact ⟨n, R4, h4, h5 (.int n) H' _ fp1 [] S4 ((E1'.trans E3).trans (Ext.addL F' H' l)) (Tmp.flat (d := .int n) rfl)⟩
end
end DL

/-! DLt: a list's item stored, an inner list popped, powers; the spring of draws opened. -/
namespace DL
open PySem PySem.Spec PyProof.Rows L2
variable [LamT]

section
variable {F : Fz} {H : Hp}
theorem own_flat {d : D} (f : flatD d = true) {m : Nat} {v : V} {l : List Addr} : Own F H m d v l ↔ l = [] ∧ Rep F H d v := by
  cases m with
  | zero => exact Iff.rfl
  | succ m =>
    cases d <;> first
      | exact Iff.rfl
      | exact absurd f (by simp [flatD])
theorem OwnL.setFlat {m : Nat} {d : D} {v : V} (f : flatD d = true) (r : Rep F H d v) : ∀ {ds : List D} {vs : List V} {ls : List Addr} {j : Nat} {d0 : D}, OwnL (Own F H m) ds vs ls → ds[j]? = some d0 → flatD d0 = true → OwnL (Own F H m) (ds.set j d) (vs.set j v) ls
  | [], _, _, _, _, _, h, _ => by simp at h
  | x :: ds, _, _, j, d0, ow, h, f0 => by
    obtain ⟨w, rr, l1, l2, e1, e2, h1, h2⟩ := ow
    subst e1 e2
    cases j with
    | zero =>
      have e : x = d0 := by simpa using h
      subst e
      exact ⟨v, rr, l1, l2, rfl, rfl, (own_flat f).mpr ⟨((own_flat f0).mp h1).1, r⟩, h2⟩
    | succ j => exact ⟨w, rr.set j v, l1, l2, rfl, rfl, h1, OwnL.setFlat f r (j := j) h2 (by simpa using h) f0⟩
theorem OwnL.at1 : ∀ {ds : List D} {vs : List V} {ls : List Addr} {j : Nat} {cs : List D}, OwnL (Own F H 1) ds vs ls → ls.Nodup → ds[j]? = some (.lst cs) →
    ∃ b us, vs[j]? = some (.ref b) ∧ b ∈ ls ∧ H b = some (.lst us) ∧ RepL F H cs us ∧ ∀ o cs' us', o = .lst us' → Ext F H F (upd H b o) → RepL F (upd H b o) cs' us' → OwnL (Own F (upd H b o) 1) (ds.set j (.lst cs')) vs ls
  | [], _, _, _, _, _, _, h => by simp at h
  | d :: ds, _, _, j, cs, ow, nd, h => by
    obtain ⟨v, r, l1, l2, e1, e2, h1, h2⟩ := ow
    subst e1 e2
    obtain ⟨nd1, nd2, dj⟩ := List.nodup_append.mp nd
    cases j with
    | zero =>
      have ed : d = .lst cs := by simpa using h
      subst ed
      obtain ⟨b, us, ev, hb, rl, el⟩ := own1_lst h1
      subst ev el
      refine ⟨b, us, rfl, by simp, hb, rl, fun o cs' us' eo x rl' => ?_⟩
      subst eo
      refine ⟨.ref b, r, [b], l2, rfl, rfl, mk1_lst upd_same rl', h2.imp fun d v l' hl p => p.ext x _ _ _ _ fun a ha => upd_ne fun z => ?_⟩
      exact dj b (by simp) a (hl a ha) z.symm
    | succ j =>
      obtain ⟨b, us, g1, g2, g3, g4, g5⟩ := OwnL.at1 (j := j) h2 nd2 (by simpa using h)
      refine ⟨b, us, by simpa using g1, List.mem_append_right _ g2, g3, g4, fun o cs' us' eo x rl' => ?_⟩
      refine ⟨v, r, l1, l2, rfl, rfl, h1.ext x _ _ _ _ fun a ha => upd_ne fun z => ?_, g5 o cs' us' eo x rl'⟩
      exact dj a ha b g2 z
theorem OwnL.len {P : D → V → List Addr → Prop} : ∀ {ds : List D} {vs : List V} {l : List Addr}, OwnL P ds vs l → ds.length = vs.length
  | [], _, _, h => by rw [h.1]; rfl
  | d :: ds, _, _, h => by
    obtain ⟨v, r, l1, l2, e, _, _, h2⟩ := h
    rw [e]
    simp [OwnL.len h2]
end

/-! ### x[j] = e, flat things -/
def dPutIx (i j : Nat) (te : TO) : TSd := fun A ρ => ∃ m ds d0, ρ[i]? = some (some (m + 1, .lst ds)) ∧ ds[j]? = some d0 ∧ flatD d0 = true ∧ te (frz ρ) fun s _ => flatD s.2 = true ∧ A.nx (ρ.set i (some (m + 1, .lst (ds.set j s.2))))
section
variable {X : Cx} {en : En} {e a b : Expr} {te ta tb : TO} {p ipos apos cpos pos : Pos} {x : Str} {jj : Nat}
theorem s_putIx (i j : Nat) (E : ∀ en', en'.ios = [] → PV X en' e te) (hN : X.N[i]? = some x := by rfl) (hv : Vis X.env.scope x := by first | exact Or.inl rfl | exact Or.inr (Or.inl rfl) | exact Or.inr (Or.inr rfl))
    (hs : swapsWithSole [.Subscript (.Name x p) (.Constant (.int (j : Nat)) jj ipos) apos] e pos.line X.env = pure false := by rfl) (hw : swappedStores [.Subscript (.Name x p) (.Constant (.int (j : Nat)) jj ipos) apos] e X.env = pure none := by rfl)
    (h1 : (assignEach [.Subscript (.Name x p) (.Constant (.int (j : Nat)) jj ipos) apos] X.env).map (·.2) = [assign (.Subscript (.Name x p) (.Constant (.int (j : Nat)) jj ipos) apos) X.env] := by rfl)
    (ha : ∀ v, assign (.Subscript (.Name x p) (.Constant (.int (j : Nat)) jj ipos) apos) X.env v = (do
      let ov ← holding [v] (eval (.Name x p) X.env)
      let iv ← holding [v, ov] (eval (.Constant (.int (j : Nat)) jj ipos) X.env)
      standAt apos
      holding [v, ov, iv] (setItem ov iv v)
      release [v, ov, iv] []) := by intro _; rfl)
    (hd : (x == ("__debug__" : Str)) = false := by decide) (hcd : (x == ("__classdict__" : Str)) = false := by decide) : PSd X en (.Assign [.Subscript (.Name x p) (.Constant (.int (j : Nat)) jj ipos) apos] e pos) (dPutIx i j te) := by
  have me : MonoD te := (E ⟨fun _ => False, fun _ => none, fun _ => False, fun _ => False, []⟩ rfl).mono
  refine ⟨(ps_asg (pe_look (en := en) E) (pg_sub (pe_var hN hv hd hcd) pe_int set_list ha) hs hw h1).imp fun B σ H h => ?_, fun A B ρ L ⟨m, ds, d0, g1, g2, g3, h⟩ => ⟨m, ds, d0, g1, g2, g3, me _ _ _ (fun s ρ1 ⟨f, h⟩ => ⟨f, L.nx _ h⟩) h⟩⟩
  obtain ⟨A, ρ, F, fp, L, S0, m, ds, d0, g1, g2, g3, h⟩ := h
  have S := S0.clip
  have hz := S0.liv
  obtain ⟨v, ev, ow⟩ := S.sl i _ _ g1
  refine ⟨ρ, F, _, S, hz, me _ _ _ (fun s ρ1 ⟨f, h⟩ => ⟨f, fun y H1 F1 S1 E1 k1 R1 => ?_⟩) h⟩
  have ow1 : Own F1 H1 (m + 1) (.lst ds) v (clip ρ fp i) := ow.ext E1 _ _ _ _ fun a ha => k1 i a ha
  obtain ⟨a, vs, ls, ea, ha', hl, hfp⟩ := ow1
  subst ea
  have hlt : j < vs.length := by rw [← hl.len]; exact (List.getElem?_eq_some_iff.mp g2).1
  have nd := S.nd i
  rw [hfp] at nd
  have ha2 : a ∈ clip ρ fp i := by rw [hfp]; simp
  have x : Ext F1 H1 F1 (upd H1 a (.lst (vs.set j y))) := .of (fun _ h => h) fun c hc => upd_ne fun e => S1.nF i a ha2 (e ▸ hc)
  have hl2 : OwnL (Own F1 (upd H1 a (.lst (vs.set j y))) m) (ds.set j s.2) (vs.set j y) ls := (hl.setFlat f R1 g2 g3).imp fun d v l' hl' p => p.ext x _ _ _ _ fun c hc => upd_ne fun z => (List.nodup_cons.mp nd).1 (z ▸ hl' c hc)
  obtain ⟨S3, E3⟩ := S1.mut (a := a) (o := .lst (vs.set j y)) (n := m + 1) (n' := m + 1) (d := .lst ds) (d' := .lst (ds.set j s.2)) ev ha2 (by rw [hfp]; exact ⟨a, _, ls, rfl, upd_same, hl2, rfl⟩)
  refine ⟨.ref a, ev, a, vs, (j : Nat), j, rfl, rfl, ha', ?_, L.nx _ _ ⟨_, F1, _, S3, E1.trans E3, h⟩⟩
  show ixN vs.length ((j : Nat) : Int) = some j
  unfold ixN
  simp [hlt]

/-! ### x[j].pop(0) -/
def dPopIx (i j : Nat) : TO := fun ρ Q => ∃ ds d cs, ρ[i]? = some (some (2, .lst ds)) ∧ ds[j]? = some (.lst (d :: cs)) ∧ Q (0, d) (ρ.set i (some (2, .lst (ds.set j (.lst cs)))))
theorem v_popIx {p0 : Pos} {j0 : Nat} (i j : Nat) (hN : X.N[i]? = some x := by rfl) (hv : Vis X.env.scope x := by first | exact Or.inl rfl | exact Or.inr (Or.inl rfl) | exact Or.inr (Or.inr rfl)) (hs' : PlainIx (.Constant (.int (j : Nat)) jj ipos) := by intro _ _; rfl)
    (hbase : attributeBase (.Subscript (.Name x p) (.Constant (.int (j : Nat)) jj ipos) pos) "pop" X.env (eval (.Subscript (.Name x p) (.Constant (.int (j : Nat)) jj ipos) pos) X.env) = eval (.Subscript (.Name x p) (.Constant (.int (j : Nat)) jj ipos) pos) X.env := by rfl)
    (hfew : ((backTo cpos (starEach [.Constant (.int 0) j0 p0] X.env)).all (fun x => !x.1) && (backToKw cpos (keywordEach [] X.env)).all (fun x => x.1.isSome)
      && decide ([Expr.Constant (.int 0) j0 p0].length + ([] : List Keyword).length + (if ([] : List Keyword).isEmpty then 0 else 1) < 30)) = true := by rfl)
    (hline : (apos.endLine == cpos.line) = true := by rfl) (hs : starEach [.Constant (.int 0) j0 p0] X.env = (false, eval (.Constant (.int 0) j0 p0) X.env) :: starEach [] X.env := by rfl) (hplain : (backTo cpos (starEach [] X.env)).any (·.1) = false := by rfl)
    (hd : (x == ("__debug__" : Str)) = false := by decide) (hcd : (x == ("__classdict__" : Str)) = false := by decide) : PV X en (.Call (.Attribute (.Subscript (.Name x p) (.Constant (.int (j : Nat)) jj ipos) pos) "pop" apos) [.Constant (.int 0) j0 p0] [] cpos) (dPopIx i j) := by
  refine ⟨(pe_bm PySem.F.plainAttrs_list PySem.F.slot_list_pop PySem.F.type_list_pop mt_popAt (pe_ix ix_list (pe_var hN hv hd hcd) pe_int hs') (pa_cons pe_int pa_nil hs) hbase hfew hline hs hplain).imp fun σ H Q h => ?_, fun ρ Q Q' kk ⟨ds, d, cs, h1, h2, h3⟩ => ⟨ds, d, cs, h1, h2, kk _ _ h3⟩⟩
  obtain ⟨ρ, F, fp, S, ds, d, cs, g1, g2, h⟩ := h
  obtain ⟨v, ev, ow⟩ := S.sl i _ _ g1
  obtain ⟨a, vs, ls, ea, ha, hl, hfp⟩ := ow
  subst ea
  have nd := S.nd i
  rw [hfp] at nd
  obtain ⟨b, us, w1, w2, w3, w4, w5⟩ := OwnL.at1 (j := j) hl (List.nodup_cons.mp nd).2 g2
  have hlt : j < vs.length := by rw [← OwnL.len hl]; exact (List.getElem?_eq_some_iff.mp g2).1
  obtain ⟨u, us', eu, ru, rl⟩ := w4
  subst eu
  have hb : b ∈ fp i := by rw [hfp]; exact List.mem_cons_of_mem _ w2
  have x : Ext F H F (upd H b (.lst us')) := .of (fun _ h => h) fun c hc => upd_ne fun e => S.nF i b hb (e ▸ hc)
  have nab : a ≠ b := fun e => (List.nodup_cons.mp nd).1 (e ▸ w2)
  obtain ⟨S3, E3⟩ := S.mut (a := b) (o := .lst us') (n := 2) (n' := 2) (d := .lst ds) (d' := .lst (ds.set j (.lst cs))) ev hb (by
    rw [hfp]
    exact ⟨a, vs, ls, rfl, by rw [upd_ne nab]; exact ha, w5 _ _ _ rfl x (RepL.ext x _ _ rl), rfl⟩)
  have hix : atI vs ((j : Nat) : Int) = some (.ref b) := by
    unfold atI ixN
    simp [hlt]
    rw [List.getElem?_eq_getElem hlt] at w1
    exact Option.some.inj w1
  refine ⟨.ref a, ev, a, vs, (j : Nat), .ref b, rfl, rfl, SqL.of ha, hix, .inl ⟨rfl, _, SqL.of w3⟩, b, u :: us', 0, 0, u, rfl, rfl, w3, by omega, by omega, ?_, rfl, ?_⟩
  · show seqIndex? 0 (u :: us').length = some 0
    unfold seqIndex?
    simp
  · exact h u _ F fp [] S3 E3 (Tmp.flat (ru.ext x))

/-! ### a ** b -/
abbrev wPow : W2 := wI CPow fun i j => .int (i ^ j.toNat)
theorem v_pow (A : PV X en a ta) (B : PV X en b tb) : PV X en (.BinOp a .Pow b pos) (dB wPow ta tb) := ⟨(pe_op op_pow A.run B.run).imp fun σ H Q h => lift_two A B (fits_I (g := fun i j => .int (i ^ j.toNat)) fun _ _ _ _ => rfl) h, mono_B mono_I A.mono B.mono⟩

/-! ### the spring, opened -/
def sprD (is : List Int) (k j r : Int) : D := .lst [.lst (is.map D.int), .int k, .int j, .int r]
def dView (i : Nat) (t : TSd) : TSd := fun A ρ => ∃ m n, ρ[i]? = some (some (m + 1, .spr n)) ∧ ∀ is k j r, SprOk n is k j r →
  t { nx := fun _ => False, rt := fun s ρ' => ∃ n' is' k' j' r', ρ'[i]? = some (some (2, sprD is' k' j' r')) ∧ SprOk n' is' k' j' r' ∧ A.rt s (ρ'.set i (some (1, .spr n'))) } (ρ.set i (some (2, sprD is k j r)))
theorem repL_ints {F : Fz} {H : Hp} : ∀ (is : List Int), RepL F H (is.map D.int) (is.map V.int)
  | [] => rfl
  | x :: xs => ⟨.int x, _, rfl, rfl, repL_ints xs⟩
theorem repL_ints' {F : Fz} {H : Hp} : ∀ {is : List Int} {vs : List V}, RepL F H (is.map D.int) vs → vs = is.map V.int
  | [], _, h => h
  | x :: xs, _, h => by
    obtain ⟨v, r, e, h1, h2⟩ := h
    have h1 : v = .int x := h1
    rw [e, h1, repL_ints' h2]
    rfl
theorem spr_open {F : Fz} {H : Hp} {m n : Nat} {v : V} {l : List Addr} (h : Own F H (m + 1) (.spr n) v l) : ∃ is k j r, SprOk n is k j r ∧ Own F H 2 (sprD is k j r) v l := by
  obtain ⟨a, b, is, i, j, r, e, h1, h2, h3, el⟩ := h
  subst e el
  exact ⟨is, i, j, r, h3, a, _, [b], rfl, h1, ⟨.ref b, _, [b], [], rfl, rfl, mk1_lst h2 (repL_ints is), .int i, _, [], [], rfl, rfl, ⟨rfl, rfl⟩, .int j, _, [], [], rfl, rfl, ⟨rfl, rfl⟩, .int r, _, [], [], rfl, rfl, ⟨rfl, rfl⟩, rfl, rfl⟩, rfl⟩
theorem spr_close {F : Fz} {H : Hp} {n : Nat} {is : List Int} {k j r : Int} {v : V} {l : List Addr} (ok : SprOk n is k j r) (h : Own F H 2 (sprD is k j r) v l) : Own F H 1 (.spr n) v l := by
  obtain ⟨a, vs, ls, e, ha, hl, el⟩ := h
  obtain ⟨v1, r1, l1, l1', e1, f1, o1, hl⟩ := hl
  obtain ⟨v2, r2, l2, l2', e2, f2, o2, hl⟩ := hl
  obtain ⟨v3, r3, l3, l3', e3, f3, o3, hl⟩ := hl
  obtain ⟨v4, r4, l4, l4', e4, f4, o4, hl⟩ := hl
  obtain ⟨b, us, eb, hb, rl, el1⟩ := own1_lst o1
  have q2 : l2 = [] ∧ v2 = .int k := o2
  have q3 : l3 = [] ∧ v3 = .int j := o3
  have q4 : l4 = [] ∧ v4 = .int r := o4
  have q5 : r4 = [] ∧ l4' = [] := hl
  subst e
  refine ⟨a, b, is, k, j, r, rfl, ?_, ?_, ok, ?_⟩
  · rw [ha, e1, eb, e2, q2.2, e3, q3.2, e4, q4.2, q5.1]
  · rw [hb, repL_ints' rl]
  · rw [el, f1, el1, f2, q2.1, f3, q3.1, f4, q4.1, q5.2]
    rfl
theorem SI.recast {en : En} {ρ : DSt} {σ : St} {H : Hp} {F : Fz} {fp : Nat → List Addr} {i n n' : Nat} {d d' : D} (S : SI en ρ σ H F fp) (hi : ρ[i]? = some (some (n, d))) (h : ∀ v, Own F H n d v (fp i) → Own F H n' d' v (fp i)) : SI en (ρ.set i (some (n', d'))) σ H F fp where
  toSince := S.toSince
  sl := fun j m e q => by
    by_cases hji : j = i
    · subst hji
      have hlt : j < ρ.length := (List.getElem?_eq_some_iff.mp hi).1
      rw [List.getElem?_set_self hlt] at q
      cases q
      obtain ⟨v, e1, ow⟩ := S.sl j _ _ hi
      exact ⟨v, e1, h v ow⟩
    · rw [List.getElem?_set_ne (Ne.symm hji)] at q
      exact S.sl j m e q
  nd := S.nd
  dj := S.dj
  nF := S.nF
  tf := S.tf
  own := S.own
  io := S.io
  len := by rw [List.length_set]; exact S.len
  pinF := S.pinF
theorem ss_spr {X : Cx} {en : En} {body : List Stmt} {t : TSd} (i : Nat) (B : PSsd X en body t) : PSsd X en body (dView i t) := by
  refine ⟨B.run.imp fun D σ H h => ?_, fun A B' ρ L ⟨m, n, g, h⟩ => ⟨m, n, g, fun is k j r ok => ?_⟩⟩
  rotate_left
  · have q := h is k j r ok
    revert q
    refine B.mono _ _ _ ⟨fun _ h => h, fun s ρ' ⟨n', is', k', j', r', h1, h2, h3⟩ => ⟨n', is', k', j', r', h1, h2, L.rt _ _ h3⟩, fun _ h => h, fun _ h => h⟩
  obtain ⟨A, ρ, F, fp, L, S, m, n, g, h⟩ := h
  obtain ⟨v, ev, ow⟩ := S.sl i _ _ g
  obtain ⟨is, k, j, r, ok, ow2⟩ := spr_open ow
  have S2 : SI en (ρ.set i (some (2, sprD is k j r))) σ H F fp := S.recast g fun v' ow' => by
    obtain ⟨w, e1, ow3⟩ := S.sl i _ _ g
    have ee : v' = v := by
      obtain ⟨a', _, _, _, _, _, e', _, _, _, el'⟩ := ow'
      obtain ⟨a, _, _, _, _, _, e, _, _, _, el⟩ := ow
      rw [el] at el'
      rw [e, e']
      congr 1
      exact (List.cons.inj el').1.symm
    rw [ee]
    exact ow2
  refine ⟨_, _, F, fp, ⟨fun σ' H' ⟨_, _, _, _, _, z⟩ => z.elim, fun v' H' hr => ?_, fun σ' H' ⟨_, _, _, _, _, z⟩ => z.elim, fun σ' H' ⟨_, _, _, _, _, z⟩ => z.elim⟩, S2, h is k j r ok⟩
  obtain ⟨ρ', σ', F', fp', s, l, S', T, n', is', k', j', r', h1, h2, h3⟩ := hr
  exact L.rt _ _ ⟨_, σ', F', fp', s, l, S'.recast h1 fun v ow => spr_close h2 ow, T, h3⟩
end
end DL

/-! DLu: what is never reached; an owned thing's item; is of bools; targets of any form; three at once. -/
namespace DL
open PySem PySem.Spec PyProof.Rows L2
variable [LamT]

section
variable {X : Cx} {en : En} {e tg k a b c : Expr} {st : Stmt} {te tk ta tb tc : TO} {g : TGd} {sl : List Nat} {pos p : Pos}
def dNever : TSd := fun _ _ => False
theorem s_never : PSd X en st dNever := ⟨⟨fun _ _ _ _ _ _ ⟨_, _, _, _, _, _, h⟩ => h.elim⟩, fun _ _ _ _ h => h⟩
def vNever : TO := fun _ _ => False
theorem v_never : PV X en e vNever := ⟨⟨fun _ _ _ _ _ _ ⟨_, _, _, _, h⟩ => h.elim⟩, fun _ _ _ _ h => h⟩

/-! ### tg = e, e frozen -/
def dAsg (te : TO) (g : TGd) : TSd := fun A ρ => te ρ fun s ρ1 => g s.2 ρ1 A.nx
theorem s_asg (E : PV X en e te) (G : PGd X en tg sl g) (hs : swapsWithSole [tg] e pos.line X.env = pure false := by rfl) (hw : swappedStores [tg] e X.env = pure none := by rfl)
    (h1 : (assignEach [tg] X.env).map (·.2) = [assign tg X.env] := by rfl) : PSd X en (.Assign [tg] e pos) (dAsg te g) := by
  refine ⟨(ps_asg E.run G.run hs hw h1).imp fun D σ H h => ?_, fun A B ρ L h => E.mono _ _ _ (fun s ρ1 h => G.mono _ _ _ _ (fun _ h => L.nx _ h) h) h⟩
  obtain ⟨A, ρ, F, fp, L, S, h⟩ := h
  refine ⟨ρ, F, fp, S, E.mono _ _ _ (fun s ρ1 h v H1 F1 fp1 l S1 E1 T1 => ?_) h⟩
  obtain ⟨S1', R1⟩ := T1.freeze S1
  have E1' := E1.trans (Ext.addL F1 H1 l)
  exact ⟨s.2, ρ1, _, fp1, S1', R1, G.mono _ _ _ _ (fun ρ2 h σ2 fp2 S2 _ => L.nx _ _ ⟨ρ2, _, fp2, S2, E1', h⟩) h⟩

/-! ### x[k] of what x owns: the item, x as it was -/
def itemD : D → D → Option D
  | .lst xs, .int i => atI xs i
  | .dic kvs, y => (keyD y).bind (valD kvs)
  | _, _ => none
def dIxO (i : Nat) (tk : TO) : TO := fun ρ Q => ∃ t, ρ[i]? = some (some (1, t)) ∧ tk (frz ρ) fun sk _ => flatD sk.2 = true ∧ ∃ d, itemD t sk.2 = some d ∧ Q (0, d) ρ
theorem v_ixO (i : Nat) {x : Str} (hu : X.A.units + 1 < cLine) (Kk : ∀ en', en'.ios = [] → PV X en' k tk) (hN : X.N[i]? = some x := by rfl) (hv : Vis X.env.scope x := by first | exact Or.inl rfl | exact Or.inr (Or.inl rfl) | exact Or.inr (Or.inr rfl)) (hs : PlainIx k := by intro _ _; rfl)
    (hd : (x == ("__debug__" : Str)) = false := by decide) (hcd : (x == ("__classdict__" : Str)) = false := by decide) : PV X en (.Subscript (.Name x p) k pos) (dIxO i tk) := by
  have mk : MonoD tk := (Kk ⟨fun _ => False, fun _ => none, fun _ => False, fun _ => False, []⟩ rfl).mono
  refine ⟨(pe_ix (ix_seq.or (ix_dict hu)) (pe_var hN hv hd hcd) (pe_look (en := en) Kk) hs).imp fun σ H Q h => ?_, fun ρ Q Q' kk ⟨t, h0, h⟩ => ⟨t, h0, mk _ _ _ (fun s ρ1 ⟨f, d, h1, h3⟩ => ⟨f, d, h1, kk _ _ h3⟩) h⟩⟩
  obtain ⟨ρ, F, fp, S0, t, g, h⟩ := h
  have S := S0.clip
  have hz := S0.liv
  obtain ⟨v, ev, ow⟩ := S.sl i _ _ g
  refine ⟨v, ev, ρ, F, _, S, hz, mk _ _ _ (fun sk ρ1 ⟨f, d, h1, h3⟩ => ⟨f, fun y H1 F1 S1 E1 k1 R1 => ?_⟩) h⟩
  have ow1 : Own F1 H1 1 t v (clip ρ fp i) := ow.ext E1 _ _ _ _ fun a ha => k1 i a ha
  cases t with
  | lst xs =>
    obtain ⟨a, vs, ea, ha, r, _⟩ := own1_lst ow1
    obtain ⟨j, ej⟩ : ∃ j, sk.2 = .int j := by
      cases e : sk.2 with
      | int j => exact ⟨j, rfl⟩
      | _ => rw [e] at h1; cases h1
    rw [ej] at h1 R1
    have h1 : atI xs j = some d := h1
    have R1 : y = .int j := R1
    obtain ⟨w, hw, rw'⟩ := atI_rep r h1
    exact .inl (.inl ⟨a, vs, j, w, ea, R1, SqL.of ha, hw, h3 w _ _ _ [] S1 E1 (Tmp.flat rw')⟩)
  | dic kvs =>
    obtain ⟨a, ws, ea, ha, r, _⟩ := own1_dic ow1
    cases e : keyD sk.2 with
    | none =>
      have h1 : (keyD sk.2).bind (valD kvs) = some d := h1
      rw [e] at h1
      cases h1
    | some q =>
      have h1 : (keyD sk.2).bind (valD kvs) = some d := h1
      rw [e] at h1
      have h1 : valD kvs q = some d := h1
      have hv := r.val q
      rcases hv with ⟨e1, e2⟩ | ⟨d', w, e1, e2, rw'⟩
      · rw [h1] at e1; cases e1
      · rw [h1] at e1
        cases e1
        exact .inr ⟨a, w, ea, .inl ⟨ws, q, .inl ha, keyD_rep e R1, e2.symm⟩, h3 w _ _ _ [] S1 E1 (Tmp.flat rw')⟩
  | _ => cases h1

/-! ### is, is not of bools -/
theorem v_isBl (A : PV X en a ta) (B : PV X en b tb) : PV X en (.Compare a [.Is] [b] pos) (dB (wIsB false) ta tb) := ⟨(pe_cmpR op_isBl A.run B.run (nomark _)).imp fun σ H Q h => lift_two A B fits_isBl h, mono_B mono_isB A.mono B.mono⟩
theorem v_notBl (A : PV X en a ta) (B : PV X en b tb) : PV X en (.Compare a [.IsNot] [b] pos) (dB (wIsB true) ta tb) := ⟨(pe_cmpR op_notBl A.run B.run (nomark _)).imp fun σ H Q h => lift_two A B fits_notBl h, mono_B mono_isB A.mono B.mono⟩

/-! ### x, y, z = a, b, c -/
def dPar3 (i j l : Nat) (ta tb tc : TO) : TSd := fun A ρ => ta ρ fun s1 ρ1 => tb ρ1 fun s2 ρ2 => tc ρ2 fun s3 ρ3 => A.nx (((ρ3.set i (some s1)).set j (some s2)).set l (some s3))
theorem s_par3 {i j l : Nat} {x y z : Str} {px py pz pt pt2 : Pos} {kt k2 : Nat} (A : PV X en a ta) (B : ∀ en', en'.ios = en.ios → PV X en' b tb) (C : ∀ en', en'.ios = en.ios → PV X en' c tc) (hi : i ∉ en.ios) (hj : j ∉ en.ios) (hl : l ∉ en.ios) (hij : i ≠ j) (hil : i ≠ l) (hjl : j ≠ l) (hc : X.calm = true) (hN : X.N.Nodup)
    (hxi : X.N[i]? = some x := by rfl) (hyj : X.N[j]? = some y := by rfl) (hzl : X.N[l]? = some z := by rfl)
    (hx : X.env.scope.names.lookup x = some .local := by rfl) (hy : X.env.scope.names.lookup y = some .local := by rfl) (hz : X.env.scope.names.lookup z = some .local := by rfl)
    (hw : swappedStores [.Tuple [.Name x px, .Name y py, .Name z pz] kt pt] (.Tuple [a, b, c] k2 pt2) X.env = pure (some [x, y, z]) := by rfl)
    (hs : swapsWithSole [.Tuple [.Name x px, .Name y py, .Name z pz] kt pt] (.Tuple [a, b, c] k2 pt2) pos.line X.env = pure false := by rfl)
    (h1 : starEach [a, b, c] X.env = (false, eval a X.env) :: starEach [b, c] X.env := by rfl) (h2 : starEach [b, c] X.env = (false, eval b X.env) :: starEach [c] X.env := by rfl) (h3 : starEach [c] X.env = (false, eval c X.env) :: starEach [] X.env := by rfl) :
    PSd X en (.Assign [.Tuple [.Name x px, .Name y py, .Name z pz] kt pt] (.Tuple [a, b, c] k2 pt2) pos) (dPar3 i j l ta tb tc) := by
  have mb : MonoD tb := (B en rfl).mono
  have mc : MonoD tc := (C en rfl).mono
  refine ⟨(ps_par3 hc hN hxi hyj hzl hij hil hjl hx hy hz (pa_cons A.run (pa_cons (pe_any B) (pa_cons (pe_any C) pa_nil h3) h2) h1) hw hs).imp fun D σ H h => ?_, fun A' B' ρ L h => A.mono _ _ _ (fun s1 ρ1 h => mb _ _ _ (fun s2 ρ2 h => mc _ _ _ (fun s3 ρ3 h => L.nx _ h) h) h) h⟩
  obtain ⟨A', ρ, F, fp, L, S, h⟩ := h
  refine ⟨ρ, F, fp, S, A.mono _ _ _ (fun s1 ρ1 h1 v1 H1 F1 fp1 l1 S1 E1 T1 => ?_) h⟩
  refine ⟨rb en F1 H1 fp1, rfl, ρ1, F1, fp1, S1.rebase, mb _ _ _ (fun s2 ρ2 h2 v2 H2 F2 fp2 l2 S2 E2 T2 => ?_) h1⟩
  have ap := T1.apart T2
  have T1' := T1.over S2 E2
  have T2' := Tmp.under S1 T2
  have SU := S1.unbase S2
  refine ⟨rb en F2 H2 fp2, rfl, ρ2, F2, fp2, SU.rebase, mc _ _ _ (fun s3 ρ3 h3 v3 H3 F3 fp3 l3 S3 E3 T3 => ?_) h2⟩
  have ap1 := T1'.apart T3
  have ap2 := T2'.apart T3
  have T1'' := T1'.over S3 E3
  have T2'' := T2'.over S3 E3
  have T3' := Tmp.under SU T3
  have S4 := (SU.unbase S3).store T1'' hi
  have S5 := S4.store (T2''.beside ap) hj
  have S6 := S5.store ((T3'.beside ap1).beside ap2) hl
  exact ⟨v1, v2, v3, rfl, L.nx _ _ ⟨_, F3, _, S6, (E1.trans E2).trans E3, h3⟩⟩
end
end DL

/-! DLv: fields of an owned object; the spring made; small things for the printed texts. -/
namespace DL
open PySem PySem.Spec PyProof.Rows L2
variable [LamT]

theorem own_io {en : En} {l vs : List Nat} (h : en.ios = l) (c : (vs.all fun i => !l.contains i) = true) : ∀ i ∈ vs, i ∉ en.ios := fun i hi => by
  rw [h]
  have := List.all_eq_true.mp c i hi
  simpa using this
/-! ### x.f of an object that x owns -/
def dFldO (i : Nat) (C : Addr) (f : Str) : TO := fun ρ Q => ∃ fs d, ρ[i]? = some (some (1, .ins C fs)) ∧ fs.lookup f = some d ∧ Q (0, d) ρ
section
variable {X : Cx} {en : En} {f x : Str} {C : Addr} {p q pos p1 p2 p3 : Pos}
theorem v_fldO (i : Nat) (cl : Cls X.K C) (na : NoAttr X.K C f) (hN : X.N[i]? = some x := by rfl) (hv : Vis X.env.scope x := by first | exact Or.inl rfl | exact Or.inr (Or.inl rfl) | exact Or.inr (Or.inr rfl))
    (hb : attributeBase (.Name x p) f X.env (eval (.Name x p) X.env) = eval (.Name x p) X.env := by rfl) (hd : (x == ("__debug__" : Str)) = false := by decide) (hcd : (x == ("__classdict__" : Str)) = false := by decide) :
    PV X en (.Attribute (.Name x p) f pos) (dFldO i C f) := by
  refine ⟨(pe_fld (pe_var hN hv hd hcd) hb).imp fun σ H Q h => ?_, fun ρ Q Q' kk ⟨fs, d, h1, h2, h3⟩ => ⟨fs, d, h1, h2, kk _ _ h3⟩⟩
  obtain ⟨ρ, F, fp, S, fs, d, h1, h2, h3⟩ := h
  obtain ⟨v, ev, ow⟩ := S.sl i _ _ h1
  obtain ⟨a, dx, ws, ea, ha, r, _⟩ := own1_ins ow
  obtain ⟨w, hw, rw'⟩ := r.lookup h2
  exact ⟨v, ev, a, C, dx, ws, w, ea, ha, cl, na, hw, h3 w H F fp [] S (Ext.refl _ _) (Tmp.flat rw')⟩

theorem v_globS {z : Str} (hm : ∃ t, X.mg x = some (.str z t)) (hg : Gl X x := by rfl) (hd : (x == ("__debug__" : Str)) = false := by decide) : PV X en (.Name x pos) (dC (.str z)) := by
  obtain ⟨t, hm⟩ := hm
  exact v_const (pe_glob (v := .str z) hg hm ⟨t, rfl⟩ hd) fun _ _ => rfl
/-! ### return [list(x), 0, 0, 11] : a spring -/
def dStart (K : PySem.W.Frag) (i : Nat) : TSd := fun A ρ => ∃ is : List Int, ρ[i]? = some (some (0, .scr K is)) ∧ (∀ x ∈ is, x.natAbs < bigB) ∧ is.length ≤ 63 ∧ A.rt (1, .spr 1000000) ρ
theorem s_start (i : Nat) {j1 j2 j3 : Nat} {q1 q2 q3 q4 q5 : Pos} (hm : X.mg "list" = none) (hg : Gl X "list" := by rfl) (hN : X.N[i]? = some x := by rfl) (hv : Vis X.env.scope x := by first | exact Or.inl rfl | exact Or.inr (Or.inl rfl) | exact Or.inr (Or.inr rfl))
    (hs0 : starEach [.Name x p1] X.env = (false, eval (.Name x p1) X.env) :: starEach [] X.env := by rfl)
    (hs1 : starEach [.Call (.Name "list" p) [.Name x p1] [] p2, .Constant (.int 0) j1 q1, .Constant (.int 0) j2 q2, .Constant (.int 11) j3 q3] X.env = (false, eval (.Call (.Name "list" p) [.Name x p1] [] p2) X.env) :: starEach [.Constant (.int 0) j1 q1, .Constant (.int 0) j2 q2, .Constant (.int 11) j3 q3] X.env := by rfl)
    (hs2 : starEach [.Constant (.int 0) j1 q1, .Constant (.int 0) j2 q2, .Constant (.int 11) j3 q3] X.env = (false, eval (.Constant (.int 0) j1 q1) X.env) :: starEach [.Constant (.int 0) j2 q2, .Constant (.int 11) j3 q3] X.env := by rfl)
    (hs3 : starEach [.Constant (.int 0) j2 q2, .Constant (.int 11) j3 q3] X.env = (false, eval (.Constant (.int 0) j2 q2) X.env) :: starEach [.Constant (.int 11) j3 q3] X.env := by rfl)
    (hs4 : starEach [.Constant (.int 11) j3 q3] X.env = (false, eval (.Constant (.int 11) j3 q3) X.env) :: starEach [] X.env := by rfl)
    (hpl : (backTo p2 (starEach [] X.env)).any (·.1) = false := by rfl)
    (hd : (x == ("__debug__" : Str)) = false := by decide) (hcd : (x == ("__classdict__" : Str)) = false := by decide) :
    PSd X en (.Return (some (.List [.Call (.Name "list" p) [.Name x p1] [] p2, .Constant (.int 0) j1 q1, .Constant (.int 0) j2 q2, .Constant (.int 11) j3 q3] q4)) q5) (dStart X.K i) := by
  refine ⟨(ps_ret (pe_lst (pa_cons (pe_callTy call_list_of hg hm boot_list (pa_cons (pe_var hN hv hd hcd) pa_nil hs0) (by decide) (by decide) hs0 hpl) (pa_cons pe_int (pa_cons pe_int (pa_cons pe_int pa_nil hs4) hs3) hs2) hs1))).imp fun D σ H h => ?_, fun A B ρ L ⟨is, h1, h2, h3, h4⟩ => ⟨is, h1, h2, h3, L.rt _ _ h4⟩⟩
  obtain ⟨A, ρ, F, fp, L, S, is, h1, h2, h3, h4⟩ := h
  obtain ⟨v, ev, ow⟩ := S.sl i _ _ h1
  obtain ⟨el, a, ea, ha⟩ := ow
  subst ea
  refine ⟨.ref a, ev, a, is.map V.int, rfl, .inl ha.sql, fun l hl => ?_⟩
  refine ⟨by show 4 ≤ sizeLine; rw [sizeLine_eq]; omega, fun p hp => ?_⟩
  obtain ⟨S1, E1⟩ := S.newO (o := .lst (is.map V.int)) hl
  obtain ⟨S2, E2⟩ := S1.newO (o := .lst [.ref l, .int 0, .int 0, .int 11]) hp
  have fl := S.free hl
  have fp' := S1.free hp
  have npl : p ≠ l := fun e => by rw [e, upd_same] at hp; cases hp
  have hl2 : upd (upd H l (.lst (is.map V.int))) p (.lst [.ref l, .int 0, .int 0, .int 11]) l = some (.lst (is.map V.int)) := by rw [upd_ne (Ne.symm npl), upd_same]
  refine L.rt _ _ ⟨ρ, σ, F, fp, (1, .spr 1000000), [p, l], S2, ⟨⟨p, l, is, 0, 0, 11, rfl, upd_same, hl2, ⟨h2, h3, by omega, by unfold bigB; exact Nat.pos_of_ne_zero (by simp), by omega, by omega, by omega, by omega⟩, rfl⟩, by simp [npl], fun c hc => ?_⟩, h4⟩
  have hc' : c = p ∨ c = l := by simpa using hc
  rcases hc' with e | e
  · subst e
    exact ⟨fp'.2.1, by rw [upd_same]; simp, fp'.1, fun z => S.pH _ z fp'.1, fp'.2.2.1⟩
  · subst e
    exact ⟨fl.2.1, by rw [hl2]; simp, fl.1, fun z => S.pH _ z fl.1, fl.2.2.1⟩
end
end DL

/-! DLw: comparisons as tests. -/
namespace DL
open PySem PySem.Spec PyProof.Rows L2
variable [LamT]

section
variable {X : Cx} {en : En} {a b c e : Expr} {ta tb tc : TO} {pos : Pos} {op : CmpOp} {r : R2} {g : W2}
theorem mono_T (A : MonoD ta) : MonoD (dT ta) := fun ρ Q Q' k h => A _ _ _ (fun s ρ' ⟨b, h1, h2⟩ => ⟨b, h1, k _ _ h2⟩) h
theorem lift_T {σ : St} {H : Hp} {Q : Bool → Hp → Prop} {t : TO} (A : MonoD t) (h : liftB en (dT t) σ H Q) : lift en t σ H fun x H1 => ∃ d, x = .bl d ∧ Q d H1 := by
  obtain ⟨ρ, F, fp, S, q⟩ := h
  refine ⟨ρ, F, fp, S, A _ _ _ (fun s ρ1 ⟨b, h1, h2⟩ v H1 F1 fp1 l S1 E1 T1 => ?_) q⟩
  obtain ⟨S1', R1⟩ := T1.freeze S1
  rw [h1] at R1
  exact ⟨b, R1, h2 H1 _ fp1 S1' (E1.trans (Ext.addL _ _ _))⟩
theorem t_cmpR (ho : OpR X (compareOp op) r) (hf : Fits2 r g) (hg : Mono2 g) (A : PV X en a ta) (B : PV X en b tb) (hm : behindInMarks op b = false) : PB X en (.Compare a [op] [b] pos) (dT (dB g ta tb)) :=
  ⟨(pt_cmpR ho A.run B.run hm).imp fun σ H Q h => lift_two A B hf (lift_T (mono_B hg A.mono B.mono) h), mono_T (mono_B hg A.mono B.mono)⟩
theorem t_lt (A : PV X en a ta) (B : PV X en b tb) : PB X en (.Compare a [.Lt] [b] pos) (dT (dB wLt ta tb)) := t_cmpR (OpR.or op_lt op_lt_str) (fits_ord (pi := fun i j => decide (i < j)) (ps := ltS)) mono_ord A B (nomark _)
theorem t_le (A : PV X en a ta) (B : PV X en b tb) : PB X en (.Compare a [.LtE] [b] pos) (dT (dB wLe ta tb)) := t_cmpR (OpR.or op_le op_le_str) (fits_ord (pi := fun i j => decide (i ≤ j)) (ps := fun i j => !ltS j i)) mono_ord A B (nomark _)
theorem t_gt (A : PV X en a ta) (B : PV X en b tb) : PB X en (.Compare a [.Gt] [b] pos) (dT (dB wGt ta tb)) := t_cmpR (OpR.or op_gt op_gt_str) (fits_ord (pi := fun i j => decide (j < i)) (ps := fun i j => ltS j i)) mono_ord A B (nomark _)
theorem t_ge (A : PV X en a ta) (B : PV X en b tb) : PB X en (.Compare a [.GtE] [b] pos) (dT (dB wGe ta tb)) := t_cmpR (OpR.or op_ge op_ge_str) (fits_ord (pi := fun i j => decide (j ≤ i)) (ps := fun i j => !ltS i j)) mono_ord A B (nomark _)
theorem t_eq (hu : X.A.units + 64 < cLine) (A : PV X en a ta) (B : PV X en b tb) : PB X en (.Compare a [.Eq] [b] pos) (dT (dB wEq ta tb)) := t_cmpR (op_eqAll hu) fits_eq mono_eq A B (nomark _)
theorem t_ne (hu : X.A.units + 64 < cLine) (A : PV X en a ta) (B : PV X en b tb) : PB X en (.Compare a [.NotEq] [b] pos) (dT (dB wNe ta tb)) := t_cmpR (op_neAll hu) fits_eq mono_eq A B (nomark _)
theorem t_in (hu : X.A.units + 65 < cLine) (A : PV X en a ta) (B : PV X en b tb) (hb : behindInMarks .In b = false := by rfl) : PB X en (.Compare a [.In] [b] pos) (dT (dB wIn ta tb)) := t_cmpR (op_inAll hu) fits_in mono_in A B hb
theorem t_notIn (hu : X.A.units + 65 < cLine) (A : PV X en a ta) (B : PV X en b tb) (hb : behindInMarks .NotIn b = false := by rfl) : PB X en (.Compare a [.NotIn] [b] pos) (dT (dB wNotIn ta tb)) := t_cmpR (op_notInAll hu) fits_in mono_in A B hb
theorem t_isBl (A : PV X en a ta) (B : PV X en b tb) : PB X en (.Compare a [.Is] [b] pos) (dT (dB (wIsB false) ta tb)) := t_cmpR op_isBl fits_isBl mono_isB A B (nomark _)
theorem t_notBl (A : PV X en a ta) (B : PV X en b tb) : PB X en (.Compare a [.IsNot] [b] pos) (dT (dB (wIsB true) ta tb)) := t_cmpR op_notBl fits_notBl mono_isB A B (nomark _)
theorem mono_isN {n : Bool} : Mono1 (wIsN n) := fun x k k' f ⟨b, h1, h⟩ => ⟨b, h1, f _ h⟩
theorem t_isN {j pos'} (A : PV X en a ta) : PB X en (.Compare a [.Is] [.Constant .none j pos'] pos) (dT (dU (wIsN false) ta)) :=
  ⟨(pt_cmp (pc_isN A.run)).imp fun σ H Q h => lift_one (r := fun x H1 Q => Q (.bl (decide (x = .non))) H1) A (fun x v F H Q k tr rx ⟨b, h1, h⟩ q => by
    show Q (V.bl (decide (v = .non))) H
    rw [isNon_rep h1 rx]
    exact q _ _ _ _ _ h (.same (by simp [Rep]))) (lift_T (mono_U mono_isN A.mono) h), mono_T (mono_U mono_isN A.mono)⟩
theorem t_notN {j pos'} (A : PV X en a ta) : PB X en (.Compare a [.IsNot] [.Constant .none j pos'] pos) (dT (dU (wIsN true) ta)) :=
  ⟨(pt_cmp (pc_notN A.run)).imp fun σ H Q h => lift_one (r := fun x H1 Q => Q (.bl (!decide (x = .non))) H1) A (fun x v F H Q k tr rx ⟨b, h1, h⟩ q => by
    show Q (V.bl (!decide (v = .non))) H
    rw [isNon_rep h1 rx]
    exact q _ _ _ _ _ h (.same (by simp [Rep]))) (lift_T (mono_U mono_isN A.mono) h), mono_T (mono_U mono_isN A.mono)⟩
theorem t_chain {op op' : CmpOp} {r r' : R2} {g g' : W2} (ho : OpR X (compareOp op) r) (ho' : OpR X (compareOp op') r') (A : PV X en a ta) (B : PV X en b tb) (C : PV X en c tc) (hr : Fits2 r g) (hr' : Fits2 r' g') (hg : Mono2 g) (hg' : Mono2 g')
    (hm : lastMarks [op, op'] [b, c] = false := by with_unfolding_all rfl) : PB X en (.Compare a [op, op'] [b, c] pos) (dT (dChain g g' ta tb tc)) :=
  ⟨(pt_chain ho ho' A.run B.run C.run hm).imp fun σ H Q h => lift_chain A B C hr hr' (lift_T (mono_chain A.mono B.mono C.mono hg hg') h), mono_T (mono_chain A.mono B.mono C.mono hg hg')⟩
end
/-! ### a comprehension's block, looked at -/
def blkB (N : List Str) (sc scope : Scope) (own : List (Str × Nat)) : Bool :=
  decide (∀ y ∈ scope.names, scope.names.lookup y.1 = some y.2) && (decide (∀ p ∈ own, N[p.2]? = some p.1) && (decide (∀ y ∈ scope.names, y.2 = .free → sc.names.lookup y.1 = some .cell ∨ sc.names.lookup y.1 = some .free) &&
    decide (∀ y ∈ scope.names, y.2 = .local ∨ y.2 = .cell → y.1 ∈ own.map (·.1) ∨ y.1 ∉ N)))
theorem blk_of {N : List Str} {sc scope : Scope} {own : List (Str × Nat)} (hk : scope.kind = .function) (h : blkB N sc scope own = true) : BlkOk N sc scope own := by
  unfold blkB at h
  simp only [Bool.and_eq_true, decide_eq_true_eq] at h
  exact ⟨hk, h.1, h.2.1, h.2.2.1, h.2.2.2⟩
/-! ### name = [..] on one line, the name a local -/
section
variable {X : Cx} {en : En} {tg iter elt : Expr} {ifs : List Expr} {ti : TDs} {g : TGd} {tt : TB} {te : TO} {sl : List Nat} {scope : Scope} {own : List (Str × Nat)} {pos spos : Pos}
theorem s_setLc (i : Nat) {y : Str} {py : Pos} (hio : i ∉ en.ios) (hc : X.calm = true) (hN : X.N.Nodup) (I : PId X en tg iter ti) (ok : BlkOk X.N X.env.scope scope own) (hsl : ∀ i ∈ sl, i ∈ own.map (·.2)) (hv : ∀ i ∈ own.map (·.2), i ∉ en.ios)
    (hg : ∀ (s : Shared) (H : Hp) (C : Addr) (cl : List (Str × Addr)) (fp : List Addr) (en' : En), en'.ios = en.ios → PGd (X.blk s H scope (compEnvC scope cl C X.env) fp) en' tg sl g)
    (ht : ∀ (s : Shared) (H : Hp) (C : Addr) (cl : List (Str × Addr)) (fp : List Addr) (en' : En), en'.ios = en.ios → PBs (X.blk s H scope (compEnvC scope cl C X.env) fp) en' ifs tt)
    (he : ∀ (s : Shared) (H : Hp) (C : Addr) (cl : List (Str × Addr)) (fp : List Addr) (en' : En), en'.ios = en.ios → PV (X.blk s H scope (compEnvC scope cl C X.env) fp) en' elt te)
    (hy : X.N[i]? = some y := by rfl) (hyl : X.env.scope.names.lookup y = some .local := by rfl) (hsw : swapsWith (.ListComp elt [⟨tg, iter, ifs, 0⟩] scope pos) (some (.Name y py)) spos.line X.env = pure true := by exact sw_true rfl rfl rfl rfl)
    (hs : ∀ x, foldedSetIterable iter X.env x = pure x := by intro _; rfl) : PSd X en (.Assign [.Name y py] (.ListComp elt [⟨tg, iter, ifs, 0⟩] scope pos) spos) (dSet i (dLc (own.map (·.2)) ti g tt te)) := by
  have mg : MonoG g := (hg {} (fun _ => none) 0 [] [] en rfl).mono
  have mt : MonoD tt := (ht {} (fun _ => none) 0 [] [] en rfl).mono
  have me : MonoD te := (he {} (fun _ => none) 0 [] [] en rfl).mono
  have mm := mono_lc (vs := own.map (·.2)) I.mono mg mt me
  refine ⟨(ps_setLc hc hN hy hyl hsw I.run ok (fun s H C cl fp => pg_any (hg s H C cl fp)) (fun s H C cl fp => pts_any (ht s H C cl fp)) (fun s H C cl fp => pe_any (he s H C cl fp)) hs).imp fun B σ H h => ?_, fun A B ρ L h => mm _ _ _ (fun s ρ' h => L.nx _ h) h⟩
  refine lc_read (Q := fun x H1 => gName i x σ H1 B.nx) I.mono mg mt me hsl hv ?_
  obtain ⟨A, ρ, F, fp, L, S, h⟩ := h
  exact ⟨ρ, F, fp, S, mm _ _ _ (fun s ρ1 h v H1 F1 fp1 l S1 E1 T1 => L.nx _ _ ⟨_, F1, _, S1.store T1 hio, E1, h⟩) h⟩
end
end DL

/-! DLx: try with several clauses, each with a name; raise; own error classes. -/
namespace DL
open PySem PySem.Spec PyProof.Rows L2
variable [LamT]

/-! ### except C as n: .., several -/
/-- behind a clause its name is gone -/
def endAs (i : Nat) (D : Ends) : Ends := { nx := fun z Z => D.nx (z.set i none) Z, rt := D.rt, bk := fun z Z => D.bk (z.set i none) Z, ct := fun z Z => D.ct (z.set i none) Z }
abbrev Suite := Addr → Value → Option Addr → TS
def wAll (K : PySem.W.Frag) (m i : Nat) (Wo : WX) (D : Ends) : List (Value × Suite) → WX
  | [] => Wo
  | q :: r => fun cl dx z Z => ∃ b, PySem.W.exmOne K cl q.1 = some b ∧ (b = true → ∀ a, Z a = none → z.length = m → q.2 a cl dx (endAs i D) (z.set i (some (.ref a))) Z) ∧ (b = false → wAll K m i Wo D r cl dx z Z)
inductive HdsN (X : Cx) (n : Str) : List ExceptHandler → List (Value × Suite) → Prop
  | nil : HdsN X n [] []
  | cons {x : Str} {c : Value} {ts : Suite} {b0 : Stmt} {bs : List Stmt} {np hp : Pos} {hds : List ExceptHandler} {l : List (Value × Suite)} (hc : Names X x c)
      (hb : ∀ (a : Addr) (oe : Obj) (cl : Value) (dx : Option Addr) (pn : List (Addr × Obj)), Zc cl dx oe → (∃ us, oe.data = .fields us) → PSs (X.suite a ((a, oe) :: pn)) (b0 :: bs) (ts a cl dx)) (r : HdsN X n hds l) :
      HdsN X n (.ExceptHandler (some (.Name x np)) (some n) (b0 :: bs) hp :: hds) ((c, ts) :: l)
section
variable {X : Cx} {n : Str} {i : Nat} {body : List Stmt} {h0 : ExceptHandler} {hds : List ExceptHandler} {l : List (Value × Suite)} {pos : Pos} {tb : WX → TS} {Wo : WX}
theorem ps_tryN (hst : X.stack = X.env :: X.outer) (hlo : X.env.frame = some X.env.locals) (hN : X.N.Nodup) (hi : X.N[i]? = some n) (hk : X.env.kindOf n = some .local) (tk : Takes X Wo)
    (hbody : ∀ (V : WX) (pn : List (Addr × Obj)) (xe : Value → Shared → Prop), Takes (X.tr pn xe) V → PassesOwn (model X.prog X.w) X.A X.env xe → PSs (X.tr pn xe) body (tb V))
    (hh : HdsN X n (h0 :: hds) l) : PS X (.Try body (h0 :: hds) [] [] pos) (fun D z Z => tb (wAll X.K X.N.length i Wo D l) D z Z) := by
  refine ⟨fun pins s z Z D I0 hin => ?_⟩
  have okX := I0.ok
  have frX : X.A.frames = some (X.env :: X.outer) := by rw [← hst]; exact okX.frames
  have locN : Loc X.env.scope n := .inl hk
  refine wpAny_Try_except (wpAny_mono ((hbody (wAll X.K X.N.length i Wo D l) (X.pn ++ pins) (fun u t1 => wpAny (model X.prog X.w) X.A (noteFrame u X.env) (fun _ t2 => wpAny (model X.prog X.w) X.A (setFlight u none)
    (fun _ t3 => wpAny (model X.prog X.w) X.A (handleBy u X.env (h0 :: hds)) (SP X pins D) X.xe t3) X.xe t2) X.xe t1) (fun u t0 flown => ?_) PassesOwn.looking).run [] s z Z D (I0.toTry _) hin) (fun fl t1 done => ?_) fun u t1 q => q)
  · obtain ⟨x, B, sB, pinsB, zB, ZB, cl, dx, rfl, IB, nb, up, sky, naB, osB, bareB, wish⟩ := flown
    have I1 : Inv X pins zB ZB sB := IB.ofTry okX
    rw [hst] at sky
    show wpAny (model X.prog X.w) X.A (noteFrame (.ref x) X.env) _ _ _
    refine Sky.land Zc.steady frX hlo sky fun hA flA upA => ?_
    have IA : Inv X pins zB ZB { t0 with heap := hA } := I1.landed nb flA.1 (up.trans upA) osB bareB
    obtain ⟨ob, us, obAt, obZ, obD⟩ := flA.there
    have noFrame : x ∉ frs (X.env :: X.outer) := fun hm => by
      obtain ⟨_, ob2, at2, bad⟩ := flA.2.2.1.mem hm
      rw [obAt] at at2
      cases at2
      exact bad _ obD
    have nLoc : x ≠ X.env.locals := fun q => noFrame (List.mem_filterMap.mpr ⟨X.env, List.mem_cons_self, by rw [hlo, q]⟩)
    have nOut : x ∉ X.fs := fun hm => by
      obtain ⟨e, he, q⟩ := List.mem_filterMap.mp hm
      exact noFrame (List.mem_filterMap.mpr ⟨e, List.mem_cons_of_mem _ he, q⟩)
    have IS := IA.suite obAt obD naB nLoc nOut
    have clauses : ∀ {hs : List ExceptHandler} {ls : List (Value × Suite)}, HdsN X n hs ls → wAll X.K X.N.length i Wo D ls cl dx zB ZB → wpAny (model X.prog X.w) X.A (handleBy (.ref x) X.env hs) (SP X pins D) X.xe { t0 with heap := hA } := by
      intro hs ls hds'
      induction hds' with
      | nil =>
        intro out
        refine wpAny_handleBy_nil ?_
        obtain ⟨_, _, _, oT, vsT, T, _, _, heT, _, hdT, h1T, _⟩ := id flA
        have fly : wpAny (model X.prog X.w) X.A (setFlight (.ref x) X.env.frame) (fun _ t4 => wpAny (model X.prog X.w) X.A (throw (.ref x) : Sem Flow) (SP X pins D) X.xe t4) X.xe { t0 with heap := hA } := by
          rw [hlo]
          refine HandSPX.setFlight_upZ flA fun hB inB upB => wpAny_throw (tk _ _ ⟨x, B, sB, pins, zB, ZB, cl, dx, rfl, I1, nb, (up.trans upA).trans upB, .inr (.inr ?_), naB, osB, bareB, out⟩)
          rw [hst]
          exact inB
        unfold PySem.passOn
        refine wpAny_bind (wpAny_field heT hdT h1T ?_)
        rw [if_neg (show ¬ ((Value.ref T == Value.none) = true) by simp)]
        first
          | exact wpAny_bind fly
          | exact wpAny_bind (wpAny_pure (wpAny_bind fly))
      | @cons y c ts b0 bs np hp hds2 l2 hc hb r ih =>
        intro ⟨b, hit, yes, no⟩
        refine wpAny_handleBy_cons (codeAny_handlers_test ?_) (by intro q; cases q)
        have isOf : PySem.W.Looks (model X.prog X.w) hA (typeOf (.ref x)) cl := fun A Q E st kp q => wpAny_typeOf_ref (kp _ _ obAt) (by rw [obZ.1]; exact q)
        have named : ∀ {Q : Value → Shared → Prop} {E : Value → Shared → Prop}, Q c { t0 with heap := hA } → wpAny (model X.prog X.w) (X.A.mark (some (.ref x))) (eval (.Name y np) X.env) Q E { t0 with heap := hA } := fun {Q E} q => by
          obtain ⟨gl, db, mine | ⟨none', boot, nn⟩⟩ := hc
          · exact ld_glob (X := X.suite x ((x, ob) :: (X.pn ++ pins))) IS gl mine q db
          · exact ld_blt (X := X.suite x ((x, ob) :: (X.pn ++ pins))) IS gl none' boot q nn db
        refine named ((PySem.W.exm_one (M := model X.prog X.w) IA.kIn isOf hit).here ?_)
        cases b with
        | false =>
          show wpAny _ X.A (handleBy (.ref x) X.env hds2) _ _ _
          exact ih (no rfl)
        | true =>
          refine codeAny_handlers_suite_as (HandSPX.lands_againZ flA fun hC flC upC => ?_)
          have IC : Inv X pins zB ZB { t0 with heap := hC } := I1.landed nb flC.1 ((up.trans upA).trans upC) osB bareB
          obtain ⟨oc, uc, ocAt, ocZ, ocD⟩ := flC.there
          have ICS := IC.suite ocAt ocD naB nLoc nOut
          refine store_ok (X := X.suite x ((x, oc) :: (X.pn ++ pins))) (v := .ref x) ICS hN hi locN rfl (fun t5 I5 => ?_) (.inr hk)
          refine wpAny_mono ((hb x oc cl dx (X.pn ++ pins) ocZ ⟨_, ocD⟩).run [] t5 _ ZB _ I5 (yes rfl x naB I1.len)) (fun fl t6 out => ?_) fun _ _ q => q.elim
          have gone : ∀ {z6 : St} {Z6 : Hp} {Q : Shared → Prop}, Inv (X.suite x ((x, oc) :: (X.pn ++ pins))) [] z6 Z6 t6 → (∀ t7, Inv X pins (z6.set i none) Z6 t7 → Q t7) →
              wpAny (model X.prog X.w) X.A (do bindName X.env n .none; unbindBehindTheSuite X.env n hp) (fun _ t7 => Q t7) X.xe t6 := fun {z6 Z6 Q} I6 q => gone_ok (I6.unsuite okX) hN hi hk q
          cases fl with
          | ret u =>
            obtain ⟨v, z6, Z6, I6, rv, q⟩ := out
            exact gone I6 fun t7 I7 => ⟨_, _, _, I7, rv, q⟩
          | next =>
            obtain ⟨z6, Z6, I6, q⟩ := out
            exact gone I6 fun t7 I7 => ⟨_, _, I7, q⟩
          | brk =>
            obtain ⟨z6, Z6, I6, q⟩ := out
            exact gone I6 fun t7 I7 => ⟨_, _, I7, q⟩
          | cont =>
            obtain ⟨z6, Z6, I6, q⟩ := out
            exact gone I6 fun t7 I7 => ⟨_, _, I7, q⟩
    exact clauses hh wish
  · cases fl with
    | ret u =>
      obtain ⟨v, z1, Z1, I1, rv, q⟩ := done
      exact ⟨v, z1, Z1, I1.ofTry okX, rv, q⟩
    | next =>
      obtain ⟨z1, Z1, I1, q⟩ := done
      exact wpAny_execs_nil ⟨z1, Z1, I1.ofTry okX, q⟩
    | brk =>
      obtain ⟨z1, Z1, I1, q⟩ := done
      exact ⟨z1, Z1, I1.ofTry okX, q⟩
    | cont =>
      obtain ⟨z1, Z1, I1, q⟩ := done
      exact ⟨z1, Z1, I1.ofTry okX, q⟩
end
/-! ### own error classes: __init__ keeps what it is made with -/
def spErr (C : Addr) (fs : List Str) : Sp := fun vs H Q _ => ∃ (a : Addr) (ws : List V), vs = .ref a :: ws ∧ ws.length = fs.length ∧ H a = some (exo a C none) ∧
  ∀ (dx : Addr) (H' : Hp), H dx = none → dx ≠ a → H' a = some (exo a C (some dx)) → H' dx = some (exd dx (fs.zip ws).reverse) → (∀ b, b ≠ a → b ≠ dx → H' b = H b) → Q .non H'
section
variable {P : Program} {w : World} {K : PySem.W.Frag} {mg : Str → Option Value} {base : Heap} {C f : Addr} {fd : FuncData} {qual f1 f2 y1 y2 : Str} {st : Stmt}
theorem err1 (F : Fun K "__init__" qual st f fd) (S : FnScope ["self", y1] ["self", y1] (defScope st)) (T : OexC K C) (hno : PySem.W.findIn K (.ref C) f1 = some none)
    (hb : ∀ (cdv : Value) (A : Around) (outer : List Env) (s : Shared) (H : Hp) (E : XK), PSs (cxOf (L2.CX P w) P w K mg base ["self", y1] qual (defScope st) f cdv A outer s H E) (defBody st) (tOst K f1 (tVar 0) (tVar 1))) :
    L2.FnOk P w K mg base (L2.CX P w) 1 f fd ["self", y1] (spErr C [f1]) := by
  refine F.okX S (fun vs H Q E h => ?_) fun cdv A outer s H vs Q E hr h => ?_
  · obtain ⟨a, ws, rfl, hl, _⟩ := h
    simpa using hl
  · obtain ⟨a, ws, rfl, hl, ha, k⟩ := h
    match ws, hl with
    | [v], _ =>
      refine ⟨_, hb cdv A outer s H E, v, rfl, .ref a, rfl, a, C, rfl, T, hno, .inl ⟨ha, fun dx hdx hne => ?_⟩⟩
      exact k dx _ hdx hne upd_same (by rw [upd_ne hne, upd_same]; rfl) fun b h1 h2 => by rw [upd_ne h1, upd_ne h2]
theorem err2 (F : Fun K "__init__" qual st f fd) (S : FnScope ["self", y1, y2] ["self", y1, y2] (defScope st)) (T : OexC K C) (hno : PySem.W.findIn K (.ref C) f1 = some none) (hno2 : PySem.W.findIn K (.ref C) f2 = some none)
    (hb : ∀ (cdv : Value) (A : Around) (outer : List Env) (s : Shared) (H : Hp) (E : XK), PSs (cxOf (L2.CX P w) P w K mg base ["self", y1, y2] qual (defScope st) f cdv A outer s H E) (defBody st) (fun D z Z => tOst K f1 (tVar 0) (tVar 1) { D with nx := fun z' Z' => tOst K f2 (tVar 0) (tVar 2) D z' Z' } z Z)) :
    L2.FnOk P w K mg base (L2.CX P w) 1 f fd ["self", y1, y2] (spErr C [f1, f2]) := by
  refine F.okX S (fun vs H Q E h => ?_) fun cdv A outer s H vs Q E hr h => ?_
  · obtain ⟨a, ws, rfl, hl, _⟩ := h
    simpa using hl
  · obtain ⟨a, ws, rfl, hl, ha, k⟩ := h
    match ws, hl with
    | [v, u], _ =>
      refine ⟨_, hb cdv A outer s H E, v, rfl, .ref a, rfl, a, C, rfl, T, hno, .inl ⟨ha, fun dx hdx hne => ?_⟩⟩
      refine ⟨u, rfl, .ref a, rfl, a, C, rfl, T, hno2, .inr ⟨dx, [(f1, v)], upd_same, by rw [upd_ne hne, upd_same], by simp, ?_⟩⟩
      exact k dx _ hdx hne (by rw [upd_ne (Ne.symm hne), upd_same]) (by rw [upd_same]; rfl) fun b h1 h2 => by rw [upd_ne h2, upd_ne h1, upd_ne h2]
/-- an error class of the text -/
structure ErrC (P : Program) (w : World) (K : PySem.W.Frag) (mg : Str → Option Value) (base : Heap) (x : Str) (C : Addr) (fs : List Str) : Prop where
  oex : OexC K C
  gm : mg x = some (.ref C)
  xf : XfC K C
  noF : ∀ f ∈ fs, PySem.W.findIn K (.ref C) f = some none
  ini : ∃ (fI : Addr) (fd : FuncData) (ps : List Str), PySem.W.findIn K (.ref C) "__init__" = some (some (.ref fI)) ∧ PySem.W.typeIn K (.ref fI) = some (.type "function") ∧ L2.FnOk P w K mg base (L2.CX P w) 1 fI fd ps (spErr C fs) ∧ Binds K fd ps []
end
/-! ### raise C(e, ..) -/
def dRaise (C : Addr) (fs : List Str) (ta : TDs) (R : RX) : TSd := fun _ ρ => ta ρ fun ds ρ1 => ds.length = fs.length ∧ R ⟨C, (fs.zip ds).reverse⟩ ρ1
theorem reps_append {F : Fz} {H : Hp} : ∀ {fs gs : List (Str × D)} {ws us : List (Str × V)}, RepS F H fs ws → RepS F H gs us → RepS F H (fs ++ gs) (ws ++ us)
  | [], _, _, _, h, k => by
    have h : _ = [] := h
    subst h
    exact k
  | p :: fs, _, _, _, h, k => by
    obtain ⟨q, s, e, h1, h2⟩ := h
    subst e
    exact ⟨q, _, rfl, h1, reps_append h2 k⟩
theorem reps_zip {F : Fz} {H : Hp} : ∀ {fs : List Str} {ds : List D} {vs : List V}, RepL F H ds vs → RepS F H (fs.zip ds).reverse (fs.zip vs).reverse
  | [], _, _, _ => rfl
  | f :: fs, [], _, h => by
    have h : _ = [] := h
    subst h
    exact rfl
  | f :: fs, d :: ds, _, h => by
    obtain ⟨v, r, e, h1, h2⟩ := h
    subst e
    rw [List.zip_cons_cons, List.zip_cons_cons, List.reverse_cons, List.reverse_cons]
    exact reps_append (reps_zip h2) ⟨(f, v), [], rfl, ⟨rfl, h1⟩, rfl⟩
section
variable {X : Cx} {en : En} {e : Expr} {es : List Expr} {ta : TDs} {R : RX} {x : Str} {C : Addr} {fs : List Str} {p pos pos2 : Pos} {k : Nat}
theorem s_raise (Er : ErrC X.prog X.w X.K X.mg X.base x C fs) (hc : X.calm = true) (hr : Room (k + 2) X.A) (tk : Takes X (wOf en R)) (A : PVs X en (e :: es) ta) (hl : fs.length ≤ 1000 := by decide) (hg : Gl X x := by rfl)
    (hdb : (x == ("__debug__" : Str)) = false := by decide) (he : starEach (e :: es) X.env = (false, eval e X.env) :: starEach es X.env := by rfl) (hpl : (backTo pos (starEach es X.env)).any (·.1) = false := by rfl) :
    PSd X en (.Raise (some (.Call (.Name x p) (e :: es) [] pos)) none pos2) (dRaise C fs ta R) := by
  obtain ⟨fI, fd, ps, iC, tI, G, hb⟩ := Er.ini
  refine ⟨(ps_raise hc tk (pmk_oex (ds := []) (dvs := []) Er.oex iC tI G (hr.toRoom.mono (by omega)) hb .nil passL hg Er.gm A.run hdb he hpl)).imp fun B σ H h => ?_, fun A' B ρ L h => A.mono _ _ _ (fun ds ρ1 h => h) h⟩
  obtain ⟨A', ρ, F, fp, L, S, h⟩ := h
  refine ⟨ρ, F, fp, S, A.mono _ _ _ (fun ds ρ1 ⟨hn, h⟩ vs H1 F1 fp1 S1 E1 R1 => ?_) h⟩
  have hv := R1.len
  refine ⟨by omega, fun a ha => ⟨a, vs, by rw [List.append_nil], by omega, upd_same, fun dx H' hdx hne h1 h2 h3 => ⟨rfl, dx, _, h1, h2, ?_, ?_⟩⟩⟩
  · rw [upd_ne hne] at hdx
    exact hdx
  · have hdx' : H1 dx = none := by rw [upd_ne hne] at hdx; exact hdx
    have e3 : upd (del H' a) dx (.xd (fs.zip vs).reverse) = upd H1 dx (.xd (fs.zip vs).reverse) := by
      funext b
      by_cases c : b = dx
      · rw [c, upd_same, upd_same]
      · rw [upd_ne c, upd_ne c]
        by_cases c2 : b = a
        · rw [c2, ha]
          exact del_same
        · rw [del_ne c2, h3 b c2 c, upd_ne c2]
    rw [e3]
    obtain ⟨S2, E2⟩ := S1.newO (o := .xd (fs.zip vs).reverse) hdx'
    exact ⟨ρ1, F1, fp1, _, S2, ⟨rfl, .inr ⟨dx, _, rfl, upd_same, reps_zip (RepL.ext E2 _ _ R1)⟩⟩, h⟩
end
end DL

/-! DLy: x(lambda: e), where x tries what it is handed. -/
namespace DL
open PySem PySem.Spec PyProof.Rows L2
variable [LamT]
section
variable {en : En} {ρ : DSt} {σ : St} {H : Hp} {F : Fz} {fp : Nat → List Addr}
/-- a slot is frozen -/
theorem SI.freezeAt (S : SI en ρ σ H F fp) {i n : Nat} {d : D} (h1 : ρ[i]? = some (some (n, d))) (hio : i ∉ en.ios) : SI en (ρ.set i (some (0, d))) σ H (addL F (fp i)) (fun j => if j = i then [] else fp j) := by
  obtain ⟨v, e, ow⟩ := S.sl i n d h1
  have sub : ∀ j a, a ∈ (if j = i then [] else fp j) → j ≠ i ∧ a ∈ fp j := fun j a h => by
    split at h
    · exact absurd h (by simp)
    · exact ⟨by assumption, h⟩
  have pi0 : ∀ a, a ∈ fp i → en.H0 a = none ∨ en.frp a := fun a h => by
    rcases S.own i a h with q | q
    · exact .inl q
    · exact .inr (q.2.resolve_left hio)
  refine { up := fun a h => .inl (S.up a h), fr := fun a h => ?_, tr := fun a h => ?_, kp := S.kp, kF := S.kF, tb := fun p h => (S.tb p h).of (fun _ z => .inl z) (fun _ _ => rfl), dm := S.dm, pH := S.pH, pf := S.pf, sl := fun j m d' hj => ?_, nd := fun j => ?_, dj := fun j j' a hne h h' => ?_, nF := fun j a h => ?_, tf := fun j a h => S.tf j a (sub j a h).2, own := fun j a h => S.own j a (sub j a h).2, io := S.io, len := by rw [List.length_set]; exact S.len, pinF := fun a h => ?_ }
  · rcases h with h | h
    · exact S.fr a h
    · exact .inr (pi0 a h)
  · rcases h with h | h
    · exact S.tr a h
    · exact S.tf i a h
  · by_cases hji : j = i
    · subst hji
      have hlt : j < ρ.length := (List.getElem?_eq_some_iff.mp h1).1
      rw [List.getElem?_set_self hlt] at hj
      cases hj
      exact ⟨v, e, by simp only [if_pos]; exact ⟨rfl, ow.freeze (fun _ h => .inl h) _ _ _ _ fun a h => .inr h⟩⟩
    · rw [List.getElem?_set_ne (Ne.symm hji)] at hj
      obtain ⟨v', e', ow'⟩ := S.sl j m d' hj
      exact ⟨v', e', by simp only [if_neg hji]; exact ow'.ext (Ext.addL _ _ _) _ _ _ _ fun _ _ => rfl⟩
  · by_cases hji : j = i
    · simp [hji]
    · simp only [if_neg hji]; exact S.nd j
  · exact S.dj j j' a hne (sub j a h).2 (sub j' a h').2
  · obtain ⟨hji, h⟩ := sub j a h
    intro q
    rcases q with q | q
    · exact S.nF j a h q
    · exact S.dj j i a hji h q
  · intro q
    rcases q with q | q
    · exact S.pinF a h q
    · exact (pi0 a q).resolve_left (S.pH a h)
end
/-- the slots that a lambda reads, frozen -/
def frzAt (ρ : DSt) : List Nat → DSt
  | [] => ρ
  | i :: is => match ρ[i]? with
    | some (some s) => frzAt (ρ.set i (some (0, s.2))) is
    | _ => frzAt ρ is
/-- they alone -/
def onlyAt (ρ : DSt) (is : List Nat) : DSt := (List.range ρ.length).map fun i => if i ∈ is then (match ρ[i]? with
  | some (some s) => some (0, s.2)
  | _ => none) else none
section
variable {en : En} {σ : St} {H : Hp}
theorem SI.frzAt : ∀ (is : List Nat) {ρ : DSt} {F : Fz} {fp : Nat → List Addr}, SI en ρ σ H F fp → (∀ i ∈ is, i ∉ en.ios) → ∃ F' fp', SI en (frzAt ρ is) σ H F' fp' ∧ Ext F H F' H
  | [], ρ, F, fp, S, _ => ⟨F, fp, S, Ext.refl _ _⟩
  | i :: is, ρ, F, fp, S, h => by
    unfold DL.frzAt
    split
    · rename_i s e
      obtain ⟨F', fp', S', E'⟩ := SI.frzAt is (S.freezeAt (d := s.2) (n := s.1) e (h i (by simp))) fun j hj => h j (by simp [hj])
      exact ⟨F', fp', S', (Ext.addL _ _ _).trans E'⟩
    · exact SI.frzAt is S fun j hj => h j (by simp [hj])
theorem frzAt_len : ∀ (is : List Nat) (ρ : DSt), (frzAt ρ is).length = ρ.length
  | [], _ => rfl
  | i :: is, ρ => by
    unfold frzAt
    split
    · rw [frzAt_len is, List.length_set]
    · exact frzAt_len is ρ
theorem frzAt_zero : ∀ (is : List Nat) (ρ : DSt) (i : Nat) (s : Sl), (frzAt ρ is)[i]? = some (some s) → ∃ s', ρ[i]? = some (some s') ∧ s'.2 = s.2 ∧ (i ∈ is → s.1 = 0) ∧ (s.1 = 0 ∨ s' = s)
  | [], ρ, i, s, h => ⟨s, h, rfl, fun z => absurd z (by simp), .inr rfl⟩
  | j :: is, ρ, i, s, h => by
    unfold frzAt at h
    split at h
    · rename_i t e
      obtain ⟨s', h1, h2, h3, h4⟩ := frzAt_zero is _ i s h
      by_cases c : i = j
      · subst c
        have hlt := (List.getElem?_eq_some_iff.mp e).1
        rw [List.getElem?_set_self hlt] at h1
        cases h1
        refine ⟨t, e, h2, fun _ => ?_, .inl ?_⟩
        · rcases h4 with z | z
          · exact z
          · rw [← z]
        · rcases h4 with z | z
          · exact z
          · rw [← z]
      · rw [List.getElem?_set_ne (Ne.symm c)] at h1
        exact ⟨s', h1, h2, fun z => h3 (by rcases List.mem_cons.mp z with w | w; exact absurd w c; exact w), h4⟩
    · rename_i e
      obtain ⟨s', h1, h2, h3, h4⟩ := frzAt_zero is _ i s h
      refine ⟨s', h1, h2, fun z => ?_, h4⟩
      rcases List.mem_cons.mp z with w | w
      · subst w
        exact absurd h1 (by intro q; exact e s' q)
      · exact h3 w
theorem frzAt_live : ∀ (is : List Nat) (ρ : DSt) (i : Nat) (s : Sl), ρ[i]? = some (some s) → ∃ m, (frzAt ρ is)[i]? = some (some (m, s.2))
  | [], ρ, i, s, h => ⟨s.1, h⟩
  | j :: is, ρ, i, s, h => by
    unfold frzAt
    split
    · rename_i t e
      by_cases c : i = j
      · subst c
        rw [h] at e
        cases e
        exact frzAt_live is _ i (0, s.2) (List.getElem?_set_self (List.getElem?_eq_some_iff.mp h).1)
      · exact frzAt_live is _ i s (by rw [List.getElem?_set_ne (Ne.symm c)]; exact h)
    · exact frzAt_live is ρ i s h
/-- entered with the frozen slots alone -/
theorem SI.enter {ρ : DSt} {F : Fz} {fp : Nat → List Addr} {is : List Nat} (S : SI en (DL.frzAt ρ is) σ H F fp) : SI (enOf F H [] []) (onlyAt ρ is) σ H F (fun _ => []) where
  up := fun _ h => h
  fr := fun _ h => .inl h
  tr := S.tr
  kp := fun _ _ e _ _ => e
  kF := fun _ _ => .inl rfl
  tb := S.tb
  dm := fun _ h => h
  pH := fun a h => absurd (show a ∈ ([] : List Addr) from h) (by simp)
  pf := fun _ h => h.elim
  sl := fun i n d h => by
    unfold onlyAt at h
    rw [List.getElem?_map] at h
    cases e : (List.range ρ.length)[i]? with
    | none => rw [e] at h; cases h
    | some j =>
      rw [e] at h
      have ej : j = i := by
        have := List.getElem?_range (n := ρ.length) (i := i)
        rw [List.getElem?_eq_some_iff] at e
        obtain ⟨hl, e⟩ := e
        rw [List.getElem_range] at e
        exact e.symm
      subst ej
      have h : (if j ∈ is then (match ρ[j]? with
        | some (some s) => some (0, s.2)
        | _ => none) else none) = some (n, d) := by simpa using h
      split at h
      · rename_i hm
        split at h
        · rename_i s e2
          cases h
          have hlt : j < (DL.frzAt ρ is).length := by rw [frzAt_len]; exact (List.getElem?_eq_some_iff.mp e2).1
          have key : ∃ m, (DL.frzAt ρ is)[j]? = some (some (m, s.2)) := frzAt_live is ρ j s e2
          obtain ⟨m, hm2⟩ := key
          obtain ⟨s', h1, h2, h3, h4⟩ := frzAt_zero is ρ j _ hm2
          have m0 : m = 0 := h3 hm
          subst m0
          obtain ⟨v, e3, ow⟩ := S.sl j 0 s.2 hm2
          exact ⟨v, e3, rfl, ow.2⟩
        · cases h
      · cases h
  nd := fun _ => List.nodup_nil
  dj := fun _ _ a _ h => absurd h (by simp)
  nF := fun _ a h => absurd h (by simp)
  tf := fun _ a h => absurd h (by simp)
  own := fun _ a h => absurd h (by simp)
  io := fun p h => absurd (show p ∈ ([] : List (Nat × V)) from h) (by simp)
  len := by unfold onlyAt; rw [List.length_map, List.length_range, ← frzAt_len is]; exact S.len
  pinF := fun a h => absurd (show a ∈ ([] : List Addr) from h) (by simp)
end
/-! ### a lambda is made -/
/-- what a def's lambdas ask of it: its code object at c, that one's table at P -/
structure LamAt (X : Cx) (c P : Addr) : Prop where
  tab : LamX.TabB X.base X.mg c P
  code : X.env.code = .ref c
  mem : (P, X.env.qual ++ "<lambda>") ∈ LamT.L
  uniq : ∀ p ∈ LamT.L, p.1 = P → p.2 = X.env.qual ++ "<lambda>"
theorem LamAt.of {X : Cx} {c P : Addr} {q l : Str} (tab : LamX.TabB X.base X.mg c P) (hq : X.env.qual = q) (code : X.env.code = .ref c) (hl : l = q ++ "<lambda>") (mem : (P, l) ∈ LamT.L) (uniq : ∀ p ∈ LamT.L, p.1 = P → p.2 = l) : LamAt X c P := by
  subst hq hl
  exact ⟨tab, code, mem, uniq⟩
section
variable {X : Cx} {en : En} {pins : List (Addr × Obj)} {σ : St} {H : Hp} {s : Shared} {F : Fz} {fp : Nat → List Addr} {ρ : DSt} {P c : Addr} {q : Str} {ps : Array Value}
theorem SI.table (S : SI en ρ σ H F fp) (pos : Pos) (hP : H P = some (.tbl ps)) (fP : F P) (hc : H c = none) (hm : ∀ p ∈ LamT.L, p.1 = P → p.2 = q) :
    SI en ρ σ (upd (upd H P (.tbl (ps ++ #[rawInt pos.line, rawInt pos.col, .ref c]))) c (LamX.CodeO c q)) (addF F c) fp ∧ Ext F H (addF F c) (upd (upd H P (.tbl (ps ++ #[rawInt pos.line, rawInt pos.col, .ref c]))) c (LamX.CodeO c q)) := by
  have hcP : c ≠ P := fun z => by rw [z, hP] at hc; cases hc
  have other : ∀ b, b ≠ P → b ≠ c → upd (upd H P (.tbl (ps ++ #[rawInt pos.line, rawInt pos.col, .ref c]))) c (LamX.CodeO c q) b = H b := fun b h1 h2 => by rw [upd_ne h2, upd_ne h1]
  have atP : upd (upd H P (.tbl (ps ++ #[rawInt pos.line, rawInt pos.col, .ref c]))) c (LamX.CodeO c q) P = some (.tbl (ps ++ #[rawInt pos.line, rawInt pos.col, .ref c])) := by rw [upd_ne (Ne.symm hcP), upd_same]
  have fc : ∀ a, F a → a ≠ c := fun a h z => S.tr a h (by rw [z]; exact hc)
  have x : Ext F H (addF F c) (upd (upd H P (.tbl (ps ++ #[rawInt pos.line, rawInt pos.col, .ref c]))) c (LamX.CodeO c q)) := by
    refine ⟨fun _ h => .inl h, fun a h => ?_, fun p hp t => ?_⟩
    · by_cases e : a = P
      · rw [e, atP, hP]
        exact .inr (.inr ⟨_, _, rfl, rfl⟩)
      · exact .inl (other a e (fc a h))
    · obtain ⟨f1, ps1, e1, e2, e3⟩ := t
      have old : ∀ d, F d → ∀ q', H d = some (LamX.CodeO d q') → upd (upd H P (.tbl (ps ++ #[rawInt pos.line, rawInt pos.col, .ref c]))) c (LamX.CodeO c q) d = some (LamX.CodeO d q') := fun d fd q' e => by
        rw [other d (fun z => by rw [z, hP] at e; cases e) (fc d fd)]
        exact e
      by_cases e : p.1 = P
      · rw [e, hP] at e1
        cases e1
        refine ⟨.inl f1, ps ++ #[rawInt pos.line, rawInt pos.col, .ref c], by rw [e]; exact atP, ?_, fun pos' cv hcv => ?_⟩
        · have : (ps ++ #[rawInt pos.line, rawInt pos.col, .ref c]).toList = ps.toList ++ [rawInt pos.line, rawInt pos.col, .ref c] := by simp
          rw [this]
          exact PySem.TriplesOk_snoc _ _ _ _ e2
        · have : (ps ++ #[rawInt pos.line, rawInt pos.col, .ref c]).toList = ps.toList ++ [rawInt pos.line, rawInt pos.col, .ref c] := by simp
          rw [this] at hcv
          rcases LamX.among_app _ e2 hcv with z | z
          · obtain ⟨d, d1, d2, d3⟩ := e3 pos' cv z
            exact ⟨d, d1, .inl d2, old d d2 _ d3⟩
          · exact ⟨c, z, .inr rfl, by rw [upd_same, hm p hp e]⟩
      · refine ⟨.inl f1, ps1, by rw [other _ e (fc _ f1)]; exact e1, e2, fun pos' cv hcv => ?_⟩
        obtain ⟨d, d1, d2, d3⟩ := e3 pos' cv hcv
        exact ⟨d, d1, .inl d2, old d d2 _ d3⟩
  refine ⟨S.go x (fun i a h => ⟨other a (fun z => S.nF i a h (by rw [z]; exact fP)) (fun z => S.tf i a h (by rw [z]; exact hc)), fun z => ?_⟩) (fun a h => ?_) (fun a h => ?_) (fun a o e n => ?_) (fun a h z => ?_), x⟩
  · rcases z with z | z
    · exact S.nF i a h z
    · exact S.tf i a h (by rw [z]; exact hc)
  · rcases h with h | h
    · exact .inl h
    · rw [h]
      exact .inr (.inl (S.free hc).1)
  · rcases h with h | h
    · exact (x.kp a h).some (S.tr a h)
    · rw [h, upd_same]
      simp
  · rw [other a (fun z => n (by rw [z]; exact fP)) (ne_of_none e hc)]
    exact e
  · rcases z with z | z
    · exact S.pinF a h z
    · exact absurd (S.free hc).1 (by rw [← z]; exact S.pH a h)
theorem lam_d {params : Arguments} {body : Expr} {scope : Scope} {pos : Pos} {E Q : Value → Shared → Prop} (I : Inv X pins σ H s) (S : SI en ρ σ H F fp) (L : LamAt X c P) (hdef : defaultsOf params X.env = ([], []))
    (hfree : ∀ y ∈ scope.names, y.2 = .free → ∃ c, X.env.cells.lookup y.1 = some c)
    (k : ∀ (f d : Addr) (pm tv : Value) (H1 : Hp) (F1 : Fz) (s1 : Shared), Inv X pins σ H1 s1 → SI en ρ σ H1 F1 fp → Ext F H F1 H1 →
      s1.heap.get? f = some (PySem.W.kla_obj "<lambda>" (X.env.qual ++ "<lambda>") params body scope (cloFrom X.env.cells scope.names []) pm d tv) → H1 f = none → f ∉ frs X.stack → F1 d → H1 d = some (LamX.CodeO d (X.env.qual ++ "<lambda>")) → Q (.ref f) s1) :
    wpAny (model X.prog X.w) X.A (eval (.Lambda params body scope pos) X.env) Q E s := by
  obtain ⟨fP, ps, hP, trip, codes⟩ := S.tb _ L.mem
  have notFrame : ∀ g, s.heap.objs.size ≤ g → g ∉ frs X.stack := fun g hg z => by
    rcases List.mem_cons.mp (I.stkSub _ z) with e | e
    · have := I.lt
      rw [← e] at this
      exact absurd this (Nat.not_lt.mpr hg)
    · exact I.nofs hg e
  have globs := I.mod.glob.keeps I.bk
  have codeB := L.tab.code.keeps I.bk
  have bltB := L.tab.bm.keeps I.bk
  refine PySem.W.kla_eval hdef ?_
  cases hit : codeAmong pos ps.toList with
  | some cv =>
    obtain ⟨d, rfl, fd, hd⟩ := codes pos cv hit
    refine PySem.W.kla_makeFunctionHit (mg := X.mg) (c := c) (P := P) (ps := ps) (closure_ok hfree) I.ok.glob globs L.code codeB (I.hok P _ hP) trip hit bltB fun tv h1 tk keep grew => ?_
    refine k h1.objs.size d ((X.mg "__name__").getD .none) tv H F _ (I.kept (h' := h1.push _) (t' := tk) fun b o e => Heap.get?_push_of_some _ (keep b o e)) S (Ext.refl _ _) (Heap.get?_push_size _ rfl) (I.hok.fresh grew) (notFrame _ grew) fd hd
  | none =>
    refine PySem.W.kla_makeFunction (mg := X.mg) (c := c) (P := P) (ps := ps) (closure_ok hfree) I.ok.glob globs L.code codeB (I.hok P _ hP) trip hit L.tab.gP bltB fun d tv h1 tk keep dnew dold rec tabd => ?_
    obtain ⟨d2, od, vs, t, e2, dAt, dData, dName⟩ := rec
    cases e2
    have grew : s.heap.objs.size ≤ h1.objs.size := Nat.le_trans dnew (Nat.le_of_lt dold)
    have hd : H d = none := I.hok.fresh dnew
    have S1 := S.table pos hP fP hd L.uniq
    have I1 := LamX.inv_table (q := X.env.qual ++ "<lambda>") (t' := tk) (more := #[rawInt pos.line, rawInt pos.col, .ref d])
      (h' := h1.push (PySem.W.kla_obj "<lambda>" (X.env.qual ++ "<lambda>") params body scope (cloFrom X.env.cells scope.names []) ((X.mg "__name__").getD .none) d tv)) I hP (fun b o hb e => Heap.get?_push_of_some _ (keep b o hb e)) (Heap.get?_push_of_some _ tabd) dnew
      ⟨od, vs, t, Heap.get?_push_of_some _ dAt, dData, dName⟩
    refine k h1.objs.size d ((X.mg "__name__").getD .none) tv _ _ _ I1 S1.1 S1.2 (Heap.get?_push_size _ rfl) ?_ (notFrame _ grew) (.inr rfl) upd_same
    have n1 : h1.objs.size ≠ d := Nat.ne_of_gt dold
    have n2 : h1.objs.size ≠ P := fun z => by
      have := I.hok.fresh (a := h1.objs.size) grew
      rw [z, hP] at this
      cases this
    rw [upd_ne n1, upd_ne n2]
    exact I.hok.fresh grew
end
/-! ### x(lambda: e), x: try: return (told, a()) / except C as n: return (nm, n.fld) .. -/
/-- what a clause returns -/
def tMet (i : Nat) (C : Addr) (nm fld : Str) : Suite := fun a cl dx D z Z => z[i]? = some (some (.ref a)) ∧ cl = .ref C ∧ ∃ (dd : Addr) (ws : List (Str × V)) (v : V), dx = some dd ∧ Z dd = some (.xd ws) ∧ ws.lookup fld = some v ∧
  ∀ p, Z p = none → D.rt (.ref p) (upd Z p (.tup [.str nm, v]))
section
variable {X : Cx} {n e nm fld told : Str} {C : Addr} {i j k : Nat} {np p3 p4 p5 p6 p7 p8 : Pos} {hds : List ExceptHandler} {l : List (Value × Suite)}
theorem hd_met (hc : Names X e (.ref C)) (xf : XfC X.K C) (hno : PySem.W.findIn X.K (.ref C) fld = some none) (hi : X.N[i]? = some n) (hv : Vis X.env.scope n) (r : HdsN X n hds l) (hd : (n == ("__debug__" : Str)) = false := by decide) (hcd : (n == ("__classdict__" : Str)) = false := by decide) :
    HdsN X n (.ExceptHandler (some (.Name e np)) (some n) [.Return (some (.Tuple [.Constant (.str nm) j p4, .Attribute (.Name n p5) fld p6] k p7)) p8] p3 :: hds) ((.ref C, tMet i C nm fld) :: l) := by
  refine .cons hc (fun a oe cl dx pn hz hf => ?_) r
  refine (pss_one (ps_ret (pe_tup (pa_cons pe_str (pa_cons (pe_xf xf hno hz hf (pv i hi hv hd hcd)) pa_nil))))).imp fun D z Z h => ?_
  obtain ⟨h1, h2, dd, ws, v, h3, h4, h5, h6⟩ := h
  exact ⟨.ref a, h1, rfl, h2, dd, ws, v, h3, h4, h5, by show 2 ≤ sizeLine; rw [sizeLine_eq]; omega, h6⟩
end
/-- class, word, field -/
abbrev Cl := Addr × Str × Str
def sufs (i : Nat) (cls : List Cl) : List (Value × Suite) := cls.map fun c => (.ref c.1, tMet i c.1 c.2.1 c.2.2)
/-- a def that tries what it is handed -/
structure MetC (P : Program) (w : World) (K : PySem.W.Frag) (mg : Str → Option Value) (base : Heap) (x told : Str) (cls : List Cl) : Prop where
  ex : ∃ (g : Addr) (st : Stmt) (fd : FuncData) (a n : Str) (j k : Nat) (p p1 p2 p3 p4 p5 : Pos) (h0 : ExceptHandler) (hds : List ExceptHandler), Fun K x x st g fd ∧ mg x = some (.ref g) ∧ Binds K fd [a] [] ∧ FnScope [a, n] [a] (defScope st) ∧
    defBody st = [.Try [.Return (some (.Tuple [.Constant (.str told) j p, .Call (.Name a p1) [] [] p2] k p3)) p4] (h0 :: hds) [] [] p5] ∧ Vis (defScope st) a ∧ (a == ("__debug__" : Str)) = false ∧ (a == ("__classdict__" : Str)) = false ∧
    (∀ (L f : Addr) (cdv : Value), (envOfC x (defScope st) L f cdv).kindOf n = some .local) ∧ ∀ X0 : Cx, X0.N = [a, n] → X0.env.scope = defScope st → X0.mg = mg → X0.K = K → HdsN X0 n (h0 :: hds) (sufs 1 cls)
  exm : ∀ c ∈ cls, ∀ c' ∈ cls, PySem.W.exmOne K (.ref c.1) (.ref c'.1) = some (decide (c.1 = c'.1))
/-- what is told of an exception -/
def hitD (cls : List Cl) (x : Exc) (k : D → Prop) : Prop := match cls.find? fun c => decide (c.1 = x.cls) with
  | some c => (match x.fs.lookup c.2.2 with
    | some d => k (.tup [.str c.2.1, d])
    | none => False)
  | none => False
def dMet (ws : List Nat) (told : Str) (cls : List Cl) (te : RX → TO) : TO := fun ρ Q => ∃ Q0 : D → Prop, (∀ d, Q0 d → Q (0, d) (frzAt ρ ws)) ∧ te (fun x _ => hitD cls x Q0) (onlyAt ρ ws) fun s _ => Q0 (.tup [.str told, s.2])
theorem xMet {ws : List Nat} {told : Str} {cls : List Cl} {te : RX → TO} {ρ : DSt} {Q : Sl → DSt → Prop} (h : te (fun x _ => hitD cls x fun d => Q (0, d) (frzAt ρ ws)) (onlyAt ρ ws) fun s _ => Q (0, .tup [.str told, s.2]) (frzAt ρ ws)) : dMet ws told cls te ρ Q :=
  ⟨fun d => Q (0, d) (frzAt ρ ws), fun _ h => h, h⟩
theorem reps_look {F : Fz} {H : Hp} {f : Str} : ∀ {fs : List (Str × D)} {ws : List (Str × V)} {d : D}, RepS F H fs ws → fs.lookup f = some d → ∃ v, ws.lookup f = some v ∧ Rep F H d v
  | [], _, _, _, e => by cases e
  | (g, d0) :: fs, _, d, h, e => by
    obtain ⟨q, s, eq, h1, h2⟩ := h
    subst eq
    have h1 : q.1 = g ∧ Rep F H d0 q.2 := h1
    rw [List.lookup_cons] at e
    rw [List.lookup_cons, h1.1]
    cases c : f == g with
    | true =>
      rw [c] at e
      cases e
      exact ⟨q.2, rfl, h1.2⟩
    | false =>
      rw [c] at e
      exact reps_look h2 e
/-- an exception that is told of goes through the clauses to its own -/
theorem hit_wAll {K : PySem.W.Frag} {F : Fz} {Z : Hp} {dx : Option Addr} {cl : Value} {x : Exc} {Q0 : D → Prop} {D0 : Ends} (er : ExcRep F Z cl dx x) (all : List Cl) (hx : ∃ c ∈ all, c.1 = x.cls) (exm : ∀ c ∈ all, ∀ c' ∈ all, PySem.W.exmOne K (.ref c.1) (.ref c'.1) = some (decide (c.1 = c'.1)))
    (k : ∀ nm d v, Q0 (.tup [.str nm, d]) → Rep F Z d v → ∀ p, Z p = none → D0.rt (.ref p) (upd Z p (.tup [.str nm, v]))) : ∀ cls : List Cl, (∀ c ∈ cls, c ∈ all) → hitD cls x Q0 → ∀ z : St, wAll K 2 1 (fun _ _ _ _ => False) D0 (sufs 1 cls) cl dx z Z
  | [], _, h, z => by
    unfold hitD at h
    exact h
  | c :: cls, hm, h, z => by
    obtain ⟨c0, hc0, e0⟩ := hx
    have ecl := er.1
    refine ⟨decide (x.cls = c.1), ?_, fun hb a ha hz => ?_, fun hb => ?_⟩
    · rw [ecl, ← e0]
      exact exm c0 hc0 c (hm c (by simp))
    · have e1 : x.cls = c.1 := of_decide_eq_true hb
      unfold hitD at h
      rw [List.find?_cons, decide_eq_true e1.symm] at h
      cases el : x.fs.lookup c.2.2 with
      | none =>
        simp only [el] at h
      | some d =>
        simp only [el] at h
        rcases er.2 with z0 | ⟨dd, ws, h1, h2, h3⟩
        · rw [z0] at el; cases el
        · obtain ⟨v, hv, rv⟩ := reps_look h3 el
          refine ⟨?_, by rw [ecl, e1], dd, ws, v, h1, h2, hv, k _ _ _ h rv⟩
          exact List.getElem?_set_self (by rw [hz]; omega)
    · have e1 : ¬ x.cls = c.1 := of_decide_eq_false hb
      refine hit_wAll er all ⟨c0, hc0, e0⟩ exm k cls (fun c' h' => hm c' (by simp [h'])) ?_ z
      unfold hitD at h ⊢
      rw [List.find?_cons, decide_eq_false fun z => e1 z.symm] at h
      exact h
theorem hit_some {cls : List Cl} {x : Exc} {k : D → Prop} (h : hitD cls x k) : ∃ c ∈ cls, c.1 = x.cls := by
  unfold hitD at h
  cases e : cls.find? fun c => decide (c.1 = x.cls) with
  | none => simp only [e] at h
  | some c => exact ⟨c, List.mem_of_find?_eq_some e, by simpa using List.find?_some e⟩
section
variable {X : Cx} {pins : List (Addr × Obj)} {σ : L2.St} {H : Hp} {s : Shared}
/-- a(), where a holds a lambda of X's: in the frame of the def that got it, entered at s -/
theorem act_d {Ng : List Str} {qg : Str} {sg : Scope} {g f d : Addr} {cdg pm tv : Value} {params : Arguments} {body : Expr} {scope : Scope} {k i : Nat} {a : Str} {pn : List (Addr × Obj)} {xe : Value → Shared → Prop} {V : WX} {E : XK} {tb : TE} {q1 q2 : Pos}
    (I : Inv X pins σ H s) (L : LamX.LamS X.env.scope scope) (at_ : s.heap.get? f = some (PySem.W.kla_obj "<lambda>" (X.env.qual ++ "<lambda>") params body scope (cloFrom X.env.cells scope.names []) pm d tv)) (free : H f = none) (nofr : f ∉ frs X.stack)
    (bind : bindArgs (PySem.W.kla_fn "<lambda>" (X.env.qual ++ "<lambda>") params body scope (cloFrom X.env.cells scope.names []) pm (.ref d) tv) ⟨[], []⟩ = pure [])
    (tk : Takes ((cxOf C8.CX0 X.prog X.w X.K X.mg X.base Ng qg sg g cdg X.A X.stack s H C8.E0).tr pn xe) V) (hV : ∀ cl dx z Z, E cl dx Z → V cl dx z Z) (hr : Room (k + 1) (X.A.deeper (envOfC qg sg s.heap.objs.size g cdg)))
    (hb : ∀ (outer : List Env) (t : Shared) (Z : Hp), Room k ((X.A.deeper (envOfC qg sg s.heap.objs.size g cdg)).deeper (LamX.lamEnv X scope t.heap.objs.size f d)) → PE (LamX.lamCx X (X.A.deeper (envOfC qg sg s.heap.objs.size g cdg)) outer t Z E scope f d) body tb)
    (hN : Ng[i]? = some a) (hv : Vis sg a) (hd : (a == ("__debug__" : Str)) = false) (hcd : (a == ("__classdict__" : Str)) = false) :
    PE ((cxOf C8.CX0 X.prog X.w X.K X.mg X.base Ng qg sg g cdg X.A X.stack s H C8.E0).tr pn xe) (.Call (.Name a q1) [] [] q2)
      (fun z Z Q => z[i]? = some (some (.ref f)) ∧ Z d = some (LamX.CodeO d (X.env.qual ++ "<lambda>")) ∧ tb σ Z Q) := by
  refine ⟨fun pz t z Z Q J hin => ?_⟩
  obtain ⟨slot, code, read⟩ := hin
  refine wpAny_Call_Name_kw (thn ((pe_var (pos := q1) (i := i) hN hv hd hcd).run pz t z Z (fun v Z1 => v = .ref f ∧ Z1 = Z) J ⟨.ref f, slot, rfl, rfl⟩) fun u t1 ⟨v, Z1, J1, rv, ev, eZ⟩ => ?_)
  subst ev
  subst eZ
  obtain rfl : u = Value.ref f := rv
  have here := J1.base.keep f _ at_ free nofr fun q => nomatch (show f ∈ ([] : List Addr) from q)
  refine PySem.W.callWith_F0 ⟨_, _, _, _, here⟩ ?_
  obtain ⟨⟨od, vs, tk0, dAt, dData, dName⟩, _, _⟩ := J1.hok d _ code
  have run : codeAny (model X.prog X.w) (X.A.deeper (envOfC qg sg s.heap.objs.size g cdg)) (.call (.ref f) ⟨[], []⟩) (CR (L2.CX X.prog X.w) (envOfC qg sg s.heap.objs.size g cdg :: X.stack) X.prog X.w Z1 t1 Q E) t1 := by
    refine PySem.W.kla_callFunE hr.toRoom.depth here rfl L.co L.gen rfl ⟨d, od, vs, tk0, rfl, dAt, dData, dName⟩ ?_
    rw [bind]
    refine wpAny_pure (wpAny_newFunctionEnv (fun y hy => (L.own y hy).2) (fun y hy => absurd hy (by simp)) (fun h1 ns same => ⟨J1.nolimit.fresh _ same, ?_⟩) L.kind)
    have kept : ∀ b o, t1.heap.get? b = some o → h1.get? b = some o := fun b o e => same.extBut b o (Nat.ne_of_lt (Heap.lt_size e)) (Heap.get?_push_of_some _ e)
    have J2 := LamX.lam_start2 (A := X.A.deeper (envOfC qg sg s.heap.objs.size g cdg)) (E := E) (f := f) (c' := d) (tk := t1.toks + ([] : List (Str × Value)).length) I L J1.env0 hr.hd J1.base ns kept
    show codeAny _ _ (.expr body (LamX.lamEnv X scope t1.heap.objs.size f d)) _ _
    refine PySem.W.kla_codeExpr (wpAny_mono ((hb _ t1 Z1 (hr.deeper _)).run [] _ _ Z1 Q J2 read) (fun v t2 ⟨w', Z2, J3, rv2, q⟩ => ?_) fun e t2 q => q)
    exact ⟨w', Z2, J3.os, J3.bare, J3.base, J3.hok, rv2, q⟩
  refine wpAny_call (codeAny_mono run fun r t2 out => ?_)
  match r, out with
  | .error e, out => exact passes_call tk hV pz z Z1 t1 e t2 J1 out
  | .ok (.ret u), out => exact J1.after out
  | .ok .next, out => exact out.elim
  | .ok .brk, out => exact out.elim
  | .ok .cont, out => exact out.elim
end
section
variable {X : Cx} {en : En} {x told : Str} {cls : List Cl} {c P : Addr} {k : Nat} {params : Arguments} {body : Expr} {scope : Scope} {te : RX → TO} {p lpos pos : Pos}
theorem v_met (M : MetC X.prog X.w X.K X.mg X.base x told cls) (LA : LamAt X c P) (hr : Room (k + 2) X.A) (L : LamX.LamS X.env.scope scope) (hdef : defaultsOf params X.env = ([], []))
    (hbind : ∀ (q : Str) (cl : List (Str × Addr)) (pm cv ctv : Value), bindArgs (PySem.W.kla_fn "<lambda>" q params body scope cl pm cv ctv) ⟨[], []⟩ = pure []) (ws : List Nat) (hio : ∀ i ∈ ws, i ∉ en.ios)
    (hbody : ∀ (en' : En) (R : RX) (A : Around) (outer : List Env) (s : Shared) (H : Hp) (E : XK) (f d : Addr), en'.ios = [] → Room k (A.deeper (LamX.lamEnv X scope s.heap.objs.size f d)) → Takes (LamX.lamCx X A outer s H E scope f d) (wOf en' R) →
      PV (LamX.lamCx X A outer s H E scope f d) en' body (te R)) (hg : Gl X x := by rfl) (hdb : (x == ("__debug__" : Str)) = false := by decide) :
    PV X en (.Call (.Name x p) [.Lambda params body scope lpos] [] pos) (dMet ws told cls te) := by
  refine ⟨⟨fun pins s σ H Q I h => ?_⟩, fun ρ Q Q' kk ⟨Q0, h1, h2⟩ => ⟨Q0, fun d q => kk _ _ (h1 d q), h2⟩⟩
  obtain ⟨ρ, F, fp, S, Q0, hQ0, h⟩ := h
  obtain ⟨F1, fp1, S1, E1⟩ := S.frzAt ws hio
  obtain ⟨g, st, fd, a, n, j, k0, q, q1, q2, q3, q4, q5, h0, hds, FF, hm, hb, Sg, hbd, hva, had, hac, hkn, hcl⟩ := M.ex
  obtain ⟨oc, od, kV, doc, pm, an, cdv, ct, osl, rfl, lk, hcd⟩ := FF.ex
  refine wpAny_Call_Name_kw (ld_glob I hg hm ?_ hdb)
  refine PySem.W.callWith_K (h₀ := X.base) I.ok.mod.kin FF.kp ?_ (by rfl) (by rfl)
  show wpAny _ _ (spliced ((false, eval (.Lambda params body scope lpos) X.env) :: backTo pos (starEach [] X.env))) _ _ s
  refine Calls.spliced_cons (lam_d I S1 LA hdef (L.has I.ok) fun f d pm' tv H2 F2 s2 I2 S2 E2 hf hfn hfr fd' hd' => ?_)
  refine Calls.spliced_nil ⟨I2.kIn, ?_⟩
  -- what is told, back here
  have fin : ∀ (d' : D) (Z : Hp) (F' : Fz) (nm : Str) (v : V) (pp : Addr), Since (enOf F2 H2 [] []) F' Z → Q0 (.tup [.str nm, d']) → Rep F' Z d' v → Z pp = none → Q (.ref pp) (upd Z pp (.tup [.str nm, v])) := fun d' Z F' nm v pp si q0 r hp => by
    obtain ⟨S3, E3⟩ := S2.called si
    have x4 : Ext F' Z (addF F' pp) (upd Z pp (.tup [.str nm, v])) := Ext.new (S3.free hp).2.1
    refine hQ0 _ q0 _ _ _ _ [] (S3.new hp) (((E1.trans E2).trans E3).trans x4) (Tmp.flat ?_)
    exact ⟨pp, _, rfl, .inr rfl, upd_same, .str nm, [v], rfl, rfl, v, [], rfl, r.ext x4, rfl⟩
  have rc : codeAny (model X.prog X.w) X.A (.call (.ref g) ⟨[.ref f], []⟩) (CR C8.CX0 X.stack X.prog X.w H2 s2 Q C8.E0) s2 := by
    refine LamX.run_ofS (N := [a, n]) (ps := [a]) (us := [.ref f]) (vs := [.ref f]) lk hcd Sg hr.toRoom I2.env0 (hb s2 [.ref f] I2.kIn rfl) (.cons rfl .nil) rfl fun hr' => ?_
    rw [hbd]
    have T := ps_tryN (X := (cxOf C8.CX0 X.prog X.w X.K X.mg X.base [a, n] x (defScope st) g cdv X.A X.stack s2 H2 C8.E0).nox) (n := n) (i := 1) (body := [.Return (some (.Tuple [.Constant (.str told) j q, .Call (.Name a q1) [] [] q2] k0 q3)) q4]) (h0 := h0) (hds := hds) (l := sufs 1 cls) (pos := q5)
      (tb := fun V D z Z => ∃ E : XK, (∀ cl dx z' Z', E cl dx Z' → V cl dx z' Z') ∧ z[0]? = some (some (.ref f)) ∧ Z d = some (LamX.CodeO d (X.env.qual ++ "<lambda>")) ∧
        (∀ (outer : List Env) (t : Shared) (Y : Hp), Room k ((X.A.deeper (envOfC x (defScope st) s2.heap.objs.size g cdv)).deeper (LamX.lamEnv X scope t.heap.objs.size f d)) → PE (LamX.lamCx X (X.A.deeper (envOfC x (defScope st) s2.heap.objs.size g cdv)) outer t Y E scope f d) body (lift (enOf F2 H2 [] []) (te fun x _ => hitD cls x Q0))) ∧
        lift (enOf F2 H2 [] []) (te fun x _ => hitD cls x Q0) σ Z fun v Z' => [L2.V.str told, v].length ≤ sizeLine ∧ ∀ pp, Z' pp = none → D.rt (.ref pp) (upd Z' pp (.tup [.str told, v])))
      rfl rfl Sg.nd rfl (hkn _ _ _) LamX.takes0 (fun V pn xe tk _ => ?_) (hcl _ rfl rfl rfl rfl)
    · refine ⟨_, (pss_one T).nox, ?_⟩
      refine ⟨fun cl dx Z => ∃ (F' : Fz) (xx : Exc), Since (enOf F2 H2 [] []) F' Z ∧ ExcRep F' Z cl dx xx ∧ hitD cls xx Q0, fun cl dx z' Z' ⟨F', xx, si, er, hh⟩ => ?_, rfl, hd', fun outer s3 H3 hr2 => ?_, ?_⟩
      · exact hit_wAll er cls (hit_some hh) M.exm (fun nm d' v q0 r pp hp => fin d' Z' F' nm v pp si q0 r hp) cls (fun _ h => h) hh z'
      · refine (hbody (enOf F2 H2 [] []) (fun x _ => hitD cls x Q0) _ outer s3 H3 _ f d rfl hr2 ?_).run
        exact (takes_of rfl rfl rfl rfl).imp fun cl dx σ' Z' ⟨ρ', F', fp', xx, S', er, hh⟩ => ⟨F', xx, S'.toSince, er, hh⟩
      · refine ⟨onlyAt ρ ws, F2, fun _ => [], S2.enter, ?_⟩
        refine (hbody (enOf F2 H2 [] []) (fun x _ => hitD cls x Q0) X.A [] s H (fun cl dx Z => ∃ z, wOf (enOf F2 H2 [] []) (fun x _ => hitD cls x Q0) cl dx z Z) f d rfl ?_ ?_).mono _ _ _ (fun s' ρ' q0 v Z' F' fp' l S' _ T' => ⟨by show 2 ≤ sizeLine; rw [sizeLine_eq]; omega, fun pp hp => ?_⟩) h
        · exact (hr.mono (by omega)).deeper _
        · exact (takes_of rfl rfl rfl rfl).imp fun cl dx σ' Z' h' => ⟨σ', h'⟩
        · obtain ⟨S5, R5⟩ := T'.freeze S'
          exact fin s'.2 Z' _ told v pp S5.toSince q0 R5 hp
    · refine ⟨fun pinsZ s' z Z D IZ hin => ?_⟩
      obtain ⟨E, hW, g1, g2, g3, g4⟩ := hin
      have act := act_d (i := 0) (q1 := q1) (q2 := q2) (a := a) (Ng := [a, n]) (qg := x) (sg := defScope st) (g := g) (cdg := cdv) (pn := pn) (xe := xe) I2 L hf hfn hfr (hbind _ _ _ _ _) tk hW ⟨hr', hr.gd⟩ g3 rfl hva had hac
      have hq := pss_one (ps_ret (pos := q4) (pe_tup (x1 := k0) (pos := q3) (pa_cons (pe_str (x := told) (j := j) (pos := q)) (pa_cons act pa_nil))))
      refine hq.run pinsZ s' z Z D IZ ?_
      exact ⟨g1, g2, g4⟩
  refine wpAny_call (codeAny_mono rc fun r s3 hq => ?_)
  cases r with
  | error e => exact (show False from hq).elim
  | ok fl =>
    cases fl with
    | ret u => exact I2.after hq
    | next => exact hq.elim
    | brk => exact hq.elim
    | cont => exact hq.elim
end
end DL

/-! DLz: list * int; {}; repr([d, e]); list(d.values()); a list of owned things, one of them cleared, one put at. -/
namespace DL
open PySem PySem.Spec PyProof.Rows L2
variable [LamT]

/-! ### list * int -/
def wRep : W2 := fun x y k => ∃ xs i, x = .lst xs ∧ y = .int i ∧ 0 ≤ i ∧ i < 2 ^ 62 ∧ xs.length * i.toNat ≤ sizeLine ∧ k (1, .lst (List.replicate i.toNat xs).flatten)
theorem mono_rep : Mono2 wRep := fun x y k k' f ⟨xs, i, h1, h2, h3, h4, h5, h6⟩ => ⟨xs, i, h1, h2, h3, h4, h5, f _ h6⟩
theorem repl_rep {F : Fz} {H : Hp} {ds : List D} {vs : List V} (r : RepL F H ds vs) : ∀ n : Nat, RepL F H (List.replicate n ds).flatten (List.replicate n vs).flatten
  | 0 => rfl
  | n + 1 => by
    rw [List.replicate_succ, List.replicate_succ, List.flatten_cons, List.flatten_cons]
    exact RepL.append r (repl_rep r n)
theorem fits_rep : Fits2 rRep wRep := fun x y v u F H Q k tr rx ry ⟨xs, i, e1, e2, h3, h4, h5, hk⟩ q => by
  subst e1 e2
  obtain ⟨a, vs, ea, f, ha, rl⟩ := rx
  have ry : u = .int i := ry
  exact ⟨a, i, vs, ea, ry, ha, by omega, by omega, by rw [← rl.len]; exact h5, fun p hp => q _ _ _ _ _ hk (ans_lst tr hp (repl_rep rl i.toNat))⟩
section
variable {X : Cx} {en : En} {a b c e : Expr} {es : List Expr} {ta tb tc te : TO} {tl : TDs} {p p1 q apos cpos ipos pos : Pos} {x : Str}
theorem v_rep (A : PV X en a ta) (B : PV X en b tb) : PV X en (.BinOp a .Mult b pos) (dB wRep ta tb) := ⟨(pe_op op_rep A.run B.run).imp fun σ H Q h => lift_two A B fits_rep h, mono_B mono_rep A.mono B.mono⟩

/-! ### {} -/
def dNewD : TO := fun ρ Q => Q (1, .dic []) ρ
theorem v_dic0 : PV X en (.Dict [] [] pos) dNewD := by
  refine ⟨pe_dnewK.imp fun σ H Q h => ?_, fun _ _ _ k h => k _ _ h⟩
  obtain ⟨ρ, F, fp, S, h⟩ := h
  intro p hp
  obtain ⟨S', E', T⟩ := (Ans.new (F := F) (d := .dic []) hp (mk1_dic upd_same rfl)).step S
  exact h _ _ _ _ _ S' E' T

/-! ### repr([d, e]) of dicts of flat things -/
def pyFl : D → Option PyData
  | .non => some .none
  | .bl b => some (.bool b)
  | .int i => some (.int i)
  | .str x => some (.str x)
  | _ => none
def pyK : Key → PyData
  | .inl i => .int i
  | .inr x => .str x
def pyKv : List (Key × D) → Option (List (PyData × PyData))
  | [] => some []
  | (k, d) :: r => match pyFl d, pyKv r with
    | some p, some ps => some ((pyK k, p) :: ps)
    | _, _ => none
def pyDic : D → Option PyData
  | .dic kvs => (pyKv kvs).map .dict
  | d => pyFl d
def pyDics : List D → Option (List PyData)
  | [] => some []
  | d :: r => match pyDic d, pyDics r with
    | some p, some ps => some (p :: ps)
    | _, _ => none
theorem reads_fl {F : Fz} {H : Hp} {h : Heap} : ∀ {d : D} {v : V} {p : PyData} {u : Value}, pyFl d = some p → Rep F H d v → RelV v u → Reads h u p []
  | .non, v, p, u, e, r, q => by
    have r : v = .non := r
    subst r
    cases e
    cases q
    exact .none
  | .bl b, v, p, u, e, r, q => by
    have r : v = .bl b := r
    subst r
    cases e
    cases q
    exact .bool b
  | .int b, v, p, u, e, r, q => by
    have r : v = .int b := r
    subst r
    cases e
    obtain ⟨t, rfl⟩ := q
    exact .int b t
  | .str b, v, p, u, e, r, q => by
    have r : v = .str b := r
    subst r
    cases e
    obtain ⟨t, rfl⟩ := q
    exact .str b t
theorem reads_kv {F : Fz} {H : Hp} {h : Heap} : ∀ {kvs : List (Key × D)} {ws : List (Key × V)} {vs : List (Key × Value)} {ps : List (PyData × PyData)}, pyKv kvs = some ps → RepK F H kvs ws → KV ws vs → PyProof.V.PairsRead h pyK vs ps []
  | [], ws, vs, ps, e, r, kv => by
    have r : ws = [] := r
    subst r
    cases e
    cases kv
    exact .nil
  | (k, d) :: kvs, ws, vs, ps, e, r, kv => by
    obtain ⟨⟨k2, v⟩, r', e1, h1, h2⟩ := r
    have hh : k2 = k ∧ Rep F H d v := h1
    subst e1
    obtain ⟨e1, rd⟩ := hh
    subst e1
    cases kv with
    | @cons _ q _ vs' g kv' =>
      obtain ⟨k3, u⟩ := q
      obtain ⟨g1, g2⟩ := g
      have g1 : k2 = k3 := g1
      subst g1
      unfold pyKv at e
      cases q1 : pyFl d with
      | none => rw [q1] at e; cases e
      | some p =>
        cases q2 : pyKv kvs with
        | none => rw [q1, q2] at e; cases e
        | some ps' =>
          rw [q1, q2] at e
          cases e
          exact .cons (as := []) (reads_fl q1 rd g2) (reads_kv q2 h2 kv')
theorem reads_key {P : Program} {w : World} {h : Heap} : ∀ (k : Key) (key : Value), (mixKind P w).is k key = true → Reads h key (pyK k) [] := fun k key hk => by
  rcases keyIs_shape hk with ⟨i, t, rfl, rfl⟩ | ⟨x, t, rfl, rfl⟩
  · exact .int _ _
  · exact .str _ _
theorem reads_dic {pins : List (Addr × Obj)} {σ : St} {F : Fz} {H : Hp} {s : Shared} (I : Inv X pins σ H s) : ∀ {d : D} {v : V} {u : Value} {p : PyData}, pyDic d = some p → Rep F H d v → RelV v u → ∃ as, Reads s.heap u p as ∧ sysModules ∉ as
  | .dic kvs, v, u, p, e, r, q => by
    obtain ⟨a, ws, ev, f, ha, rl⟩ := r
    subst ev
    obtain rfl : u = Value.ref a := q
    obtain ⟨hz, hs0, vs, kv, hdo⟩ := dk_rd I.hok ha
    unfold pyDic at e
    obtain ⟨ps, q1, q2⟩ := Option.map_eq_some_iff.mp e
    subst q2
    refine ⟨[a], PyProof.V.reads_dictOf (knd := mixKind X.prog X.w) reads_key hdo (reads_kv q1 rl kv), fun z => ?_⟩
    rw [List.mem_singleton] at z
    rw [← z] at hs0
    simp at hs0
  | .non, v, u, p, e, r, q => ⟨[], reads_fl (by simpa [pyDic] using e) r q, by simp⟩
  | .bl _, v, u, p, e, r, q => ⟨[], reads_fl (by simpa [pyDic] using e) r q, by simp⟩
  | .int _, v, u, p, e, r, q => ⟨[], reads_fl (by simpa [pyDic] using e) r q, by simp⟩
  | .str _, v, u, p, e, r, q => ⟨[], reads_fl (by simpa [pyDic] using e) r q, by simp⟩
  | .lst _, _, _, _, e, _, _ => by cases e
  | .tup _, _, _, _, e, _, _ => by cases e
  | .ins _ _, _, _, _, e, _, _ => by cases e
  | .spr _, _, _, _, e, _, _ => by cases e
  | .scr _ _, _, _, _, e, _, _ => by cases e
  | .opq _, _, _, _, e, _, _ => by cases e
  | .tag _ _, _, _, _, e, _, _ => by cases e
theorem reads_all {pins : List (Addr × Obj)} {σ : St} {F : Fz} {H : Hp} {s : Shared} (I : Inv X pins σ H s) : ∀ {ds : List D} {vs : List V} {us : List Value} {ps : List PyData}, pyDics ds = some ps → RepL F H ds vs → Vals vs us → ∃ as, ReadsAll s.heap us ps as ∧ sysModules ∉ as
  | [], vs, us, ps, e, r, q => by
    have r : vs = [] := r
    subst r
    cases e
    cases q
    exact ⟨[], .nil, by simp⟩
  | d :: ds, vs, us, ps, e, r, q => by
    obtain ⟨v, r', e1, h1, h2⟩ := r
    subst e1
    cases q with
    | @cons _ u _ us' g q' =>
      unfold pyDics at e
      cases q1 : pyDic d with
      | none => rw [q1] at e; cases e
      | some p =>
        cases q2 : pyDics ds with
        | none => rw [q1, q2] at e; cases e
        | some ps' =>
          rw [q1, q2] at e
          cases e
          obtain ⟨as, r1, n1⟩ := reads_dic I q1 h1 g
          obtain ⟨bs, r2, n2⟩ := reads_all I q2 h2 q'
          exact ⟨as ++ bs, .cons r1 r2, fun z => (List.mem_append.mp z).elim n1 n2⟩
theorem pe_reprL {t : TA} (hg : X.A.guards = some []) (hu : X.A.units + 64 < cLine) (A : PA X es t) (hm : X.mg "repr" = none) (g : Gl X "repr" := by rfl)
    (hs : starEach [.List es q] X.env = (false, eval (.List es q) X.env) :: starEach [] X.env := by rfl) :
    PE X (.Call (.Name "repr" p) [.List es q] [] pos) (fun σ H Q => t σ H fun vs H1 => vs.length ≤ sizeLine ∧ ∃ (F : Fz) (ds : List D) (ps : List PyData), RepL F H1 ds vs ∧ pyDics ds = some ps ∧ PyData.showableAll ps = true ∧ (PyData.list ps).depth ≤ 60 ∧ (PyData.list ps).shown.length ≤ sizeLine ∧ Q (.str (PyData.list ps).shown) H1) := by
  refine ⟨fun pins s σ H Q I hq => wpAny_Call_Name_kw (ld_blt I g hm (u := .builtin "repr") (by first | rfl | decide +kernel) (PyProof.Rows.callWith_builtin1 ?_ hs rfl))⟩
  rw [hs]
  show wpAny _ _ (spliced ((false, eval (.List es q) X.env) :: backTo pos (starEach [] X.env))) _ _ s
  refine Calls.spliced_cons (wpAny_List_spliced (thn (A.run q pins s σ H _ I hq) fun us s1 ⟨xs, H1, I1, r, z, F, ds, ps, rl, hp, h1, h2, h3, h4⟩ => ⟨by rw [← r.length]; exact z, Calls.spliced_nil ?_⟩))
  have I2 : Inv X pins σ H1 { s1 with heap := s1.heap.push { cls := .type "list", data := .seq us.toArray } } := I1.kept (t' := s1.toks) fun b ob q => Heap.get?_push_of_some _ q
  obtain ⟨as, ra, na⟩ := reads_all I2 hp rl r
  have rd : Reads (s1.heap.push { cls := .type "list", data := .seq us.toArray }) (.ref s1.heap.objs.size) (.list ps) (s1.heap.objs.size :: as) :=
    .list (Heap.get?_push_size _ rfl) rfl rfl ra
  have hne : sysModules ∉ s1.heap.objs.size :: as := fun y => (List.mem_cons.mp y).elim (fun e => Nat.ne_of_lt I1.big e) na
  refine repr_of_reads' rd (by simpa [PyData.showable] using h1) (fun _ => hne) hg (by omega) (fun _ _ e => e) (fun h' u tk hk => ?_) h3
  exact ⟨.str _, H1, I2.kept (t' := tk) fun b ob e => hk b ob e, ⟨u, rfl⟩, h4⟩
def dRepr (tl : TDs) : TO := fun ρ Q => tl ρ fun ds ρ1 => ds.length ≤ sizeLine ∧ ∃ ps, pyDics ds = some ps ∧ PyData.showableAll ps = true ∧ (PyData.list ps).depth ≤ 60 ∧ (PyData.list ps).shown.length ≤ sizeLine ∧ Q (0, .str (PyData.list ps).shown) ρ1
theorem v_reprL (hg : X.A.guards = some []) (hu : X.A.units + 64 < cLine) (A : PVs X en es tl) (hm : X.mg "repr" = none) (g : Gl X "repr" := by rfl)
    (hs : starEach [.List es q] X.env = (false, eval (.List es q) X.env) :: starEach [] X.env := by rfl) : PV X en (.Call (.Name "repr" p) [.List es q] [] pos) (dRepr tl) := by
  refine ⟨(pe_reprL hg hu A.run hm g hs).imp fun σ H Q h => ?_, fun ρ Q Q' kk h => A.mono _ _ _ (fun ds ρ1 ⟨h0, ps, h1, h2, h3, h4, h5⟩ => ⟨h0, ps, h1, h2, h3, h4, kk _ _ h5⟩) h⟩
  obtain ⟨ρ, F, fp, S, h⟩ := h
  refine ⟨ρ, F, fp, S, A.mono _ _ _ (fun ds ρ1 ⟨h0, ps, h1, h2, h3, h4, h5⟩ vs H1 F1 fp1 S1 E1 R1 => ?_) h⟩
  exact ⟨by rw [← R1.len]; exact h0, F1, ds, ps, R1, h1, h2, h3, h4, h5 _ _ _ fp1 [] S1 E1 (Tmp.flat (d := .str _) rfl)⟩

/-! ### list(d.values()) -/
theorem pe_listVals {te : TE} (hc : X.calm = true) (he : PE X e te) (hm : X.mg "list" = none) (hg : Gl X "list" := by rfl) (hbase : attributeBase e "values" X.env (eval e X.env) = eval e X.env := by rfl) (hline : (apos.endLine == cpos.line) = true := by rfl)
    (hs : starEach [.Call (.Attribute e "values" apos) [] [] cpos] X.env = (false, eval (.Call (.Attribute e "values" apos) [] [] cpos) X.env) :: starEach [] X.env := by rfl) :
    PE X (.Call (.Name "list" p) [.Call (.Attribute e "values" apos) [] [] cpos] [] pos) (fun σ H Q => te σ H fun x H1 => ∃ (d : Addr) (kvs : List (Key × V)), x = .ref d ∧ Rd H1 d (.dK kvs) ∧ ∀ p, H1 p = none → Q (.ref p) (upd H1 p (.lst (kvs.map (·.2))))) := by
  refine ⟨fun pins s σ H Q I hq => wpAny_Call_Name_kw (ld_blt I hg hm (u := .type "list") (by first | rfl | decide +kernel) (PyProof.Rows.callWith_type1 ?_ hs rfl))⟩
  rw [hs]
  show wpAny _ _ (spliced ((false, eval (.Call (.Attribute e "values" apos) [] [] cpos) X.env) :: backTo pos (starEach [] X.env))) _ _ s
  refine Calls.spliced_cons (wpAny_Call_method (T := "dict") (id := "dict.values") hbase rfl hline PySem.F.plainAttrs_dict PySem.F.slot_dict_values PySem.F.type_dict_values (thn (he.run pins s σ H _ I hq) fun u s1 ⟨x, H1, I1, rx, d, kvs, ex, hd, q⟩ => ?_))
  subst ex
  obtain rfl : u = Value.ref d := rx
  obtain ⟨hz, hs0, vs, kv, hdo⟩ := dk_rd I1.hok hd
  obtain ⟨ep, hat⟩ := hdo.dictAt
  have lk : kvs.length = vs.length := Paired.length kv
  have I2 : Inv X pins σ H1 { s1 with heap := s1.heap.push { cls := .type "dict_values", data := .fields #[.ref d] } } := I1.kept (t' := s1.toks) fun b ob q => Heap.get?_push_of_some _ q
  refine ⟨hdo.typeIs, hdo.mapOf.noDict, ?_⟩
  show wpAny _ _ (callWith cpos (.builtin "dict.values") [.ref d] [] []) _ X.xe s1
  refine method_meetsIn PySem.F.slot_dict_values PySem.F.entry_dict_values rfl (PySem.evalArgs_none ⟨rfl, hdo.typeIs, PySem.F.args_dict_values_1 _, _, meets_dict_values (mixKind X.prog X.w) d hs0, ⟨vs, hdo⟩, Calls.spliced_nil ?_⟩)
  refine PySem.W.kdl_call (PySem.W.kdl_values (knd := mixKind X.prog X.w) (kvs := vs) (ep := ep)) (I1.ok.hd hc) ⟨⟨_, Heap.get?_push_size _ rfl, rfl, rfl⟩, hat.push _⟩ (by omega) fun h' tk acc c hk hS hacc => ?_
  have ev : acc.toList = vs.map (·.2) := PySem.W.kdl_vals_eq acc.toList (by rw [Array.length_toList]; exact hacc.1) fun j v e => hacc.2 j v (by rw [← Array.getElem?_toList]; exact e)
  have rv : ∀ {kvs : List (Key × V)} {vs : List (Key × Value)}, KV kvs vs → Vals (kvs.map (·.2)) (vs.map (·.2)) := by
    intro kvs vs kv
    induction kv with
    | nil => exact .nil
    | cons h _ ih => exact .cons h.2 ih
  have fr : H1 (s1.heap.push { cls := .type "dict_values", data := .fields #[.ref d] }).objs.size = none := I2.fresh
  refine ⟨.ref _, _, I2.laid (t' := tk) (o := .lst (kvs.map (·.2))) hk (Nat.le_refl _) ⟨by rw [List.length_map]; exact hz, acc.toList, c, by rw [ev]; exact rv kv, by rw [Array.toArray_toList]; exact hS⟩, rfl, q _ fr⟩
theorem repl_vals {F : Fz} {H : Hp} : ∀ {ds : List (Key × D)} {vs : List (Key × V)}, RepK F H ds vs → RepL F H (valsD ds) (vs.map fun kv => kv.2)
  | [], _, h => by
    have h : _ = [] := h
    subst h
    rfl
  | (k, d) :: ds, _, h => by
    obtain ⟨⟨k2, v⟩, r, e, h1, h2⟩ := h
    have hh : k2 = k ∧ Rep F H d v := h1
    subst e
    exact ⟨v, _, rfl, hh.2, repl_vals h2⟩
def dListVals (te : TO) : TO := fun ρ Q => te ρ fun s ρ1 => ∃ kvs, s.2 = .dic kvs ∧ Q (1, .lst (valsD kvs)) ρ1
theorem v_listVals (hc : X.calm = true) (E : PV X en e te) (hm : X.mg "list" = none) (hg : Gl X "list" := by rfl) (hbase : attributeBase e "values" X.env (eval e X.env) = eval e X.env := by rfl) (hline : (apos.endLine == cpos.line) = true := by rfl)
    (hs : starEach [.Call (.Attribute e "values" apos) [] [] cpos] X.env = (false, eval (.Call (.Attribute e "values" apos) [] [] cpos) X.env) :: starEach [] X.env := by rfl) :
    PV X en (.Call (.Name "list" p) [.Call (.Attribute e "values" apos) [] [] cpos] [] pos) (dListVals te) := by
  refine ⟨(pe_listVals hc E.run hm hg hbase hline hs).imp fun σ H Q h => ?_, fun ρ Q Q' kk h => E.mono _ _ _ (fun s ρ1 ⟨kvs, h1, h2⟩ => ⟨kvs, h1, kk _ _ h2⟩) h⟩
  obtain ⟨ρ, F, fp, S, h⟩ := h
  refine ⟨ρ, F, fp, S, E.mono _ _ _ (fun s ρ1 ⟨kvs, h1, h2⟩ w H1 F1 fp1 l1 S1 E1 T1 => ?_) h⟩
  obtain ⟨S1', R1⟩ := T1.freeze S1
  have E1' := E1.trans (Ext.addL F1 H1 l1)
  rw [h1] at R1
  obtain ⟨d, ws, ev, f, ha, r⟩ := R1
  refine ⟨d, ws, ev, ha, fun p hp => ?_⟩
  obtain ⟨S2, E2, T2⟩ := (ans_lst S1'.tr hp (repl_vals r)).step S1'
  exact h2 _ _ _ fp1 _ S2 (E1'.trans E2) T2

/-! ### [a, b, c] whose things stay owned -/
def ownOne (s : Sl) : Prop := s.1 = 1 ∨ flatD s.2 = true
theorem own_one {F : Fz} {H : Hp} {s : Sl} {v : V} {l : List Addr} (h : ownOne s) (o : Own F H s.1 s.2 v l) : Own F H 1 s.2 v l := by
  rcases h with h | h
  · rw [h] at o; exact o
  · exact (own_flat h).mpr ((own_flat h).mp o)
def dLst3O (ta tb tc : TO) : TO := fun ρ Q => ta ρ fun s1 ρ1 => tb ρ1 fun s2 ρ2 => tc ρ2 fun s3 ρ3 => ownOne s1 ∧ ownOne s2 ∧ ownOne s3 ∧ Q (2, .lst [s1.2, s2.2, s3.2]) ρ3
theorem v_lst3O (A : PV X en a ta) (B : ∀ en', en'.ios = en.ios → PV X en' b tb) (C : ∀ en', en'.ios = en.ios → PV X en' c tc)
    (h1 : starEach [a, b, c] X.env = (false, eval a X.env) :: starEach [b, c] X.env := by rfl) (h2 : starEach [b, c] X.env = (false, eval b X.env) :: starEach [c] X.env := by rfl) (h3 : starEach [c] X.env = (false, eval c X.env) :: starEach [] X.env := by rfl) :
    PV X en (.List [a, b, c] pos) (dLst3O ta tb tc) := by
  have mb : MonoD tb := (B en rfl).mono
  have mc : MonoD tc := (C en rfl).mono
  refine ⟨(pe_lst (pa_cons A.run (pa_cons (pe_any B) (pa_cons (pe_any C) pa_nil h3) h2) h1)).imp fun σ H Q h => ?_, fun ρ Q Q' kk h => A.mono _ _ _ (fun s1 ρ1 h => mb _ _ _ (fun s2 ρ2 h => mc _ _ _ (fun s3 ρ3 ⟨g1, g2, g3, h⟩ => ⟨g1, g2, g3, kk _ _ h⟩) h) h) h⟩
  obtain ⟨ρ, F, fp, S, h⟩ := h
  refine ⟨ρ, F, fp, S, A.mono _ _ _ (fun s1 ρ1 h1 v1 H1 F1 fp1 l1 S1 E1 T1 => ?_) h⟩
  refine ⟨rb en F1 H1 fp1, rfl, ρ1, F1, fp1, S1.rebase, mb _ _ _ (fun s2 ρ2 h2 v2 H2 F2 fp2 l2 S2 E2 T2 => ?_) h1⟩
  have ap := T1.apart T2
  have T1' := T1.over S2 E2
  have T2' := Tmp.under S1 T2
  have SU := S1.unbase S2
  refine ⟨rb en F2 H2 fp2, rfl, ρ2, F2, fp2, SU.rebase, mc _ _ _ (fun s3 ρ3 ⟨g1, g2, g3, h3⟩ v3 H3 F3 fp3 l3 S3 E3 T3 => ?_) h2⟩
  have ap1 := T1'.apart T3
  have ap2 := T2'.apart T3
  have T1'' := T1'.over S3 E3
  have T2'' := T2'.over S3 E3
  have T3' := Tmp.under SU T3
  have S4 := SU.unbase S3
  refine ⟨by show 3 ≤ sizeLine; decide, fun p hp => ?_⟩
  obtain ⟨h0, nF, nf, nF0⟩ := S4.free hp
  obtain ⟨S5, E5⟩ := S4.newO (o := .lst [v1, v2, v3]) hp
  have ne1 : ∀ a ∈ l1, a ≠ p := fun a ha e => (T1''.ok a ha).2.1 (e ▸ hp)
  have ne2 : ∀ a ∈ l2, a ≠ p := fun a ha e => (T2''.ok a ha).2.1 (e ▸ hp)
  have ne3 : ∀ a ∈ l3, a ≠ p := fun a ha e => (T3'.ok a ha).2.1 (e ▸ hp)
  refine h3 _ _ _ fp3 (p :: (l1 ++ (l2 ++ (l3 ++ [])))) S5 (((E1.trans E2).trans E3).trans E5) ⟨?_, ?_, fun a ha => ?_⟩
  · exact ⟨p, [v1, v2, v3], _, rfl, upd_same, ⟨v1, _, l1, _, rfl, rfl, (own_one g1 T1''.own).ext E5 _ _ _ _ fun a ha => upd_ne (ne1 a ha), v2, _, l2, _, rfl, rfl, (own_one g2 T2''.own).ext E5 _ _ _ _ fun a ha => upd_ne (ne2 a ha), v3, _, l3, _, rfl, rfl, (own_one g3 T3'.own).ext E5 _ _ _ _ fun a ha => upd_ne (ne3 a ha), rfl, rfl⟩, rfl⟩
  · rw [List.append_nil]
    refine List.nodup_cons.mpr ⟨fun z => ?_, List.nodup_append.mpr ⟨T1''.nd, List.nodup_append.mpr ⟨T2''.nd, T3'.nd, fun a ha b hb e => ap2 b hb (e ▸ ha)⟩, fun a ha b hb e => ?_⟩⟩
    · rcases List.mem_append.mp z with z | z
      · exact ne1 p z rfl
      · rcases List.mem_append.mp z with z | z
        · exact ne2 p z rfl
        · exact ne3 p z rfl
    · rcases List.mem_append.mp hb with z | z
      · exact ap b z (e ▸ ha)
      · exact ap1 b z (e ▸ ha)
  · have key : ∀ {s : Sl} {v : V} {l : List Addr}, Tmp en F3 H3 fp3 s v l → a ∈ l → a ≠ p → ¬ F3 a ∧ upd H3 p (.lst [v1, v2, v3]) a ≠ none ∧ en.H0 a = none ∧ ¬ en.pin a ∧ ∀ i, a ∉ fp3 i := fun T ha ne => by
      have t := T.ok a ha
      exact ⟨t.1, by rw [upd_ne ne]; exact t.2.1, t.2.2⟩
    rw [List.append_nil] at ha
    rcases List.mem_cons.mp ha with e | ha
    · subst e
      exact ⟨nF, by rw [upd_same]; simp, h0, fun z => S4.pH _ z h0, nf⟩
    · rcases List.mem_append.mp ha with z | z
      · exact key T1'' z (ne1 a z)
      · rcases List.mem_append.mp z with z | z
        · exact key T2'' z (ne2 a z)
        · exact key T3' z (ne3 a z)

/-! ### x[j].clear(), x[j]["s"] = n, of an owned list of owned dicts -/
theorem OwnL.at1D {F : Fz} {H : Hp} : ∀ {ds : List D} {vs : List V} {ls : List Addr} {j : Nat} {cs : List (Key × D)}, OwnL (Own F H 1) ds vs ls → ls.Nodup → ds[j]? = some (.dic cs) →
    ∃ b us, vs[j]? = some (.ref b) ∧ b ∈ ls ∧ H b = some (.dK us) ∧ RepK F H cs us ∧ ∀ o cs' us', o = .dK us' → Ext F H F (upd H b o) → RepK F (upd H b o) cs' us' → OwnL (Own F (upd H b o) 1) (ds.set j (.dic cs')) vs ls
  | [], _, _, _, _, _, _, h => by simp at h
  | d :: ds, _, _, j, cs, ow, nd, h => by
    obtain ⟨v, r, l1, l2, e1, e2, h1, h2⟩ := ow
    subst e1 e2
    obtain ⟨nd1, nd2, dj⟩ := List.nodup_append.mp nd
    cases j with
    | zero =>
      have ed : d = .dic cs := by simpa using h
      subst ed
      obtain ⟨b, us, ev, hb, rl, el⟩ := own1_dic h1
      subst ev el
      refine ⟨b, us, rfl, by simp, hb, rl, fun o cs' us' eo x rl' => ?_⟩
      subst eo
      refine ⟨.ref b, r, [b], l2, rfl, rfl, mk1_dic upd_same rl', h2.imp fun d v l' hl p => p.ext x _ _ _ _ fun a ha => upd_ne fun z => ?_⟩
      exact dj b (by simp) a (hl a ha) z.symm
    | succ j =>
      obtain ⟨b, us, g1, g2, g3, g4, g5⟩ := OwnL.at1D (j := j) h2 nd2 (by simpa using h)
      refine ⟨b, us, by simpa using g1, List.mem_append_right _ g2, g3, g4, fun o cs' us' eo x rl' => ?_⟩
      refine ⟨v, r, l1, l2, rfl, rfl, h1.ext x _ _ _ _ fun a ha => upd_ne fun z => ?_, g5 o cs' us' eo x rl'⟩
      exact dj a ha b g2 z
theorem mt_dclear : MtR X "dict.clear" (fun x xs H Q => ∃ a kvs, x = .ref a ∧ xs = [] ∧ H a = some (.dK kvs) ∧ Q .non (upd H a (.dK []))) := by
  intro pins s σ H x xs v us Q I rx rv h
  obtain ⟨a, kvs, ex, exs, ha, q⟩ := h
  subst ex exs
  cases rx
  cases rv
  exact d_clear I ha fun s' I' => ⟨.non, _, I', rfl, q⟩
/-- an inner dict, changed -/
theorem SI.inner {ρ : DSt} {σ : St} {H : Hp} {F : Fz} {fp : Nat → List Addr} (S : SI en ρ σ H F fp) {i j : Nat} {ds : List D} {cs : List (Key × D)} (g1 : ρ[i]? = some (some (2, .lst ds))) (g2 : ds[j]? = some (.dic cs)) :
    ∃ a vs b us, σ[i]? = some (some (.ref a)) ∧ H a = some (.lst vs) ∧ atI vs ((j : Nat) : Int) = some (.ref b) ∧ H b = some (.dK us) ∧ RepK F H cs us ∧ ∀ us', Ext F H F (upd H b (.dK us')) ∧ ∀ cs', RepK F (upd H b (.dK us')) cs' us' → SI en (ρ.set i (some (2, .lst (ds.set j (.dic cs'))))) σ (upd H b (.dK us')) F fp ∧ Ext F H F (upd H b (.dK us')) := by
  obtain ⟨v, ev, ow⟩ := S.sl i _ _ g1
  obtain ⟨a, vs, ls, ea, ha, hl, hfp⟩ := ow
  subst ea
  have nd := S.nd i
  rw [hfp] at nd
  obtain ⟨b, us, w1, w2, w3, w4, w5⟩ := OwnL.at1D (j := j) hl (List.nodup_cons.mp nd).2 g2
  have hlt : j < vs.length := by rw [← OwnL.len hl]; exact (List.getElem?_eq_some_iff.mp g2).1
  have hb : b ∈ fp i := by rw [hfp]; exact List.mem_cons_of_mem _ w2
  have nab : a ≠ b := fun e => (List.nodup_cons.mp nd).1 (e ▸ w2)
  have hix : atI vs ((j : Nat) : Int) = some (.ref b) := by
    unfold atI ixN
    simp [hlt]
    rw [List.getElem?_eq_getElem hlt] at w1
    exact Option.some.inj w1
  refine ⟨a, vs, b, us, ev, ha, hix, w3, w4, fun us' => ?_⟩
  have x : Ext F H F (upd H b (.dK us')) := .of (fun _ h => h) fun c hc => upd_ne fun e => S.nF i b hb (e ▸ hc)
  refine ⟨x, fun cs' r' => ?_⟩
  exact S.mut (a := b) (o := .dK us') (n := 2) (n' := 2) (d := .lst ds) (d' := .lst (ds.set j (.dic cs'))) ev hb (by
    rw [hfp]
    exact ⟨a, vs, ls, rfl, by rw [upd_ne nab]; exact ha, w5 _ _ _ rfl x r', rfl⟩)
def dClearIx (i j : Nat) : TO := fun ρ Q => ∃ ds cs, ρ[i]? = some (some (2, .lst ds)) ∧ ds[j]? = some (.dic cs) ∧ Q (0, .non) (ρ.set i (some (2, .lst (ds.set j (.dic [])))))
theorem v_clearIx {jj : Nat} (i j : Nat) (hN : X.N[i]? = some x := by rfl) (hv : Vis X.env.scope x := by first | exact Or.inl rfl | exact Or.inr (Or.inl rfl) | exact Or.inr (Or.inr rfl)) (hs' : PlainIx (.Constant (.int (j : Nat)) jj ipos) := by intro _ _; rfl)
    (hbase : attributeBase (.Subscript (.Name x p) (.Constant (.int (j : Nat)) jj ipos) pos) "clear" X.env (eval (.Subscript (.Name x p) (.Constant (.int (j : Nat)) jj ipos) pos) X.env) = eval (.Subscript (.Name x p) (.Constant (.int (j : Nat)) jj ipos) pos) X.env := by rfl)
    (hline : (apos.endLine == cpos.line) = true := by rfl) (hd : (x == ("__debug__" : Str)) = false := by decide) (hcd : (x == ("__classdict__" : Str)) = false := by decide) :
    PV X en (.Call (.Attribute (.Subscript (.Name x p) (.Constant (.int (j : Nat)) jj ipos) pos) "clear" apos) [] [] cpos) (dClearIx i j) := by
  refine ⟨(pe_bm0 PySem.F.plainAttrs_dict PySem.F.slot_dict_clear PySem.F.type_dict_clear mt_dclear (pe_ix ix_list (pe_var hN hv hd hcd) pe_int hs') hbase hline).imp fun σ H Q h => ?_, fun ρ Q Q' kk ⟨ds, cs, h1, h2, h3⟩ => ⟨ds, cs, h1, h2, kk _ _ h3⟩⟩
  obtain ⟨ρ, F, fp, S, ds, cs, g1, g2, h⟩ := h
  obtain ⟨a, vs, b, us, ev, ha, hix, hb, rk, up⟩ := S.inner g1 g2
  obtain ⟨S3, E3⟩ := (up []).2 [] rfl
  exact ⟨.ref a, ev, a, vs, (j : Nat), .ref b, rfl, rfl, SqL.of ha, hix, .inr (.inr (.inl ⟨rfl, .inl ⟨_, hb⟩⟩)), b, us, rfl, rfl, hb, h _ _ F fp [] S3 E3 (Tmp.flat (d := .non) rfl)⟩
def dPutIxD (i j : Nat) (k : Str) (n : Int) : TSd := fun A ρ => ∃ ds cs, ρ[i]? = some (some (2, .lst ds)) ∧ ds[j]? = some (.dic cs) ∧ cs.length < sizeLine ∧ A.nx (ρ.set i (some (2, .lst (ds.set j (.dic (putD cs (.inr k) (.int n)))))))
theorem s_putIxD {jj j1 j2 : Nat} {k : Str} {n : Int} {kpos vpos tpos : Pos} (i j : Nat) (hu : X.A.units + 1 < cLine) (hN : X.N[i]? = some x := by rfl) (hv : Vis X.env.scope x := by first | exact Or.inl rfl | exact Or.inr (Or.inl rfl) | exact Or.inr (Or.inr rfl)) (hs' : PlainIx (.Constant (.int (j : Nat)) jj ipos) := by intro _ _; rfl)
    (hs : swapsWith (.Constant (.int n) j2 vpos) (some (.Subscript (.Subscript (.Name x p) (.Constant (.int (j : Nat)) jj ipos) p1) (.Constant (.str k) j1 kpos) tpos)) pos.line X.env = pure false := by rfl)
    (hd : (x == ("__debug__" : Str)) = false := by decide) (hcd : (x == ("__classdict__" : Str)) = false := by decide) :
    PSd X en (.Assign [.Subscript (.Subscript (.Name x p) (.Constant (.int (j : Nat)) jj ipos) p1) (.Constant (.str k) j1 kpos) tpos] (.Constant (.int n) j2 vpos) pos) (dPutIxD i j k n) := by
  refine ⟨(ps_dput hu (pe_ix ix_list (pe_var hN hv hd hcd) pe_int hs') pe_str pe_int hs).imp fun B σ H h => ?_, fun A B ρ L ⟨ds, cs, h1, h2, h3, h4⟩ => ⟨ds, cs, h1, h2, h3, L.nx _ h4⟩⟩
  obtain ⟨A, ρ, F, fp, L, S, ds, cs, g1, g2, g3, h⟩ := h
  obtain ⟨a, vs, b, us, ev, ha, hix, hb, rk, up⟩ := S.inner g1 g2
  obtain ⟨S3, E3⟩ := (up (putK us (.inr k) (.int n))).2 (putD cs (.inr k) (.int n)) ((RepK.ext (up _).1 _ _ rk).put (k := .inr k) (d := .int n) (v := .int n) rfl)
  exact ⟨.ref a, ev, a, vs, (j : Nat), .ref b, rfl, rfl, SqL.of ha, hix, b, _, rfl, .inl ⟨us, .inr k, hb, rfl, by rw [← rk.len]; exact g3, rfl⟩, L.nx _ _ ⟨_, F, fp, S3, E3, h⟩⟩
end

/-! ### zip of lists, of tuples -/
section
variable {X : Cx} {en : En}
theorem it_zipT {K : PySem.W.Frag} {F₁ : Fz} {H₁ : Hp} {a b : Addr} {vs us : List V} {ds es : List D} (f : F₁ a) (h : H₁ a = some (.tup vs)) (r : RepL F₁ H₁ ds vs) (f' : F₁ b) (h' : H₁ b = some (.tup us)) (r' : RepL F₁ H₁ es us) : ItOk en (RZ.ItzT K a b) (zipD ds es) F₁ H₁ where
  go := fun i H F x hi => by
    have hi' : i < ds.length ∧ i < es.length := by simpa [zipD, Nat.lt_min] using hi
    exact ⟨vs, us, vs[i]'(by rw [← r.len]; exact hi'.1), us[i]'(by rw [← r'.len]; exact hi'.2), SqT.of ((x.kp a f).keep h (fun _ z => nomatch z)), SqT.of ((x.kp b f').keep h' (fun _ z => nomatch z)), List.getElem?_eq_getElem _, List.getElem?_eq_getElem _⟩
  stop := fun i H F x hi => by
    have hi' : ds.length ≤ i ∨ es.length ≤ i := by
      have : min ds.length es.length ≤ i := by simpa [zipD] using hi
      omega
    refine ⟨vs, us, SqT.of ((x.kp a f).keep h (fun _ z => nomatch z)), SqT.of ((x.kp b f').keep h' (fun _ z => nomatch z)), ?_⟩
    rw [← r.len, ← r'.len]
    exact hi'
  yld := fun i H F v H' ex hi hy ρ σ fp S => by
    have hi' : i < ds.length ∧ i < es.length := by simpa [zipD, Nat.lt_min] using hi
    obtain ⟨T, x, y, ev, hT, e, hx, hy⟩ := hy
    subst e ev
    have hx := hx vs (SqT.of ((ex.kp a f).keep h (fun _ z => nomatch z)))
    have hy := hy us (SqT.of ((ex.kp b f').keep h' (fun _ z => nomatch z)))
    obtain ⟨d, hd⟩ : ∃ d, ds[i]? = some d := ⟨ds[i], List.getElem?_eq_getElem hi'.1⟩
    obtain ⟨d', hd'⟩ : ∃ d, es[i]? = some d := ⟨es[i], List.getElem?_eq_getElem hi'.2⟩
    obtain ⟨v, h1, h2⟩ := r.get hd
    obtain ⟨v', h3, h4⟩ := r'.get hd'
    rw [hx] at h1
    cases h1
    rw [hy] at h3
    cases h3
    have E2 : Ext F H (addF F T) (upd H T (.tup [x, y])) := Ext.new (S.free hT).2.1
    have eg : (zipD ds es)[i]? = some (.tup [d, d']) := by
      unfold zipD
      rw [List.getElem?_map, List.getElem?_zip_eq_some (z := (d, d')) |>.mpr ⟨hd, hd'⟩]
      rfl
    exact ⟨addF F T, _, eg, S.new hT, E2, ⟨T, _, rfl, .inr rfl, upd_same, x, [y], rfl, h2.ext (ex.trans E2), y, [], rfl, h4.ext (ex.trans E2), rfl⟩, fun a o' e => by rw [upd_ne (ne_of_none e hT)]; exact e,
      fun a h => h.elim .inl fun z => .inr (z ▸ hT)⟩
def dZipA (ta : TDs) : TDs := fun ρ Q => ta ρ fun ds ρ1 => ∃ xs ys, (ds = [.lst xs, .lst ys] ∨ ds = [.tup xs, .tup ys]) ∧ Q (zipD xs ys) ρ1
theorem i_zipA {a b : Expr} {ta : TDs} {p pos tpos : Pos} {elts : List Expr} {kk : Nat} (A : PVs X en [a, b] ta) (hm : X.mg "zip" = none) (hg : Gl X "zip" := by rfl) (hs : starEach [a, b] X.env = (false, eval a X.env) :: starEach [b] X.env := by rfl) (hpl : (backTo pos (starEach [b] X.env)).any (·.1) = false := by rfl) :
    PId X en (.Tuple elts kk tpos) (.Call (.Name "zip" p) [a, b] [] pos) (dZipA ta) := by
  refine ⟨(RZ.pi_zipA hg hm A.run hs hpl).imp fun σ H R h => ?_, fun ρ Q Q' k h => A.mono _ _ _ (fun ds ρ1 ⟨xs, ys, h1, h2⟩ => ⟨xs, ys, h1, k _ _ h2⟩) h⟩
  obtain ⟨ρ, F, fp, S, h⟩ := h
  refine ⟨ρ, F, fp, S, A.mono _ _ _ (fun ds ρ1 ⟨xs, ys, h1, h2⟩ vs H1 F1 fp1 S1 E1 R1 => ?_) h⟩
  rcases h1 with h1 | h1
  · subst h1
    obtain ⟨v, r, ev, ⟨a, ws, ea, f, ha, rl⟩, R2⟩ := R1
    obtain ⟨v2, ev2, b, us, eb, f', hb, rl'⟩ := repl_one R2
    exact ⟨a, b, ws, us, by rw [ev, ev2, ea, eb], .inl ⟨SqL.of ha, SqL.of hb, h2 _ H1 F1 fp1 S1 E1 (it_zip f ha rl f' hb rl')⟩⟩
  · subst h1
    obtain ⟨v, r, ev, ⟨a, ws, ea, f, ha, rl⟩, R2⟩ := R1
    obtain ⟨v2, ev2, b, us, eb, f', hb, rl'⟩ := repl_one R2
    exact ⟨a, b, ws, us, by rw [ev, ev2, ea, eb], .inr ⟨SqT.of ha, SqT.of hb, h2 _ H1 F1 fp1 S1 E1 (it_zipT f ha rl f' hb rl')⟩⟩
end
end DL

/-! DMa: repr(d) of a dict of flat things. -/
namespace DL
open PySem PySem.Spec PyProof.Rows L2
variable [LamT]
section
variable {X : Cx} {en : En} {e : Expr} {es : List Expr} {tl : TDs}
def rRepr1 : List V → Hp → VK → Prop := fun vs H Q => ∃ (F : Fz) (kvs : List (Key × D)) (v : V) (ps : List (PyData × PyData)), vs = [v] ∧ Rep F H (.dic kvs) v ∧ pyKv kvs = some ps ∧ (PyData.dict ps).showable = true ∧ (PyData.dict ps).depth ≤ 60 ∧ (PyData.dict ps).shown.length ≤ sizeLine ∧ Q (.str (PyData.dict ps).shown) H
theorem cr_repr1 (hg : X.A.guards = some []) (hu : X.A.units + 64 < cLine) : CallR X (.builtin "repr") rRepr1 := by
  intro pins s σ H vs us Q I r h
  obtain ⟨F, kvs, v, ps, rfl, rp, hp, h1, h2, h3, q⟩ := h
  obtain ⟨u, rfl, ru⟩ := vals1 r
  obtain ⟨as, rd, na⟩ := reads_dic I (d := .dic kvs) (p := .dict ps) (by show (pyKv kvs).map PyData.dict = _; rw [hp]; rfl) rp ru
  obtain ⟨a, ws, ev, _, _, _⟩ := rp
  subst ev
  obtain rfl : u = Value.ref a := ru
  refine repr_of_reads' rd h1 (fun _ => na) hg (by omega) (fun _ _ e => e) (fun h' t tk hk => ?_) h3
  exact ⟨.str _, H, I.kept (t' := tk) fun b ob e => hk b ob e, ⟨t, rfl⟩, q⟩
def wRepr1 : WL := fun ds k => ∃ kvs ps, ds = [.dic kvs] ∧ pyKv kvs = some ps ∧ (PyData.dict ps).showable = true ∧ (PyData.dict ps).depth ≤ 60 ∧ (PyData.dict ps).shown.length ≤ sizeLine ∧ k (0, .str (PyData.dict ps).shown)
theorem mono_repr1 : MonoL wRepr1 := fun _ _ _ f ⟨kvs, ps, h1, h2, h3, h4, h5, h6⟩ => ⟨kvs, ps, h1, h2, h3, h4, h5, f _ h6⟩
theorem fits_repr1 : FitsL rRepr1 wRepr1 := fun xs vs F H Q k tr r ⟨kvs, ps, e, h2, h3, h4, h5, hk⟩ q => by
  subst e
  obtain ⟨v, ev, rv⟩ := repl_one r
  exact ⟨F, kvs, v, ps, ev, rv, h2, h3, h4, h5, q _ _ _ _ _ hk (.same rfl)⟩
end
end DL

/-! DMb: a look that leaves one slot mutable (v_flatI: what is handed to a call that draws stays owned, where a flat thing is told). -/
namespace DL
open PySem PySem.Spec PyProof.Rows L2
variable [LamT]
section
variable {en : En} {ρ : DSt} {σ : St} {H : Hp} {F : Fz} {fp : Nat → List Addr} {i : Nat} {s : Sl} {v : V}
/-- all slots but one are frozen -/
def frzI (i : Nat) (s : Sl) (ρ : DSt) : DSt := (frz ρ).set i (some s)
def lookEnI (F : Fz) (H : Hp) (fp : Nat → List Addr) (i : Nat) (v : V) : En := ⟨fun a => F a ∨ ∃ j, j ≠ i ∧ a ∈ fp j, H, fun a => a ∈ fp i, fun _ => False, [(i, v)]⟩
theorem SI.lookI (S : SI en ρ σ H F fp) (hs : ρ[i]? = some (some s)) (hv : σ[i]? = some (some v)) :
    SI (lookEnI F H fp i v) (frzI i s ρ) σ H (fun a => F a ∨ ∃ j, j ≠ i ∧ a ∈ fp j) (fun j => if j = i then fp i else []) := by
  have hl : i < ρ.length := (List.getElem?_eq_some_iff.mp hs).1
  have lf : (frz ρ).length = ρ.length := by unfold frz; rw [List.length_map]
  have only : ∀ j a, a ∈ (if j = i then fp i else []) → j = i ∧ a ∈ fp i := fun j a h => by
    split at h
    · exact ⟨by assumption, h⟩
    · exact absurd h (by simp)
  have out : ∀ a, a ∈ fp i → ¬ (F a ∨ ∃ j, j ≠ i ∧ a ∈ fp j) := fun a h z => z.elim (S.nF i a h) fun ⟨j, hj, hm⟩ => S.dj j i a hj hm h
  refine { up := fun _ h => h, fr := fun _ h => .inl h, tr := fun a h => h.elim (S.tr a) fun ⟨j, _, h⟩ => S.tf j a h, kp := fun _ _ e _ _ => e, kF := fun _ _ => .inl rfl, dm := fun _ h => h, pH := fun a h => S.tf i a h, pf := fun a h => h.elim, tb := fun p h => (S.tb p h).of (fun _ z => .inl z) fun _ _ => rfl,
           sl := fun j n d h => ?_, nd := fun j => ?_, dj := fun j k a hne h h' => ?_, nF := fun j a h => out a (only j a h).2, tf := fun j a h => S.tf i a (only j a h).2, own := fun j a h => ?_, io := fun p h => ?_, len := ?_, pinF := fun a h z => absurd z (out a h) }
  · unfold frzI at h
    by_cases c : j = i
    · subst c
      rw [List.getElem?_set_self (by rw [lf]; exact hl)] at h
      cases h
      obtain ⟨v', e1, ow⟩ := S.sl j _ _ hs
      refine ⟨v', e1, ?_⟩
      simp only [if_pos]
      exact ow.ext (.of (fun _ z => .inl z) fun _ _ => rfl) _ _ _ _ fun _ _ => rfl
    · rw [List.getElem?_set_ne (Ne.symm c)] at h
      unfold frz at h
      rw [List.getElem?_map] at h
      cases e : ρ[j]? with
      | none => rw [e] at h; cases h
      | some o =>
        rw [e] at h
        cases o with
        | none => cases h
        | some t =>
          cases h
          obtain ⟨v', e1, ow⟩ := S.sl j t.1 t.2 e
          refine ⟨v', e1, ?_⟩
          simp only [if_neg c]
          exact ⟨rfl, ow.freeze (fun _ z => .inl z) _ _ _ _ fun a z => .inr ⟨j, c, z⟩⟩
  · by_cases c : j = i
    · simp only [if_pos c]; exact S.nd i
    · simp only [if_neg c]; exact List.nodup_nil
  · exact hne ((only j a h).1.trans (only k a h').1.symm)
  · refine .inr ⟨(only j a h).2, .inl ?_⟩
    rw [(only j a h).1]
    exact List.mem_cons_self
  · have : p = (i, v) := List.mem_singleton.mp h
    rw [this]
    exact hv
  · unfold frzI
    rw [List.length_set, lf]
    exact S.len
theorem SI.unlookI {ρ' : DSt} {fp' : Nat → List Addr} {H' H2 : Hp} {F' : Fz} {m n : Nat} (S : SI en ρ σ H F fp) (L : Liv ρ H fp) (hs : ρ[i]? = some (some s)) (T : SI (lookEnI F H fp i v) ρ' σ H' F' fp') (ht : ρ'[i]? = some (some (m + 1, .spr n)))
    (h1 : ∀ j a, j ≠ i → a ∈ fp j → H2 a = H a) (h2 : ∀ a, (∀ j, j ≠ i → a ∉ fp j) → H2 a = H' a) : SI en (ρ.set i (some (m + 1, .spr n))) σ H2 (newF F H F') (fun j => if j = i then fp' i else fp j) ∧ Ext F H (newF F H F') H2 := by
  have hl : i < ρ.length := (List.getElem?_eq_some_iff.mp hs).1
  have nF : ∀ a, F a → ∀ j, a ∉ fp j := fun a h j z => S.nF j a z h
  have nN : ∀ a, H a = none → ∀ j, a ∉ fp j := fun a h j z => S.tf j a z h
  have nI : ∀ a, a ∈ fp' i → ∀ j, j ≠ i → a ∉ fp j := fun a h j hj z => T.nF i a h (T.up a (.inr ⟨j, hj, z⟩))
  have x : Ext F H (newF F H F') H2 := ⟨fun _ h => .inl h, fun a h => by rw [h2 a fun j _ => nF a h j]; exact T.kF a (.inl h), fun p hp t => by
    obtain ⟨_, ps, e1, e2, e3⟩ := T.tb p hp
    refine ⟨.inl t.1, ps, (h2 _ fun j _ => nF _ t.1 j).trans e1, e2, fun pos cv hc => ?_⟩
    obtain ⟨c, c1, c2, c3⟩ := e3 pos cv hc
    have nc : ∀ j, j ≠ i → c ∉ fp j := fun j hj z => by
      have kk := T.kF c (.inr ⟨j, hj, z⟩)
      have pl := L.2 j c z
      rcases kk with e | ⟨o, ws, z1, z2⟩ | ⟨ps, more, z1, z2⟩
      · exact pl.2 c p.2 (Eq.trans e.symm c3)
      · rw [c3] at z2; cases z2
      · rw [c3] at z2; cases z2
    refine ⟨c, c1, ?_, (h2 c nc).trans c3⟩
    rcases T.fr c c2 with z | z | z
    · rcases z with z | ⟨j, hj, z⟩
      · exact .inl z
      · exact absurd z (nc j hj)
    · exact .inr ⟨c2, z⟩
    · exact z.elim⟩
  have key : ∀ j a, a ∈ (if j = i then fp' i else fp j) → (j = i ∧ a ∈ fp' i) ∨ (j ≠ i ∧ a ∈ fp j) := fun j a h => by
    split at h
    · exact .inl ⟨by assumption, h⟩
    · exact .inr ⟨by assumption, h⟩
  have mine : ∀ a, a ∈ fp' i → H2 a = H' a := fun a h => h2 a (nI a h)
  refine ⟨{ up := fun a h => x.up a (S.up a h), fr := fun a h => ?_, tr := fun a h => ?_, kp := fun a o e np nf => ?_, kF := fun a h => (S.kF a h).trans (x.kp a (S.up a h)), dm := fun a e => ?_, pH := S.pH, pf := S.pf, tb := fun p h => x.tb p h (S.tb p h),
            sl := fun j k d h => ?_, nd := fun j => ?_, dj := fun j k a hne h h' => ?_, nF := fun j a h => ?_, tf := fun j a h => ?_, own := fun j a h => ?_, io := S.io, len := by rw [List.length_set]; exact S.len, pinF := fun a h z => ?_ }, x⟩
  · rcases h with h | h
    · exact S.fr a h
    · refine .inr (.inl ?_)
      cases q : en.H0 a with
      | none => rfl
      | some o => exact absurd h.2 (S.dm a (by rw [q]; simp))
  · rcases h with h | h
    · exact (x.kp a h).some (S.tr a h)
    · rw [h2 a fun j _ => nN a h.2 j]
      exact T.tr a h.1
  · have e1 := S.kp a o e np nf
    have ni : a ∉ fp i := fun z => (S.own i a z).elim (fun y => by rw [e] at y; cases y) fun y => np y.1
    by_cases ow : ∃ j, j ≠ i ∧ a ∈ fp j
    · obtain ⟨j, hj, hm⟩ := ow
      rw [h1 j a hj hm]
      exact e1
    · rw [h2 a fun j hj z => ow ⟨j, hj, z⟩]
      exact T.kp a o e1 ni fun z => z.elim (S.nF0 e np nf) ow
  · have e1 := S.dm a e
    by_cases ow : ∃ j, j ≠ i ∧ a ∈ fp j
    · obtain ⟨j, hj, hm⟩ := ow
      rw [h1 j a hj hm]
      exact e1
    · rw [h2 a fun j hj z => ow ⟨j, hj, z⟩]
      exact T.dm a e1
  · by_cases c : j = i
    · subst c
      rw [List.getElem?_set_self hl] at h
      cases h
      obtain ⟨v', e1, ow⟩ := T.sl j _ _ ht
      refine ⟨v', e1, ?_⟩
      simp only [if_pos]
      obtain ⟨a, b, is, k1, k2, k3, ea, g1, g2, g3, el⟩ := ow
      exact ⟨a, b, is, k1, k2, k3, ea, (mine a (by rw [el]; simp)).trans g1, (mine b (by rw [el]; simp)).trans g2, g3, el⟩
    · rw [List.getElem?_set_ne (Ne.symm c)] at h
      obtain ⟨v', e1, ow⟩ := S.sl j k d h
      refine ⟨v', e1, ?_⟩
      simp only [if_neg c]
      exact ow.ext x _ _ _ _ fun a ha => h1 j a c ha
  · by_cases c : j = i
    · simp only [if_pos c]; exact T.nd i
    · simp only [if_neg c]; exact S.nd j
  · rcases key j a h with ⟨e, z⟩ | ⟨e, z⟩ <;> rcases key k a h' with ⟨e', z'⟩ | ⟨e', z'⟩
    · exact hne (e.trans e'.symm)
    · exact nI a z k e' z'
    · exact nI a z' j e z
    · exact S.dj j k a hne z z'
  · rcases key j a h with ⟨e, z⟩ | ⟨e, z⟩
    · exact fun y => y.elim (fun y => T.nF i a z (T.up a (.inl y))) fun y => T.nF i a z y.1
    · exact fun y => y.elim (S.nF j a z) fun y => S.tf j a z y.2
  · rcases key j a h with ⟨e, z⟩ | ⟨e, z⟩
    · rw [mine a z]; exact T.tf i a z
    · rw [h1 j a e z]; exact S.tf j a z
  · rcases key j a h with ⟨e, z⟩ | ⟨e, z⟩
    · rw [e]
      rcases T.own i a z with y | y
      · refine .inl ?_
        cases q : en.H0 a with
        | none => rfl
        | some o => exact absurd y (S.dm a (by rw [q]; simp))
      · exact S.own i a y.1
    · exact S.own j a z
  · rcases z with z | z
    · exact S.pinF a h z
    · exact absurd z.2 (S.dm a (S.pH a h))
theorem SI.backI {X : Cx} {pins : List (Addr × Obj)} {s0 s1 : Shared} {ρ' : DSt} {fp' : Nat → List Addr} {H' : Hp} {F' : Fz} {m n : Nat} (S : SI en ρ σ H F fp) (L : Liv ρ H fp) (hs : ρ[i]? = some (some s)) (I0 : Inv X pins σ H s0) (I : Inv X pins σ H' s1) (T : SI (lookEnI F H fp i v) ρ' σ H' F' fp') (ht : ρ'[i]? = some (some (m + 1, .spr n))) :
    ∃ H2 F2 fp2, Inv X pins σ H2 s1 ∧ SI en (ρ.set i (some (m + 1, .spr n))) σ H2 F2 fp2 ∧ Ext F H F2 H2 := by
  have ml : ∀ a, a ∈ ((List.range ρ.length).filter fun j => decide (j ≠ i)).flatMap fp ↔ ∃ j, j ≠ i ∧ a ∈ fp j := fun a => by
    rw [List.mem_flatMap]
    constructor
    · exact fun ⟨j, hj, h⟩ => ⟨j, of_decide_eq_true (List.mem_filter.mp hj).2, h⟩
    · intro ⟨j, hne, h⟩
      by_cases hj : j < ρ.length
      · exact ⟨j, List.mem_filter.mpr ⟨List.mem_range.mpr hj, decide_eq_true hne⟩, h⟩
      · rw [L.1 j (Nat.le_of_not_lt hj)] at h; exact absurd h (by simp)
  obtain ⟨H2, I2, g1, g2⟩ := unlocks I0 _ I (fun a ha => by
    obtain ⟨j, _, hj⟩ := (ml a).mp ha
    exact L.2 j a hj) fun a ha => T.kF a (.inr ((ml a).mp ha))
  have u := S.unlookI L hs T ht (fun j a hj h => g1 a ((ml a).mpr ⟨j, hj, h⟩)) fun a h => g2 a fun z => by
    obtain ⟨j, hj, hm⟩ := (ml a).mp z
    exact h j hj hm
  exact ⟨H2, _, _, I2, u.1, u.2⟩
/-- looked at, but that the stream in slot i may be drawn from -/
def dFlatI (i : Nat) (t : TO) : TO := fun ρ Q => ∃ s, ρ[i]? = some (some s) ∧ t (frzI i s ρ) fun r ρ' => flatD r.2 = true ∧ ∃ m n, ρ'[i]? = some (some (m + 1, .spr n)) ∧ Q (0, r.2) (ρ.set i (some (m + 1, .spr n)))
theorem v_flatI {X : Cx} {e : Expr} {t : TO} (i : Nat) (h : ∀ en', en'.ios = [i] → PV X en' e t) : PV X en e (dFlatI i t) := by
  refine ⟨⟨fun pins s0 σ H Q I q => ?_⟩, fun ρ Q Q' k ⟨s, q0, q⟩ => ⟨s, q0, (h ⟨fun _ => False, fun _ => none, fun _ => False, fun _ => False, [(i, .non)]⟩ rfl).mono _ _ _ (fun r ρ' ⟨q1, m, n, q2, q3⟩ => ⟨q1, m, n, q2, k _ _ q3⟩) q⟩⟩
  obtain ⟨ρ, F, fp, S0, s, hs, q⟩ := q
  have S := S0.clip
  obtain ⟨v0, hv, _⟩ := S.sl i _ _ hs
  have V := h (lookEnI F H (clip ρ fp) i v0) rfl
  refine thn (V.run.run pins s0 σ H (fun v H1 => ∃ (r : Sl) (ρ1 : DSt) (F1 : Fz) (fp1 : Nat → List Addr) (m n : Nat), SI (lookEnI F H (clip ρ fp) i v0) ρ1 σ H1 F1 fp1 ∧ Rep F1 H1 r.2 v ∧ flatD r.2 = true ∧ ρ1[i]? = some (some (m + 1, .spr n)) ∧ ∀ v H' F' fp' l, SI en (ρ.set i (some (m + 1, .spr n))) σ H' F' fp' → Ext F H F' H' → Tmp en F' H' fp' (0, r.2) v l → Q v H') I
    ⟨frzI i s ρ, _, _, S.lookI hs hv, V.mono _ _ _ (fun r ρ1 ⟨f, m, n, hm, q⟩ v H1 F1 fp1 l1 S1 E1 T1 => ?_) q⟩) fun v s1 ⟨x, H1, I1, rv, r, ρ1, F1, fp1, m, n, T1, R1, f, hm, q⟩ => ?_
  · obtain ⟨H2, F2, fp2, I2, S2, E2⟩ := S.backI S0.liv hs I I1 T1 hm
    exact ⟨x, H2, I2, rv, q x H2 F2 fp2 [] S2 E2 (Tmp.flat (rep_flat f R1))⟩
  · obtain ⟨S1', R1⟩ := T1.freeze S1
    exact ⟨r, ρ1, _, fp1, m, n, S1', R1, f, hm, q⟩
def dFlatBI (i : Nat) (t : TB) : TB := fun ρ Q => ∃ s, ρ[i]? = some (some s) ∧ t (frzI i s ρ) fun b ρ' => ∃ m n, ρ'[i]? = some (some (m + 1, .spr n)) ∧ Q b (ρ.set i (some (m + 1, .spr n)))
theorem t_flatI {X : Cx} {e : Expr} {u : TB} (i : Nat) (h : ∀ en', en'.ios = [i] → PB X en' e u) : PB X en e (dFlatBI i u) := by
  refine ⟨⟨fun pins s0 σ H Q I q => ?_⟩, fun ρ Q Q' k ⟨s, q0, q⟩ => ⟨s, q0, (h ⟨fun _ => False, fun _ => none, fun _ => False, fun _ => False, [(i, .non)]⟩ rfl).mono _ _ _ (fun r ρ' ⟨m, n, q2, q3⟩ => ⟨m, n, q2, k _ _ q3⟩) q⟩⟩
  obtain ⟨ρ, F, fp, S0, s, hs, q⟩ := q
  have S := S0.clip
  obtain ⟨v0, hv, _⟩ := S.sl i _ _ hs
  have V := h (lookEnI F H (clip ρ fp) i v0) rfl
  refine thn (V.run.run pins s0 σ H (fun b H1 => ∃ (ρ1 : DSt) (F1 : Fz) (fp1 : Nat → List Addr) (m n : Nat), SI (lookEnI F H (clip ρ fp) i v0) ρ1 σ H1 F1 fp1 ∧ ρ1[i]? = some (some (m + 1, .spr n)) ∧ ∀ H' F' fp', SI en (ρ.set i (some (m + 1, .spr n))) σ H' F' fp' → Ext F H F' H' → Q b H') I
    ⟨frzI i s ρ, _, _, S.lookI hs hv, V.mono _ _ _ (fun b ρ1 ⟨m, n, hm, q⟩ H1 F1 fp1 S1 E1 => ?_) q⟩) fun b s1 ⟨H1, I1, ρ1, F1, fp1, m, n, T1, hm, q⟩ => ?_
  · obtain ⟨H2, F2, fp2, I2, S2, E2⟩ := S.backI S0.liv hs I I1 T1 hm
    exact ⟨H2, I2, q H2 F2 fp2 S2 E2⟩
  · exact ⟨ρ1, _, fp1, m, n, S1, hm, q⟩
/-- x, y = a, b where both may raise -/
theorem s_par2R {X : Cx} {a b : Expr} {x y : Str} {pos px py pt pt2 : Pos} {kt k2 : Nat} {ta tb : TO} {R : RX} {i j : Nat} (tk : Takes X (wOf en R)) (A : PV X en a ta) (B : ∀ en', en'.ios = en.ios → Takes X (wOf en' R) → PV X en' b tb) (hi : i ∉ en.ios) (hj : j ∉ en.ios) (hij : i ≠ j) (hc : X.calm = true) (hN : X.N.Nodup) (hxi : X.N[i]? = some x := by rfl) (hyj : X.N[j]? = some y := by rfl)
    (hx : X.env.scope.names.lookup x = some .local := by rfl) (hy : X.env.scope.names.lookup y = some .local := by rfl)
    (hw : swappedStores [.Tuple [.Name x px, .Name y py] kt pt] (.Tuple [a, b] k2 pt2) X.env = pure (some [x, y]) := by rfl)
    (hs : swapsWithSole [.Tuple [.Name x px, .Name y py] kt pt] (.Tuple [a, b] k2 pt2) pos.line X.env = pure false := by rfl)
    (h1 : starEach [a, b] X.env = (false, eval a X.env) :: starEach [b] X.env := by rfl) (h2 : starEach [b] X.env = (false, eval b X.env) :: starEach [] X.env := by rfl) :
    PSd X en (.Assign [.Tuple [.Name x px, .Name y py] kt pt] (.Tuple [a, b] k2 pt2) pos) (dPar2 i j ta tb) := by
  have mb : MonoD tb := (B en rfl tk).mono
  have EB : PE X b (fun σ H Q => ∃ en', en'.ios = en.ios ∧ Takes X (wOf en' R) ∧ lift en' tb σ H Q) := ⟨fun pins s σ H Q I ⟨en', he, ht, q⟩ => (B en' he ht).run.run pins s σ H Q I q⟩
  refine ⟨(ps_par hc hN hxi hyj hij hx hy (pa_cons A.run (pa_cons EB pa_nil h2) h1) hw hs).imp fun D σ H h => ?_, fun A' B' ρ L h => A.mono _ _ _ (fun s1 ρ1 h => mb _ _ _ (fun s2 ρ2 h => L.nx _ h) h) h⟩
  obtain ⟨A', ρ, F, fp, L, S, h⟩ := h
  refine ⟨ρ, F, fp, S, A.mono _ _ _ (fun s1 ρ1 g1 v1 H1 F1 fp1 l1 S1 E1 T1 => ?_) h⟩
  refine ⟨rb en F1 H1 fp1, rfl, tk.imp fun c d σ' H' ⟨ρ', F', fp', e, S', er, hR⟩ => ⟨ρ', F', fp', e, S1.unbase S', er, hR⟩, ρ1, F1, fp1, S1.rebase, mb _ _ _ (fun s2 ρ2 g2 v2 H2 F2 fp2 l2 S2 E2 T2 => ?_) g1⟩
  have ap := T1.apart T2
  have T1' := T1.over S2 E2
  have T2' := Tmp.under S1 T2
  have S3 := (S1.unbase S2).store T1' hi
  exact ⟨v1, v2, rfl, L.nx _ _ ⟨_, F2, _, S3.store (T2'.beside ap) hj, E1.trans E2, g2⟩⟩
end
end DL

/-! DMc: the very object (D.tag): a look that tells a thing by its place (v_very), what is tagged is changed (v_appendT, s_putT), tags resolved in arguments (v_sub), contracts that look through tags (Callee.unt). -/
namespace DL
open PySem PySem.Spec PyProof.Rows L2
variable [LamT]

/-! ### what a look tells, with the things themselves in the place of what they hold -/
def thaw0 : D → Option D
  | .non => some .non
  | .bl b => some (.bl b)
  | .int i => some (.int i)
  | .str x => some (.str x)
  | .opq w => some (.opq w)
  | .tag w _ => some (.opq w)
  | _ => none
def thawL : List D → Option (List D)
  | [] => some []
  | x :: xs => match thaw0 x, thawL xs with
    | some y, some ys => some (y :: ys)
    | _, _ => none
def thawD : D → Option D
  | .tup xs => (thawL xs).map .tup
  | d => thaw0 d
section
variable {F F' : Fz} {H H' : Hp}
theorem rep_thaw0 {d d' : D} {v : V} (h : thaw0 d = some d') (r : Rep F H d v) : Rep F' H' d' v := by
  cases d <;> cases h <;> first | exact r | exact r.1
theorem rep_thawL : ∀ {ds ds' : List D} {vs : List V}, thawL ds = some ds' → RepL F H ds vs → RepL F' H' ds' vs
  | [], _, _, h, r => by cases h; exact r
  | d :: ds, ds', vs, h, r => by
    obtain ⟨v, r', e, h1, h2⟩ := r
    unfold thawL at h
    cases q1 : thaw0 d with
    | none => rw [q1] at h; cases h
    | some y =>
      cases q2 : thawL ds with
      | none => rw [q1, q2] at h; cases h
      | some ys =>
        rw [q1, q2] at h
        cases h
        exact ⟨v, r', e, rep_thaw0 q1 h1, rep_thawL q2 h2⟩
theorem rep_thawD {d d' : D} {v : V} (tu : ∀ p vs, F p → H p = some (.tup vs) → F' p ∧ H' p = some (.tup vs)) (h : thawD d = some d') (r : Rep F H d v) : Rep F' H' d' v := by
  cases d with
  | tup xs =>
    obtain ⟨ys, q1, q2⟩ := Option.map_eq_some_iff.mp (show (thawL xs).map D.tup = some d' from h)
    subst q2
    obtain ⟨a, vs, e, f, ha, rl⟩ := r
    obtain ⟨f', ha'⟩ := tu a vs f ha
    exact ⟨a, vs, e, f', ha', rep_thawL q1 rl⟩
  | non => first | (cases h; done) | (cases h; exact r) | (cases h; exact r.1)
  | bl _ => first | (cases h; done) | (cases h; exact r) | (cases h; exact r.1)
  | int _ => first | (cases h; done) | (cases h; exact r) | (cases h; exact r.1)
  | str _ => first | (cases h; done) | (cases h; exact r) | (cases h; exact r.1)
  | lst _ => first | (cases h; done) | (cases h; exact r) | (cases h; exact r.1)
  | dic _ => first | (cases h; done) | (cases h; exact r) | (cases h; exact r.1)
  | ins _ _ => first | (cases h; done) | (cases h; exact r) | (cases h; exact r.1)
  | spr _ => first | (cases h; done) | (cases h; exact r) | (cases h; exact r.1)
  | opq _ => first | (cases h; done) | (cases h; exact r) | (cases h; exact r.1)
  | tag _ _ => first | (cases h; done) | (cases h; exact r) | (cases h; exact r.1)
  | scr _ _ => first | (cases h; done) | (cases h; exact r) | (cases h; exact r.1)
end
theorem own_ntup {F : Fz} {H : Hp} : ∀ (n : Nat) (d : D) (v : V) (l : List Addr), Own F H n d v l → ∀ a ∈ l, ∀ vs, H a ≠ some (.tup vs)
  | 0, d, v, l, h => by rw [h.1]; exact fun a h => absurd h (by simp)
  | n + 1, .lst ds, v, l, h => by
    obtain ⟨a, vs, ls, e, h1, h2, rfl⟩ := h
    intro b hb
    rcases List.mem_cons.mp hb with z | z
    · rw [z, h1]; exact fun _ z => by cases z
    · exact ownL_pln (fun d v l h => own_ntup n d v l h) h2 b z
  | n + 1, .dic kvs, v, l, h => by
    obtain ⟨a, vs, ls, e, h1, h2, rfl⟩ := h
    intro b hb
    rcases List.mem_cons.mp hb with z | z
    · rw [z, h1]; exact fun _ z => by cases z
    · exact ownK_pln (fun d v l h => own_ntup n d v l h) h2 b z
  | n + 1, .ins C fs, v, l, h => by
    obtain ⟨a, dx, vs, ls, e, h1, h2, rfl⟩ := h
    intro b hb
    rcases List.mem_cons.mp hb with z | z
    · rw [z, h1]; exact fun _ z => by cases z
    · exact ownK_pln (fun d v l h => own_ntup n d v l h) h2 b z
  | n + 1, .spr c, v, l, h => by
    obtain ⟨a, b, is, i, j, r, e, h1, h2, h3, rfl⟩ := h
    intro x hx
    have hx : x = a ∨ x = b := by simpa using hx
    rcases hx with z | z
    · rw [z, h1]; exact fun _ z => by cases z
    · rw [z, h2]; exact fun _ z => by cases z
  | n + 1, .non, _, _, h => by rw [h.1]; exact fun a h => absurd h (by simp)
  | n + 1, .bl _, _, _, h => by rw [h.1]; exact fun a h => absurd h (by simp)
  | n + 1, .int _, _, _, h => by rw [h.1]; exact fun a h => absurd h (by simp)
  | n + 1, .str _, _, _, h => by rw [h.1]; exact fun a h => absurd h (by simp)
  | n + 1, .tup _, _, _, h => by rw [h.1]; exact fun a h => absurd h (by simp)
  | n + 1, .opq _, _, _, h => by rw [h.1]; exact fun a h => absurd h (by simp)
  | n + 1, .tag _ d, v, l, h => own_ntup n d v l h.2
  | n + 1, .scr _ _, _, _, h => by rw [h.1]; exact fun a h => absurd h (by simp)
section
variable {en : En} {ρ : DSt} {σ : St} {H H' : Hp} {F F' : Fz} {fp : Nat → List Addr}
/-- a slot is spoken of in other words -/
theorem SI.slot (S : SI en ρ σ H F fp) {i n n' : Nat} {d d' : D} (hs : ρ[i]? = some (some (n, d))) (k : ∀ v, σ[i]? = some (some v) → Own F H n d v (fp i) → Own F H n' d' v (fp i)) : SI en (ρ.set i (some (n', d'))) σ H F fp where
  toSince := S.toSince
  sl := fun j m e h => by
    by_cases c : j = i
    · subst c
      have hlt : j < ρ.length := (List.getElem?_eq_some_iff.mp hs).1
      rw [List.getElem?_set_self hlt] at h
      cases h
      obtain ⟨v, e1, ow⟩ := S.sl j _ _ hs
      exact ⟨v, e1, k v e1 ow⟩
    · rw [List.getElem?_set_ne (Ne.symm c)] at h
      exact S.sl j m e h
  nd := S.nd
  dj := S.dj
  nF := S.nF
  tf := S.tf
  own := S.own
  io := S.io
  len := by rw [List.length_set]; exact S.len
  pinF := S.pinF
theorem SI.ntup (S : SI en ρ σ H F fp) : ∀ i a, a ∈ DL.clip ρ fp i → ∀ vs, H a ≠ some (.tup vs) := fun i a h => by
  obtain ⟨⟨s, e⟩, ha⟩ := clip_sub h
  obtain ⟨v, _, ow⟩ := S.sl i s.1 s.2 e
  exact own_ntup _ _ _ _ ow a ha
/-- the end of a look, with what is known of the heap -/
theorem SI.backT {X : Cx} {pins : List (Addr × Obj)} {s0 s : Shared} {ρ' : DSt} {fp' : Nat → List Addr} (S : SI en ρ σ H F fp) (L : Liv ρ H fp) (I0 : Inv X pins σ H s0) (I : Inv X pins σ H' s) (T : SI (lookEn F H fp) ρ' σ H' F' fp') (nt : ∀ i a, a ∈ fp i → ∀ vs, H a ≠ some (.tup vs)) :
    ∃ H2 F2, Inv X pins σ H2 s ∧ SI en ρ σ H2 F2 fp ∧ Ext F H F2 H2 ∧ ∀ p vs, F' p → H' p = some (.tup vs) → F2 p ∧ H2 p = some (.tup vs) := by
  have ml : ∀ a, a ∈ (List.range ρ.length).flatMap fp ↔ ∃ i, a ∈ fp i := fun a => by
    rw [List.mem_flatMap]
    constructor
    · exact fun ⟨i, _, h⟩ => ⟨i, h⟩
    · intro ⟨i, h⟩
      by_cases hi : i < ρ.length
      · exact ⟨i, List.mem_range.mpr hi, h⟩
      · rw [L.1 i (Nat.le_of_not_lt hi)] at h; exact absurd h (by simp)
  obtain ⟨H2, I2, g1, g2⟩ := unlocks I0 _ I (fun a ha => by
    obtain ⟨i, hi⟩ := (ml a).mp ha
    exact L.2 i a hi) fun a ha => T.kF a (.inr ((ml a).mp ha))
  have g3 : ∀ i a, a ∈ fp i → H2 a = H a := fun i a h => g1 a ((ml a).mpr ⟨i, h⟩)
  have g4 : ∀ a, (∀ i, a ∉ fp i) → H2 a = H' a := fun a h => g2 a fun z => by
    obtain ⟨i, hi⟩ := (ml a).mp z
    exact h i hi
  have u := S.unlook L T g3 g4
  refine ⟨H2, _, I2, u.1, u.2, fun p vs hF hp => ?_⟩
  have np : ∀ i, p ∉ fp i := fun i z => by
    rcases T.kF p (.inr ⟨i, z⟩) with e | ⟨o, ws, e1, e2⟩ | ⟨ps, more, e1, e2⟩
    · exact nt i p z vs (e.symm.trans hp)
    · rw [hp] at e2; cases e2
    · rw [hp] at e2; cases e2
  refine ⟨?_, (g4 p np).trans hp⟩
  rcases T.fr p hF with z | z | z
  · rcases z with z | ⟨i, z⟩
    · exact .inl z
    · exact absurd z (np i)
  · exact .inr ⟨hF, z⟩
  · exact z.elim
end
/-- a look in which slot j's thing is known by its place; what is told may be, or hold, that very thing -/
def dVery (j : Nat) (t : TO) : TO := fun ρ Q => ∃ n d, ρ[j]? = some (some (n, d)) ∧ ∀ w, t ((frz ρ).set j (some (0, .tag w d))) fun r _ => ∃ r', thawD r.2 = some r' ∧ Q (0, r') (ρ.set j (some (n + 1, .tag w d)))
theorem v_very {X : Cx} {en : En} {e : Expr} {t : TO} (j : Nat) (h : ∀ en', en'.ios = [] → PV X en' e t) : PV X en e (dVery j t) := by
  refine ⟨⟨fun pins s σ H Q I q => ?_⟩, fun ρ Q Q' k ⟨n, d, h1, h2⟩ => ⟨n, d, h1, fun w => (h ⟨fun _ => False, fun _ => none, fun _ => False, fun _ => False, []⟩ rfl).mono _ _ _ (fun r _ ⟨r', q1, q2⟩ => ⟨r', q1, k _ _ q2⟩) (h2 w)⟩⟩
  obtain ⟨ρ, F, fp, S0, n, d, hs, q⟩ := q
  have S := S0.clip
  have V := h (lookEn F H (clip ρ fp)) rfl
  obtain ⟨w, hw, _⟩ := S.sl j _ _ hs
  have hs' : (frz ρ)[j]? = some (some (0, d)) := by
    unfold frz
    rw [List.getElem?_map, hs]
    rfl
  have SL := S.look.slot (n' := 0) (d' := .tag w d) hs' fun v hv ow => by
    rw [hw] at hv
    cases hv
    exact ⟨ow.1, rfl, ow.2⟩
  refine thn (V.run.run pins s σ H (fun v H1 => ∃ (r r' : D) (ρ1 : DSt) (F1 : Fz) (fp1 : Nat → List Addr), SI (lookEn F H (clip ρ fp)) ρ1 σ H1 F1 fp1 ∧ Rep F1 H1 r v ∧ thawD r = some r' ∧ ∀ v H' F' fp' l, SI en (ρ.set j (some (n + 1, .tag w d))) σ H' F' fp' → Ext F H F' H' → Tmp en F' H' fp' (0, r') v l → Q v H') I
    ⟨_, _, _, SL, V.mono _ _ _ (fun s1 ρ1 ⟨r', f, q⟩ v H1 F1 fp1 l1 S1 E1 T1 => ?_) (q w)⟩) fun v s1 ⟨x, H1, I1, rr, r, r', ρ1, F1, fp1, T1, R1, f, q⟩ => ?_
  · obtain ⟨H2, F2, I2, S2, E2, tu⟩ := S.backT S0.liv I I1 T1 S0.ntup
    have S3 := S2.slot (n' := n + 1) (d' := .tag w d) hs fun v hv ow => by
      rw [hw] at hv
      cases hv
      exact ⟨rfl, ow⟩
    exact ⟨x, H2, I2, rr, q x H2 F2 _ [] S3 E2 (Tmp.flat (rep_thawD tu f R1))⟩
  · obtain ⟨S1', R1⟩ := T1.freeze S1
    exact ⟨s1.2, r', ρ1, _, fp1, S1', R1, f, q⟩

/-! ### what is tagged is changed -/
def dMutLT (i : Nat) (ta : TDs) (op : List D → List D → (Sl → List D → Prop) → Prop) : TO := fun ρ Q => ∃ n w0 ds, ρ[i]? = some (some (n + 2, .tag w0 (.lst ds))) ∧ ta ρ fun as ρ1 => ∃ w ds, ρ1[i]? = some (some (2, .tag w (.lst ds))) ∧
  op ds as fun s ds' => Q s (ρ1.set i (some (2, .tag w (.lst ds'))))
section
variable {X : Cx} {en : En} {es : List Expr} {ta : TDs}
theorem mutL_readT {i : Nat} {r : V → List V → Hp → VK → Prop} {op : List D → List D → (Sl → List D → Prop) → Prop} (A : PVs X en es ta) (hf : FitsM r op) (hm : MonoM op) {σ : St} {H : Hp} {Q : VK} (h : lift en (dMutLT i ta op) σ H Q) :
    tBM X.K "list" r (tVar i) (liftL en ta) σ H Q := by
  obtain ⟨ρ, F, fp, S, n, w0, ds, h1, h⟩ := h
  obtain ⟨v, e, ow⟩ := S.sl i _ _ h1
  obtain ⟨_, ow⟩ := ow
  obtain ⟨a, vs, ls, ev, ha, hl, hfp⟩ := ow
  subst ev
  refine ⟨.ref a, e, .inl ⟨rfl, _, SqL.of ha⟩, ρ, F, fp, S, A.mono _ _ _ (fun as ρ1 ⟨w, ds1, h2, h⟩ us H1 F1 fp1 S1 E1 R1 => ?_) h⟩
  obtain ⟨v', e', ow'⟩ := S1.sl i _ _ h2
  rw [e] at e'
  cases e'
  obtain ⟨ew, ow'⟩ := ow'
  obtain ⟨a', vs1, ev, ha1, r1, hfp1⟩ := own1_lst ow'
  cases ev
  refine hf a vs1 ds1 as us F1 H1 Q _ ha1 r1 R1 h fun d ds' vs' w' hk rl rw' => ?_
  have hx : Ext F1 H1 F1 (upd H1 a (.lst vs')) := .of (fun _ h => h) fun b h => upd_ne fun z => S1.nF i a (by rw [hfp1]; simp) (z ▸ h)
  obtain ⟨S2, E2⟩ := S1.mut (a := a) (n := 2) (n' := 2) (d := .tag w (.lst ds1)) (d' := .tag w (.lst ds')) (o := .lst vs') e (by rw [hfp1]; simp) (by rw [hfp1]; exact ⟨ew, mk1_lst upd_same (RepL.ext hx _ _ rl)⟩)
  exact hk w' _ F1 fp1 [] S2 (E1.trans E2) (Tmp.flat (rw'.ext hx))
theorem mono_mutLT {i : Nat} {op : List D → List D → (Sl → List D → Prop) → Prop} (A : MonoD ta) (hm : MonoM op) : MonoD (dMutLT i ta op) := fun ρ Q Q' k ⟨n, w, ds, h1, h⟩ => ⟨n, w, ds, h1, A _ _ _ (fun as ρ1 ⟨w, ds1, h2, h⟩ => ⟨w, ds1, h2, hm _ _ _ _ (fun s d h => k _ _ h) h⟩) h⟩
theorem v_mutLT {x : Str} {p apos cpos : Pos} {name : Str} {id : String} {e : Expr} {r : V → List V → Hp → VK → Prop} {op : List D → List D → (Sl → List D → Prop) → Prop} (slot : Slot "list" name id) (hty : typeOf (.builtin id) = pure (.type "method_descriptor")) (hm : MtR X id r)
    (hf : FitsM r op) (hmo : MonoM op) (i : Nat) (A : PVs X en (e :: es) ta) (hN : X.N[i]? = some x := by rfl) (hv : Vis X.env.scope x := by first | exact Or.inl rfl | exact Or.inr (Or.inl rfl) | exact Or.inr (Or.inr rfl))
    (hbase : attributeBase (.Name x p) name X.env (eval (.Name x p) X.env) = eval (.Name x p) X.env := by rfl)
    (hfew : ((backTo cpos (starEach (e :: es) X.env)).all (fun x => !x.1) && (backToKw cpos (keywordEach [] X.env)).all (fun x => x.1.isSome)
      && decide ((e :: es).length + ([] : List Keyword).length + (if ([] : List Keyword).isEmpty then 0 else 1) < 30)) = true := by rfl)
    (hline : (apos.endLine == cpos.line) = true := by rfl) (hs : starEach (e :: es) X.env = (false, eval e X.env) :: starEach es X.env := by rfl) (hplain : (backTo cpos (starEach es X.env)).any (·.1) = false := by rfl)
    (hd : (x == ("__debug__" : Str)) = false := by decide) (hcd : (x == ("__classdict__" : Str)) = false := by decide) : PV X en (.Call (.Attribute (.Name x p) name apos) (e :: es) [] cpos) (dMutLT i ta op) :=
  ⟨(pe_bm PySem.F.plainAttrs_list slot hty hm (pe_var hN hv hd hcd) A.run hbase hfew hline hs hplain).imp fun σ H Q h => mutL_readT A hf hmo h, mono_mutLT A.mono hmo⟩
theorem v_appendT {x : Str} {p apos cpos : Pos} {e : Expr} {te : TO} (i : Nat) (E : PV X en e te) (hN : X.N[i]? = some x := by rfl) (hv : Vis X.env.scope x := by first | exact Or.inl rfl | exact Or.inr (Or.inl rfl) | exact Or.inr (Or.inr rfl))
    (hbase : attributeBase (.Name x p) "append" X.env (eval (.Name x p) X.env) = eval (.Name x p) X.env := by rfl)
    (hfew : ((backTo cpos (starEach [e] X.env)).all (fun x => !x.1) && (backToKw cpos (keywordEach [] X.env)).all (fun x => x.1.isSome)
      && decide ([e].length + ([] : List Keyword).length + (if ([] : List Keyword).isEmpty then 0 else 1) < 30)) = true := by rfl)
    (hline : (apos.endLine == cpos.line) = true := by rfl) (hs : starEach [e] X.env = (false, eval e X.env) :: starEach [] X.env := by rfl) (hplain : (backTo cpos (starEach [] X.env)).any (·.1) = false := by rfl)
    (hd : (x == ("__debug__" : Str)) = false := by decide) (hcd : (x == ("__classdict__" : Str)) = false := by decide) : PV X en (.Call (.Attribute (.Name x p) "append" apos) [e] [] cpos) (dMutLT i (dCons te dNil) opAppend) :=
  v_mutLT PySem.F.slot_list_append PySem.F.type_list_append mt_append fits_append mono_append i (v_cons E v_nil hs) hN hv hbase hfew hline hs hplain hd hcd
end
def dPutT (i : Nat) (tk tv : TO) : TSd := fun A ρ => tv ρ fun sv ρ1 => (∃ s, ρ1[i]? = some (some s)) ∧ tk ρ1 fun sk ρ2 => ∃ w kvs q, ρ2[i]? = some (some (2, .tag w (.dic kvs))) ∧ keyD sk.2 = some q ∧ kvs.length < sizeLine ∧ A.nx (ρ2.set i (some (2, .tag w (.dic (putD kvs q sv.2)))))
section
variable {X : Cx} {en : En} {k value : Expr} {x : Str} {pos pos' p : Pos} {tk tv : TO}
theorem s_putT (i : Nat) (hu : X.A.units + 1 < cLine) (Kk : PV X en k tk) (E : PV X en value tv) (hN : X.N[i]? = some x := by rfl) (hv : Vis X.env.scope x := by first | exact Or.inl rfl | exact Or.inr (Or.inl rfl) | exact Or.inr (Or.inr rfl))
    (hs : swapsWith value (some (.Subscript (.Name x p) k pos')) pos.line X.env = pure false := by rfl) (hd : (x == ("__debug__" : Str)) = false := by decide) (hcd : (x == ("__classdict__" : Str)) = false := by decide) :
    PSd X en (.Assign [.Subscript (.Name x p) k pos'] value pos) (dPutT i tk tv) := by
  refine ⟨(ps_dput hu (pe_var hN hv hd hcd) Kk.run E.run hs).imp fun B σ H h => ?_, fun A B ρ L h => E.mono _ _ _ (fun sv ρ1 ⟨h0, h⟩ => ⟨h0, Kk.mono _ _ _ (fun sk ρ2 ⟨w, kvs, q, h1, h2, h3, h4⟩ => ⟨w, kvs, q, h1, h2, h3, L.nx _ h4⟩) h⟩) h⟩
  obtain ⟨A, ρ, F, fp, L, S, h⟩ := h
  refine ⟨ρ, F, fp, S, E.mono _ _ _ (fun sv ρ1 ⟨⟨s0, h0⟩, h⟩ v H1 F1 fp1 l S1 E1 T1 => ?_) h⟩
  obtain ⟨S1', R1⟩ := T1.freeze S1
  have E1' := E1.trans (Ext.addL F1 H1 l)
  obtain ⟨dv, ev, _⟩ := S1'.sl i s0.1 s0.2 h0
  refine ⟨dv, ev, ρ1, _, fp1, S1', Kk.mono _ _ _ (fun sk ρ2 ⟨w, kvs, q, h1, h2, h3, h4⟩ kv H2 F2 fp2 l2 S2 E2 T2 => ?_) h⟩
  obtain ⟨S2', R2⟩ := T2.freeze S2
  have E2' := E2.trans (Ext.addL F2 H2 l2)
  obtain ⟨dv2, ev2, ow⟩ := S2'.sl i _ _ h1
  rw [ev] at ev2
  cases ev2
  obtain ⟨ew, ow⟩ := ow
  obtain ⟨a, ws, ea, ha, r, hfp⟩ := own1_dic ow
  subst ea
  have ek := keyD_rep h2 R2
  subst ek
  have hx : Ext (addL F2 l2) H2 (addL F2 l2) (upd H2 a (.dK (putK ws q v))) := .of (fun _ h => h) fun b h => upd_ne fun z => S2'.nF i a (by rw [hfp]; simp) (z ▸ h)
  obtain ⟨S3, E3⟩ := S2'.mut (a := a) (n := 2) (n' := 2) (d := .tag w (.dic kvs)) (d' := .tag w (.dic (putD kvs q sv.2))) (o := .dK (putK ws q v)) ev (by rw [hfp]; simp) (by rw [hfp]; exact ⟨ew, mk1_dic upd_same (RepK.ext hx _ _ (r.put (R1.ext E2')))⟩)
  exact ⟨a, _, rfl, .inl ⟨ws, q, ha, rfl, by rw [← r.len]; exact h3, rfl⟩, L.nx _ _ ⟨_, _, fp2, S3, (E1'.trans E2').trans E3, h4⟩⟩
end

/-! ### tags resolved -/
mutual
def tagsD : D → List (V × D)
  | .tag w d => [(w, d)]
  | .lst xs => tagsL xs
  | .tup xs => tagsL xs
  | _ => []
def tagsL : List D → List (V × D)
  | [] => []
  | x :: xs => tagsD x ++ tagsL xs
end
mutual
def SubP (T : List (V × D)) : D → D → Prop
  | .opq w, d' => d' = .opq w ∨ (w, d') ∈ T
  | .tag w d, d' => d' = .tag w d ∨ d' = d
  | .lst xs, d' => ∃ ys, d' = .lst ys ∧ SubPL T xs ys
  | .tup xs, d' => ∃ ys, d' = .tup ys ∧ SubPL T xs ys
  | d, d' => d' = d
def SubPL (T : List (V × D)) : List D → List D → Prop
  | [], ys => ys = []
  | x :: xs, ys => ∃ y zs, ys = y :: zs ∧ SubP T x y ∧ SubPL T xs zs
end
section
variable {F : Fz} {H : Hp}
mutual
theorem rep_tags : ∀ (d : D) (v : V), Rep F H d v → ∀ p ∈ tagsD d, Rep F H p.2 p.1
  | .tag w d, v, h, p, hp => by
    have : p = (w, d) := by simpa [tagsD] using hp
    subst this
    exact h.1 ▸ h.2
  | .lst xs, v, h, p, hp => by
    obtain ⟨a, vs, e, f, h1, h2⟩ := h
    exact repL_tags xs vs h2 p (by simpa [tagsD] using hp)
  | .tup xs, v, h, p, hp => by
    obtain ⟨a, vs, e, f, h1, h2⟩ := h
    exact repL_tags xs vs h2 p (by simpa [tagsD] using hp)
  | .non, _, _, p, hp => absurd hp (by simp [tagsD])
  | .bl _, _, _, p, hp => absurd hp (by simp [tagsD])
  | .int _, _, _, p, hp => absurd hp (by simp [tagsD])
  | .str _, _, _, p, hp => absurd hp (by simp [tagsD])
  | .dic _, _, _, p, hp => absurd hp (by simp [tagsD])
  | .ins _ _, _, _, p, hp => absurd hp (by simp [tagsD])
  | .spr _, _, _, p, hp => absurd hp (by simp [tagsD])
  | .opq _, _, _, p, hp => absurd hp (by simp [tagsD])
  | .scr _ _, _, _, p, hp => absurd hp (by simp [tagsD])
theorem repL_tags : ∀ (ds : List D) (vs : List V), RepL F H ds vs → ∀ p ∈ tagsL ds, Rep F H p.2 p.1
  | [], _, _, p, hp => absurd hp (by simp [tagsL])
  | d :: ds, _, h, p, hp => by
    obtain ⟨v, r, e, h1, h2⟩ := h
    rcases List.mem_append.mp (show p ∈ tagsD d ++ tagsL ds by simpa [tagsL] using hp) with z | z
    · exact rep_tags d v h1 p z
    · exact repL_tags ds r h2 p z
end
mutual
theorem rep_sub {T : List (V × D)} (hT : ∀ p ∈ T, Rep F H p.2 p.1) : ∀ (d d' : D) (v : V), SubP T d d' → Rep F H d v → Rep F H d' v
  | .opq w, d', v, s, h => by
    unfold SubP at s
    rcases s with s | s
    · rw [s]; exact h
    · have h : v = w := h
      rw [h]
      exact hT _ s
  | .tag w d, d', v, s, h => by
    unfold SubP at s
    rcases s with s | s
    · rw [s]; exact h
    · rw [s]; exact h.2
  | .lst xs, d', v, s, h => by
    unfold SubP at s
    obtain ⟨ys, e, s⟩ := s
    obtain ⟨a, vs, ev, f, h1, h2⟩ := h
    rw [e]
    exact ⟨a, vs, ev, f, h1, repL_sub hT xs ys vs s h2⟩
  | .tup xs, d', v, s, h => by
    unfold SubP at s
    obtain ⟨ys, e, s⟩ := s
    obtain ⟨a, vs, ev, f, h1, h2⟩ := h
    rw [e]
    exact ⟨a, vs, ev, f, h1, repL_sub hT xs ys vs s h2⟩
  | .non, d', _, s, h => by unfold SubP at s; rw [s]; exact h
  | .bl _, d', _, s, h => by unfold SubP at s; rw [s]; exact h
  | .int _, d', _, s, h => by unfold SubP at s; rw [s]; exact h
  | .str _, d', _, s, h => by unfold SubP at s; rw [s]; exact h
  | .dic _, d', _, s, h => by unfold SubP at s; rw [s]; exact h
  | .ins _ _, d', _, s, h => by unfold SubP at s; rw [s]; exact h
  | .spr _, d', _, s, h => by unfold SubP at s; rw [s]; exact h
  | .scr _ _, d', _, s, h => by unfold SubP at s; rw [s]; exact h
theorem repL_sub {T : List (V × D)} (hT : ∀ p ∈ T, Rep F H p.2 p.1) : ∀ (ds ds' : List D) (vs : List V), SubPL T ds ds' → RepL F H ds vs → RepL F H ds' vs
  | [], ds', _, s, h => by unfold SubPL at s; rw [s]; exact h
  | d :: ds, ds', _, s, h => by
    unfold SubPL at s
    obtain ⟨y, zs, e, s1, s2⟩ := s
    obtain ⟨v, r, ev, h1, h2⟩ := h
    rw [e]
    exact ⟨v, r, ev, rep_sub hT d y v s1 h1, repL_sub hT ds zs r s2 h2⟩
end
end
/-- arguments in which tags are resolved -/
def dSubT (tl : TDs) : TDs := fun ρ Q => tl ρ fun ds ρ' => ∃ ds', SubPL (tagsL ds) ds ds' ∧ Q ds' ρ'
theorem v_subT {X : Cx} {en : En} {es : List Expr} {tl : TDs} (A : PVs X en es tl) : PVs X en es (dSubT tl) := by
  refine ⟨A.run.imp fun σ H Q h => ?_, fun ρ Q Q' k h => A.mono _ _ _ (fun ds ρ' ⟨ds', s, q⟩ => ⟨ds', s, k _ _ q⟩) h⟩
  obtain ⟨ρ, F, fp, S, h⟩ := h
  exact ⟨ρ, F, fp, S, A.mono _ _ _ (fun ds ρ' ⟨ds', s, q⟩ vs H' F' fp' S' E' R' => q vs H' F' fp' S' E' (repL_sub (repL_tags _ _ R') _ _ _ s R')) h⟩

/-! ### contracts that look through tags -/
def UntL : List Sl → List Sl → Prop
  | [], bs => bs = []
  | a :: as, bs => ∃ b cs, bs = b :: cs ∧ (b = a ∨ ∃ w d, a = (0, .tag w d) ∧ b = (0, d)) ∧ UntL as cs
theorem UntL.refl : ∀ as : List Sl, UntL as as
  | [] => rfl
  | a :: as => ⟨a, as, rfl, .inl rfl, UntL.refl as⟩
theorem UntL.get : ∀ {as bs : List Sl}, UntL as bs → ∀ {i : Nat} {b : Sl}, bs[i]? = some b → ∃ a, as[i]? = some a ∧ (b = a ∨ ∃ w d, a = (0, .tag w d) ∧ b = (0, d))
  | [], _, h, i, b, e => by
    have h : _ = [] := h
    rw [h] at e
    cases e
  | a :: as, _, ⟨b0, cs, eb, h1, h2⟩, i, b, e => by
    subst eb
    cases i with
    | zero =>
      cases e
      exact ⟨a, rfl, h1⟩
    | succ i => exact UntL.get h2 e
theorem UntL.len : ∀ {as bs : List Sl}, UntL as bs → bs.length = as.length
  | [], _, h => by
    have h : _ = [] := h
    rw [h]
  | a :: as, _, ⟨b0, cs, eb, h1, h2⟩ => by
    subst eb
    simp [UntL.len h2]
def spT (sp : SpD) : SpD := fun args ret exc => ∃ args', UntL args args' ∧ sp args' ret exc
theorem ArgsOk.unt {F : Fz} {H : Hp} {args args' : List Sl} {vs : List V} {l : List Addr} (A : ArgsOk none F H args vs l) (u : UntL args args') : ArgsOk none F H args' vs l where
  len := u.len.trans A.len
  rep := fun i s v h1 h2 h3 => by
    obtain ⟨a, e, h⟩ := u.get h1
    have r := A.rep i a v e h2 h3
    rcases h with h | ⟨w, d, ea, eb⟩
    · rw [h]; exact r
    · rw [ea] at r
      rw [eb]
      exact ⟨rfl, r.2.2⟩
  own := fun i e => nomatch e
  nil := A.nil
  nd := A.nd
  ok := A.ok
  tr := A.tr
  tb := A.tb
theorem FnOk.unt {P : Program} {w : World} {K : PySem.W.Frag} {mg : Str → Option Value} {base : Heap} {CX : CXT} {k : Nat} {f : Addr} {fd : FuncData} {ps : List Str} {sp : SpD} (F : FnOk P w K mg base CX k f fd ps (spOf none sp)) : FnOk P w K mg base CX k f fd ps (spOf none (spT sp)) := by
  have key : ∀ vs H Q E, spOf none (spT sp) vs H Q E → spOf none sp vs H Q E := fun vs H Q E ⟨args, Fz', l, A, args', u, h⟩ => ⟨args', Fz', l, A.unt u, h⟩
  exact ⟨fun vs H Q E h => F.len vs H Q E (key _ _ _ _ h), fun A outer s H args us vs Q E hr he hb hv h => F.run A outer s H args us vs Q E hr he hb hv (key _ _ _ _ h)⟩
end DL

/-! DMd: tags resolved, rule by rule; the end of a law one of whose defs makes lambdas (law_in). -/
namespace DL
open PySem PySem.Spec PyProof.Rows L2
variable [LamT]
section
variable {T : List (V × D)}
theorem sub_nil : SubPL T [] [] := by unfold SubPL; rfl
theorem sub_cons {x y : D} {xs ys : List D} (h : SubP T x y) (k : SubPL T xs ys) : SubPL T (x :: xs) (y :: ys) := by unfold SubPL; exact ⟨y, ys, rfl, h, k⟩
theorem sub_lst {xs ys : List D} (k : SubPL T xs ys) : SubP T (.lst xs) (.lst ys) := by unfold SubP; exact ⟨ys, rfl, k⟩
theorem sub_tup {xs ys : List D} (k : SubPL T xs ys) : SubP T (.tup xs) (.tup ys) := by unfold SubP; exact ⟨ys, rfl, k⟩
theorem sub_opq {w : V} {d : D} (h : (w, d) ∈ T) : SubP T (.opq w) d := by unfold SubP; exact .inr h
theorem sub_tag {w : V} {d : D} : SubP T (.tag w d) d := by unfold SubP; exact .inr rfl
theorem sub_str {x : Str} : SubP T (.str x) (.str x) := by unfold SubP; rfl
theorem sub_int {x : Int} : SubP T (.int x) (.int x) := by unfold SubP; rfl
theorem sub_bl {x : Bool} : SubP T (.bl x) (.bl x) := by unfold SubP; rfl
theorem sub_non : SubP T .non .non := by unfold SubP; rfl
theorem sub_dic {kvs : List (Key × D)} : SubP T (.dic kvs) (.dic kvs) := by unfold SubP; rfl
end
section
variable {P : Program} {w : World} {K : PySem.W.Frag} {mg mb : Str → Option Value} {k : Nat} {fa a c tp : Addr} {fd : FuncData} {x : Str} {sp : Sp} {s₁ : Shared} {vs : List Value} {ns : List Int}
/-- at the law's call nothing but the script and one table is told of -/
theorem law_in (inK : K.In s₁.heap) (gN : s₁.heap.Ns mainGlobals mg) (bN : s₁.heap.Ns builtinsNs mb) (bB : ∀ x : Str, x ≠ "__name__" → mb x = bootBuiltins x) (lim : s₁.heap.NoLimit) (gens : s₁.gens = #[])
    (tT : s₁.heap.get? tp = some { cls := .none, data := .fields #[] }) (tK : K.lookup tp = none) (tC : PySem.W.CodeHd s₁.heap c tp)
    (bmn : ∃ (bm : Addr) (ob : Obj), mg "__builtins__" = some (.ref bm) ∧ bm ≠ builtinsNs ∧ s₁.heap.get? bm = some ob ∧ ob.cls = .type "module" ∧ ob.dict = some builtinsNs ∧ ob.data = .plain)
    (aT : s₁.heap.get? a = some { cls := .type "list", data := .seq vs.toArray }) (iv : IntsAre vs ns) (il : ns.length ≤ sizeLine) (rm : Room k callerA)
    (F : ∀ base : Heap, K.In base → base.Ns mainGlobals mg → LamX.TabB base mg c tp → DL.FnOk P w K mg base (L2.CX P w) k fa fd [x] sp) (bind : ∀ (s : Shared) (u : Value), BindsTo s fd ⟨[u], []⟩ [(x, u)])
    (hsp : ∀ H : Hp, H tp = some (.tbl #[]) → (∀ b, H b = none ∨ b = tp ∨ ∃ o xs, H b = some (.frz o (.lst xs))) → SqL K H a (ns.map V.int) → sp [.ref a] H (fun v _ => v = .bl true) fun _ _ _ => False)
    (noX : ∀ H e s', L2.CX P w [] H s₁ (fun _ _ _ => False) e s' → False) :
    codeAny (model P w) callerA (.call (.ref fa) ⟨[.ref a], []⟩) (fun r s' => r = .ok (.ret (.bool true)) ∧ OldK s₁.heap s'.heap ∧ s'.os = s₁.os ∧ AllBare s'.gens) s₁ := by
  obtain ⟨H, hH⟩ : ∃ H : Hp, ∀ b, H b = if b = tp then some (.tbl #[]) else if b = a ∧ K.lookup a = none then some (.frz { cls := .type "list", data := .seq vs.toArray } (.lst (ns.map V.int))) else none := ⟨_, fun _ => rfl⟩
  have valI := vals_ints iv
  have atp : a ≠ tp := fun z => by
    rw [z, tT] at aT
    cases aT
  have Ht : H tp = some (.tbl #[]) := by rw [hH, if_pos rfl]
  have kinds : ∀ b, H b = none ∨ b = tp ∨ (b = a ∧ H b = some (.frz { cls := .type "list", data := .seq vs.toArray } (.lst (ns.map V.int)))) := fun b => by
    rw [hH]
    by_cases h1 : b = tp
    · exact .inr (.inl h1)
    · by_cases h2 : b = a ∧ K.lookup a = none
      · rw [if_neg h1, if_pos h2]
        exact .inr (.inr ⟨h2.1, rfl⟩)
      · rw [if_neg h1, if_neg h2]
        exact .inl rfl
  -- what is neither the table nor the script is seen in the base
  have see : ∀ {b : Addr} {o : Obj}, s₁.heap.get? b = some o → o ≠ { cls := .none, data := .fields #[] } → o ≠ { cls := .type "list", data := .seq vs.toArray } → (hidT s₁.heap H).get? b = some o := fun {b o} e n1 n2 => by
    refine hidT_get e ?_
    rcases kinds b with z | z | ⟨z, _⟩
    · exact z
    · rw [z, tT] at e
      cases e
      exact absurd rfl n1
    · rw [z, aT] at e
      cases e
      exact absurd rfl n2
  have dicts : ∀ {b : Addr} {m : Str → Option Value}, s₁.heap.Ns b m → (hidT s₁.heap H).Ns b m := fun {b m} n => by
    obtain ⟨o, es, ep, h1, h2, h3⟩ := n
    exact ⟨o, es, ep, see h1 (fun z => by rw [z] at h2; cases h2) (fun z => by rw [z] at h2; cases h2), h2, h3⟩
  have inB : K.In (hidT s₁.heap H) := fun b o e => by
    refine hidT_get (inK b o e) ?_
    rw [hH]
    by_cases h1 : b = tp
    · rw [h1, tK] at e
      cases e
    · by_cases h2 : b = a ∧ K.lookup a = none
      · rw [h2.1, h2.2] at e
        cases e
      · rw [if_neg h1, if_neg h2]
  have table : LamX.TabB (hidT s₁.heap H) mg c tp := by
    refine ⟨?_, ?_, fun z => ?_⟩
    · obtain ⟨o, us, file, tf, flags, tg, inF, text, tt, g1, g2, g3, more⟩ := tC
      exact ⟨o, us, file, tf, flags, tg, inF, text, tt, see g1 (fun z => by rw [z] at g2; cases g2) (fun z => by
        rw [z] at g2
        injection g2 with y
        exact absurd y (by decide)), g2, g3, more⟩
    · obtain ⟨bm, ob, m1, m2, m3, m4, m5, m6⟩ := bmn
      refine ⟨bm, ob, m1, m2, fun z => ?_, fun z => ?_, see m3 (fun z => by rw [z] at m6; cases m6) (fun z => by rw [z] at m6; cases m6), m4, m5, m6⟩
      · obtain ⟨o, es, ep, h1, h2, _⟩ := gN
        rw [← z, m3] at h1
        cases h1
        rw [m6] at h2
        cases h2
      · rw [z, tT] at m3
        cases m3
        cases m6
    · obtain ⟨o, es, ep, h1, h2, _⟩ := gN
      rw [z, tT] at h1
      cases h1
      cases h2
  have hok : HOk P w H s₁.heap := fun b u e => by
    rcases kinds b with z | z | ⟨z, q⟩
    · rw [z] at e; cases e
    · rw [z, Ht] at e
      cases e
      rw [z]
      exact tT
    · rw [q] at e
      cases e
      rw [z]
      exact ⟨aT, by rw [List.length_map]; exact il, vs, _, valI, aT⟩
  have scr : SqL K H a (ns.map V.int) := by
    cases q : K.lookup a with
    | none => exact .inl (.inr ⟨_, by rw [hH, if_neg atp, if_pos ⟨rfl, q⟩]⟩)
    | some o =>
      have e := inK a o q
      rw [aT] at e
      cases e
      exact .inr ⟨_, vs.toArray, _, q, rfl, rfl, rfl, by rw [List.size_toArray, iv.length]; exact il, by simpa using valI⟩
  have limB : (hidT s₁.heap H).NoLimit := by
    obtain ⟨mc, h1, h2⟩ := lim
    exact ⟨mc, dicts h1, h2⟩
  have env : Env0 P w K mg (hidT s₁.heap H) callerA [] s₁ H := ⟨rfl, ⟨inB, dicts gN, ⟨mb, dicts bN, bB⟩, limB⟩, fun b o e => of_hidT e, Nat.le_of_eq (hidT_size _ _), trivial, fun b hb => absurd (show b ∈ ([] : List Addr) from hb) (by simp), hok, .of_eq gens⟩
  have told := (F _ inB (dicts gN) table).run callerA [] s₁ H ⟨[.ref a], []⟩ [.ref a] [.ref a] _ _ rm env (bind s₁ (.ref a)) (.cons rfl .nil) (hsp H Ht (fun b => (kinds b).elim .inl fun z => .inr (z.elim .inl fun z => .inr ⟨_, _, z.2⟩)) scr)
  refine codeAny_mono told fun r s' out => ?_
  match r, out with
  | .error e, out => exact (noX H e s' out).elim
  | .ok .next, out => exact False.elim out
  | .ok .brk, out => exact False.elim out
  | .ok .cont, out => exact False.elim out
  | .ok (.ret u), out =>
    obtain ⟨v, H', os, bare, un, hok', rv, ev⟩ := out
    have ev : v = .bl true := ev
    subst ev
    obtain rfl : u = Value.bool true := rv
    obtain ⟨more, tT'⟩ : ∃ more : Array Value, s'.heap.get? tp = some { cls := .none, data := .fields more } := by
      obtain ⟨more, z⟩ := un.tbls tp #[] Ht
      exact ⟨_, hok' tp _ z⟩
    have keeps : ∀ b o, b ≠ tp → s₁.heap.get? b = some o → s'.heap.get? b = some o := fun b o nb e => by
      rcases kinds b with z | z | ⟨z, q⟩
      · exact un.keep b o e z (by intro y; exact absurd (show b ∈ ([] : List Addr) from y) (by simp)) (by simp)
      · exact absurd z nb
      · obtain ⟨e2, _⟩ := hok' b _ (un.frzs b _ _ q)
        rw [z, aT] at e
        cases e
        exact e2
    refine ⟨rfl, ⟨fun b o e => ?_, fun b o e => ?_⟩, os, bare⟩
    · by_cases nb : b = tp
      · rw [nb, tT] at e
        cases e
        rw [nb]
        exact .inr (.inl ⟨(tC.tab tT).isCodeTable, rfl, #[], more, rfl, by rw [Array.empty_append]; exact tT'⟩)
      · exact .inl (keeps b o nb e)
    · by_cases nb : b = tp
      · rw [nb]
        exact ⟨_, tT'⟩
      · exact ⟨o, keeps b o nb e⟩
end
end DL

/-! DMe: the ends of a law, what is alike from law to law. -/
namespace DL
open PySem PySem.Spec PyProof.Rows L2
structure TopAt (K : PySem.W.Frag) (x : Str) (st : Stmt) : Prop where
  ex : ∃ f fd, PySem.W.nsIn K mainGlobals x = some (some (.ref f)) ∧ Fun K x x st f fd
structure ErrAt (K : PySem.W.Frag) (mg : Str → Option Value) (x : Str) (C : Addr) (qual : Str) (st : Stmt) (flds : List Str) : Prop where
  oex : OexC K C
  gm : mg x = some (.ref C)
  xf : XfC K C
  no : ∀ g ∈ flds, PySem.W.findIn K (.ref C) g = some none
  ini : ∃ f fd, PySem.W.findIn K (.ref C) "__init__" = some (some (.ref f)) ∧ PySem.W.typeIn K (.ref f) = some (.type "function") ∧ Fun K "__init__" qual st f fd
theorem top_mk {K : PySem.W.Frag} {x : Str} {st : Stmt} {f : Addr} {oc : Value} {od an : Option Addr} {osl : Array (Option Value)} {kV doc pm cdv ct : Value} (a : PySem.W.nsIn K mainGlobals x = some (some (.ref f)))
    (l : K.lookup f = some ⟨oc, od, .func (PySem.W.fnOf x x (defArgs st) (defBody st) (defScope st) .none kV doc pm an cdv ct), osl⟩) (c : PySem.W.codeIn K cdv x = true) (k : PySem.W.keepIn K (.ref f) = true) : TopAt K x st :=
  ⟨f, _, a, fun_mk l c k⟩
structure TopC (K : PySem.W.Frag) (x : Str) (st : Stmt) (cdv : Value) : Prop where
  ex : ∃ f fd, PySem.W.nsIn K mainGlobals x = some (some (.ref f)) ∧ FunC K x x st f fd cdv
theorem topC_mk {K : PySem.W.Frag} {x : Str} {st : Stmt} {f : Addr} {oc : Value} {od an : Option Addr} {osl : Array (Option Value)} {kV doc pm cdv ct : Value} (a : PySem.W.nsIn K mainGlobals x = some (some (.ref f)))
    (l : K.lookup f = some ⟨oc, od, .func (PySem.W.fnOf x x (defArgs st) (defBody st) (defScope st) .none kV doc pm an cdv ct), osl⟩) (c : PySem.W.codeIn K cdv x = true) (k : PySem.W.keepIn K (.ref f) = true) : TopC K x st cdv :=
  ⟨f, _, a, ⟨oc, od, kV, doc, pm, an, ct, osl, rfl, l, c⟩, k⟩
structure MethAt (K : PySem.W.Frag) (C : Addr) (x qual : Str) (st : Stmt) : Prop where
  ex : ∃ f fd, PySem.W.findIn K (.ref C) x = some (some (.ref f)) ∧ PySem.W.isFn K (.ref f) = true ∧ Fun K x qual st f fd
theorem meth_mk {K : PySem.W.Frag} {C : Addr} {x qual : Str} {st : Stmt} {f : Addr} {oc : Value} {od an : Option Addr} {osl : Array (Option Value)} {kV doc pm cdv ct : Value} (a : PySem.W.findIn K (.ref C) x = some (some (.ref f))) (i : PySem.W.isFn K (.ref f) = true)
    (l : K.lookup f = some ⟨oc, od, .func (PySem.W.fnOf x qual (defArgs st) (defBody st) (defScope st) .none kV doc pm an cdv ct), osl⟩) (c : PySem.W.codeIn K cdv qual = true) (k : PySem.W.keepIn K (.ref f) = true) : MethAt K C x qual st :=
  ⟨f, _, a, i, fun_mk l c k⟩
theorem err_mk {K : PySem.W.Frag} {h : Heap} {mg : Str → Option Value} {x : Str} {C f : Addr} {qual : Str} {st : Stmt} {flds : List Str} {nm q N bs bm sn sub ab col dd k0 k1 k2 k3 k5} {oc : Value} {od an : Option Addr} {osl : Array (Option Value)} {kV doc pm cdv ct : Value} (X : K.In h) (G : h.Ns mainGlobals mg)
    (m : PySem.W.nsIn K mainGlobals x = some (some (.ref C))) (c0 : K.lookup C = some (excClassObj nm q C N bs bm true sn sub ab col dd k0 k1 k2 k3 k5 "ValueError.__new__")) (c1 : PySem.HandSPX.refsVE bm = true) (sa : PySem.W.findIn K (.ref C) "__setattr__" = some (some (.builtin "object.__setattr__")))
    (ex : PySem.W.subIn K (.ref C) (.type "BaseException") = some true) (ty : PySem.W.typeIn K (.ref C) = some (.type "type")) (kC : PySem.W.keepIn K (.ref C) = true)
    (ga : PySem.W.findIn K (.ref C) "__getattribute__" = some (some (.builtin "BaseException.__getattribute__"))) (gg : PySem.W.findIn K (.ref C) "__getattr__" = some none) (hd : PySem.W.hasDictIn K C = true) (no : ∀ g ∈ flds, PySem.W.findIn K (.ref C) g = some none)
    (a : PySem.W.findIn K (.ref C) "__init__" = some (some (.ref f))) (i : PySem.W.typeIn K (.ref f) = some (.type "function"))
    (l : K.lookup f = some ⟨oc, od, .func (PySem.W.fnOf "__init__" qual (defArgs st) (defBody st) (defScope st) .none kV doc pm an cdv ct), osl⟩) (c : PySem.W.codeIn K cdv qual = true) (k : PySem.W.keepIn K (.ref f) = true) : ErrAt K mg x C qual st flds :=
  ⟨⟨⟨nm, q, N, bs, bm, sn, sub, ab, col, dd, k0, k1, k2, k3, k5, c0, c1⟩, sa, ex, ty, kC⟩, PySem.W.mg_of X G m, ⟨ga, gg, ex, hd⟩, no, f, _, a, i, fun_mk l c k⟩
theorem str_mk {K : PySem.W.Frag} {h : Heap} {mg : Str → Option Value} {x y : Str} {t} (X : K.In h) (G : h.Ns mainGlobals mg) (a : PySem.W.nsIn K mainGlobals x = some (some (.str y t))) : ∃ t, mg x = some (.str y t) := ⟨t, PySem.W.mg_of X G a⟩
theorem tab_mk {K : PySem.W.Frag} {x : Str} {st : Stmt} {cL PL : Addr} {e0 : Value} {dd0 : Option Addr} {vs0 : Array Value} {sl0 : Array (Option Value)} (A : TopC K x st (.ref cL)) (lc : K.lookup cL = some ⟨e0, dd0, .fields vs0, sl0⟩) (hp : vs0[11]? = some (.ref PL)) : PySem.W.tabIn K x = some (cL, PL) := by
  obtain ⟨f, fd, a, F⟩ := A.ex
  obtain ⟨oc, od, kV, doc, pm, an, ct, osl, rfl, lk, hcd⟩ := F.ex
  unfold PySem.W.tabIn
  simp only [a, lk, PySem.W.fnOf, lc, hp]
theorem exm_at {K : PySem.W.Frag} {mg : Str → Option Value} {x qual : Str} {C : Addr} {st : Stmt} {cls : Value} {b : Bool} {flds : List Str} (A : ErrAt K mg x C qual st flds) (h : PySem.W.subIn K cls (.ref C) = some b) : PySem.W.exmOne K cls (.ref C) = some b := PySem.W.exm_ref A.oex.exC A.xf.hdC A.oex.tyC h
def spF : SpD := fun _ _ _ => False
section
variable [LamT]
variable {P : Program} {w : World} {K : PySem.W.Frag} {mg : Str → Option Value} {base h : Heap} 
theorem callee_mk {x : Str} {st : Stmt} {k : Nat} {io : Option Nat} {sp : SpD} {ps : List Str} (X : K.In h) (G : h.Ns mainGlobals mg) (A : TopAt K x st) (hb : ∀ f fd, Fun K x x st f fd → Binds K fd ps [])
    (ok : ∀ f fd, Fun K x x st f fd → DL.FnOk P w K mg base (L2.CX P w) k f fd ps (spOf io sp)) : DL.Callee P w K mg base x k io sp := by
  obtain ⟨f, fd, a, F⟩ := A.ex
  exact ⟨f, fd, ps, ok f fd F, PySem.W.mg_of X G a, F.kp, hb f fd F⟩
theorem calleeC_mk {x : Str} {st : Stmt} {cdv : Value} {k : Nat} {io : Option Nat} {sp : SpD} {ps : List Str} (X : K.In h) (G : h.Ns mainGlobals mg) (A : TopC K x st cdv) (hb : ∀ f fd, Fun K x x st f fd → Binds K fd ps [])
    (ok : ∀ f fd, FunC K x x st f fd cdv → DL.FnOk P w K mg base (L2.CX P w) k f fd ps (spOf io sp)) : DL.Callee P w K mg base x k io sp := by
  obtain ⟨f, fd, a, F⟩ := A.ex
  exact ⟨f, fd, ps, ok f fd F, PySem.W.mg_of X G a, F.kp, hb f fd F.toFun⟩
theorem calleeM_mk {C : Addr} {x qual : Str} {st : Stmt} {k : Nat} {sp : SpD} {ps : List Str} (cl : Cls K C) (A : MethAt K C x qual st) (hb : ∀ f fd, Fun K x qual st f fd → Binds K fd ps [])
    (ok : ∀ f fd, Fun K x qual st f fd → DL.FnOk P w K mg base (L2.CX P w) k f fd ps (spOf none sp)) : DL.CalleeM P w K mg base C x k sp := by
  obtain ⟨f, fd, a, i, F⟩ := A.ex
  exact ⟨cl, f, fd, ps, ok f fd F, ⟨a, i, F.kp⟩, hb f fd F⟩
theorem maker_mk {C : Addr} {cx x qual : Str} {st : Stmt} {k : Nat} {sp : SpD} {ps : List Str} (hx : x = "__init__") (m : mg cx = some (.ref C)) (mk : PySem.W.makesIn K C = true) (kc : PySem.W.keepIn K (.ref C) = true) (A : MethAt K C x qual st) (hb : ∀ f fd, Fun K x qual st f fd → Binds K fd ps [])
    (ok : ∀ f fd, Fun K x qual st f fd → DL.FnOk P w K mg base (L2.CX P w) k f fd ps (spOf (some 0) sp)) : DL.Maker P w K mg base cx C k sp := by
  obtain ⟨f, fd, a, i, F⟩ := A.ex
  subst hx
  exact ⟨f, fd, ps, ok f fd F, ⟨mk, a, i, kc⟩, m, hb f fd F⟩
theorem calleeF {x : Str} {st : Stmt} {ps : List Str} (X : K.In h) (G : h.Ns mainGlobals mg) (A : TopAt K x st) (hb : ∀ f fd, Fun K x x st f fd → Binds K fd ps []) : DL.Callee P w K mg base x 0 none spF :=
  callee_mk X G A hb fun f fd F => ⟨fun vs H Q E z => by obtain ⟨_, _, _, _, z⟩ := z; exact z.elim, fun A outer s H args us vs Q E hr he hb hv z => by obtain ⟨_, _, _, _, z⟩ := z; exact z.elim⟩
theorem monoF : MonoSp spF := fun _ _ _ _ _ _ _ z => z
end
theorem bits_big {z : Int} (h : PySem.Builtin.Int.intBits z ≤ 1048576) : z.natAbs < bigB := by
  have key : ∀ m k : Nat, PySem.Builtin.Int.intBits z ≤ m → m ≤ k → z.natAbs < 2 ^ k := fun m k h1 h2 => by
    unfold PySem.Builtin.Int.intBits at h1
    by_cases c : z = 0
    · rw [c]
      exact Nat.two_pow_pos k
    · rw [if_neg (by simpa using c)] at h1
      exact (Nat.log2_lt (by omega)).mp (by omega)
  unfold bigB
  exact key 1048576 1100000 h (by omega)
def sp_law (K : PySem.W.Frag) : SpD := fun args ret exc => ∃ is : List Int, args = [(0, .scr K is)] ∧ (∀ x ∈ is, x.natAbs < bigB) ∧ is.length ≤ 63 ∧ ret (0, .bl true) (0, .non)
theorem law_sp {NM : Str} {K : PySem.W.Frag} {H : Hp} {a tp : Addr} {ns : List Int} (hl : ns.length ≤ 63) (hb : ∀ z ∈ ns, PySem.Builtin.Int.intBits z ≤ 1048576) (Ht : H tp = some (.tbl #[])) (hO : ∀ b, H b = none ∨ b = tp ∨ ∃ o xs, H b = some (.frz o (.lst xs))) (hS : SqL K H a (ns.map V.int)) :
    @spOf ⟨[(tp, NM)]⟩ none (sp_law K) [.ref a] H (fun v _ => v = .bl true) fun _ _ _ => False := by
  letI : LamT := ⟨[(tp, NM)]⟩
  refine ⟨[(0, .scr K ns)], fun b => H b ≠ none, [], ⟨rfl, fun i s v h1 h2 _ => ?_, (fun i e => nomatch e), fun _ => rfl, List.nodup_nil, (fun b hb => nomatch hb), fun _ h => h, fun p hp => ?_⟩, ns, rfl, fun z hz => bits_big (hb z hz), hl, fun v F' H' lr lo R => R.ret.2⟩
  · match i with
    | 0 =>
      cases h1
      cases h2
      refine ⟨rfl, a, rfl, ?_⟩
      rcases hS with (h | ⟨o, h⟩) | h
      · rcases hO a with z | z | ⟨o, xs, z⟩
        · rw [h] at z; cases z
        · rw [z, Ht] at h; cases h
        · rw [h] at z; cases z
      · exact .inl ⟨by show H a ≠ none; rw [h]; simp, o, h⟩
      · exact .inr h
    | i + 1 => cases h1
  · have hp : p = (tp, NM) := List.mem_singleton.mp hp
    rw [hp]
    exact ⟨by show H tp ≠ none; rw [Ht]; simp, #[], Ht, trivial, fun pos cv z => by cases z⟩
theorem walk {dn NM : Str} {LVL : Nat} (hL : LVL ≤ 60) {l : PySem.W.OpenLaw} {q : Program} {loose : List Str} {XP : (Str → Option Value) → Heap → Prop} {YP : World → Heap → Prop} {d : DefRec} {K : Params → PySem.W.Frag} (hn : l.most = some 63) (hdf : d.params.defaults = [])
    (hrec : ((recsOf q).any fun e => e.name == dn) = true) (hY : ∀ (w : World) (h : Heap), YP w h → (K w.params).In h)
    (F : ∀ (w : World) (mg : Str → Option Value) (fa : Addr) (h : Heap), (K w.params).In h → h.Ns mainGlobals mg → mg d.name = some (.ref fa) →
      ∃ (c tp : Addr) (fd : FuncData), PySem.W.tabIn (K w.params) dn = some (c, tp) ∧ (K w.params).lookup tp = none ∧ (∀ (s : Shared) (u : Value), BindsTo s fd ⟨[u], []⟩ [("_law_script", u)]) ∧
        ∀ base : Heap, (K w.params).In base → base.Ns mainGlobals mg → LamX.TabB base mg c tp → DL.FnOk l.prog w (K w.params) mg base (L2.CX l.prog w) LVL fa fd ["_law_script"] (@spOf ⟨[(tp, NM)]⟩ none (sp_law (K w.params)))) :
    PySem.W.WalkO q loose XP YP l.row.toRowW d [] (fun f vs => PySem.call f vs) := by
  refine Att.attach_callB hn hdf fun w s₀ s₁ mg mb fa o pm cd doc a vs ns G Y ho hd hcd hmg hobj hints hlen hbits hg => ?_
  have KX := hY w _ Y
  obtain ⟨c, tp, fd, ht, tK, hb, hF⟩ := F w mg fa _ KX G.T.g hmg
  obtain ⟨e, he⟩ : ∃ e, (recsOf q).find? (fun e => e.name == dn) = some e := by
    rw [← Option.isSome_iff_exists, List.find?_isSome]
    obtain ⟨e, h1, h2⟩ := List.any_eq_true.mp hrec
    exact ⟨e, h1, h2⟩
  obtain ⟨tC, tT⟩ := PySem.W.tab_of G.T KX he ht
  refine @law_in ⟨[(tp, NM)]⟩ _ _ _ _ _ _ _ _ _ _ _ _ _ _ _ _ KX G.T.g G.T.b G.T.builtins G.T.nolimit hg tT tK tC G.T.bmain hobj hints (Nat.le_trans hlen (by decide)) ⟨⟨rfl, Nat.lt_of_le_of_lt (by omega) (show callerA.depth + 3 * 60 + 5 < recursionLimit by decide), Nat.lt_of_le_of_lt (by omega) (show callerA.units + 16 * 60 + 200 < cLine by decide)⟩, rfl⟩ hF hb (fun H hH hO hS => law_sp hlen hbits hH hO hS) fun H e s' z => ?_
  obtain ⟨_, _, _, _, _, _, _, _, _, _, _, _, z⟩ := z
  exact z
theorem mono_spT [LamT] {sp : SpD} (h : MonoSp sp) : MonoSp (spT sp) := fun args ret ret' exc exc' k k2 ⟨a, u, q⟩ => ⟨a, u, h _ _ _ _ _ k k2 q⟩
end DL

namespace K06
open PySem PySem.Spec PyProof.Rows L2 DL
variable [LamT]
def top (i : Nat) : Stmt := PySem.Challenge.pw_hearths_k03_whole_woods_and_spread.main.body.getD i (.Pass ⟨0, 0, 0, 0⟩)
/-- what the program's top has written -/
structure Txt (K : PySem.W.Frag) (mg : Str → Option Value) (C_House : Addr) : Prop where
  cl_House : Cls K C_House
  m_FIGURES : ∃ t, mg "FIGURES" = some (.str "0123456789" t)
  m_SMALL : ∃ t, mg "SMALL" = some (.str "abcdefghijklmnopqrstuvwxyz" t)
  m_all : mg "all" = none
  m_bool : mg "bool" = none
  m_dict : mg "dict" = none
  m_enumerate : mg "enumerate" = none
  n_House_own_beside : NoAttr K C_House "own_beside"
  n_House_own_rooms : NoAttr K C_House "own_rooms"
  m_int : mg "int" = none
  m_isinstance : mg "isinstance" = none
  m_len : mg "len" = none
  m_list : mg "list" = none
  m_max : mg "max" = none
  m_range : mg "range" = none
  m_repr : mg "repr" = none
  m_sorted : mg "sorted" = none
  m_str : mg "str" = none
  m_sum : mg "sum" = none
  m_tuple : mg "tuple" = none
  m_zip : mg "zip" = none
def t__law_start (K : PySem.W.Frag)  : TSd :=
  (dStart K 0)
def s__law_start : Stmt := (top 29)
theorem sc__law_start : FnScope ["_law_script"] ["_law_script"] (defScope s__law_start) := ⟨rfl, rfl, rfl, by decide +kernel, rfl, by decide +kernel, by decide +kernel⟩
theorem d__law_start {P : Program} {w : World} {K : PySem.W.Frag} {mg : Str → Option Value} {base : Heap} {C_House : Addr} (T : Txt K mg C_House)
    
    {f : Addr} {fd : FuncData} (F : Fun K "_law_start" "_law_start" s__law_start f fd) {sp : SpD} (hl : ∀ args ret exc, sp args ret exc → args.length = 1) (hc : ∀ args ret exc, sp args ret exc → (t__law_start K ) (fnE none ret) (start0 1 args)) :
    DL.FnOk P w K mg base (L2.CX P w) 1 f fd ["_law_script"] (spOf none sp) := by
  refine fn_d F sc__law_start hl (t := fun R => t__law_start K ) (fun cdv A outer s H E en R hr hI tk hp => ?_) hc
  have hN := sc__law_start.nd
  have hu : (A.deeper (envOfC "_law_start" (defScope s__law_start) s.heap.objs.size f cdv)).units + 1 < cLine := hu_of hr.toRoom
  have hu64 : (A.deeper (envOfC "_law_start" (defScope s__law_start) s.heap.objs.size f cdv)).units + 64 < cLine := hr.units
  have hu65 : (A.deeper (envOfC "_law_start" (defScope s__law_start) s.heap.objs.size f cdv)).units + 65 < cLine := by have := hr.un; omega
  exact (DL.s_one (DL.s_start 0 T.m_list))
def t__law_draw  : TSd :=
  (dView 0 (dSeq (dPutIx 0 2 (dB wAdd (dB wIx (dVar 0) (dC (.int 2))) (dC (.int 1))))
  (dSeq (dWhile (dFlatB (dAnd (dT (dB wEq (dB wIx (dVar 0) (dC (.int 1))) (dC (.int 0)))) (dT (dB wNe (dB wIx (dVar 0) (dC (.int 0))) (dL wLst dNil))))) (dSeq (dSet 2 (dPopIx 0 0))
  (dSeq (dPutIx 0 3 (dB wMod (dL wInt1 (dCons (dB wAdd (dB wAdd (dB wMul (dB wIx (dVar 0) (dC (.int 3))) (dC (.int 8191))) (dVar 2)) (dC (.int 3))) dNil)) (dC (.int 2147483647))))
  (dPutIx 0 1 (dIfV (dT (dB wGe (dVar 2) (dB wPow (dC (.int 10)) (dC (.int 18))))) (dVar 2) (dC (.int 0)))))))
  (dSeq (dIf (dFlatB (dT (dB wGt (dB wIx (dVar 0) (dC (.int 1))) (dC (.int 0))))) (dSeq (dSet 3 (dFlat (dB wMod (dL wInt1 (dCons (dB wIx (dVar 0) (dC (.int 1))) dNil)) (dVar 1))))
  (dSeq (dPutIx 0 1 (dB wDiv (dB wIx (dVar 0) (dC (.int 1))) (dVar 1)))
  (dRet (dVar 3)))) dNext)
  (dSeq (dSet 4 (dFlat (dB wMod (dL wInt1 (dCons (dB wPow (dB wAdd (dB wAdd (dB wIx (dVar 0) (dC (.int 3))) (dB wMul (dC (.int 7919)) (dB wIx (dVar 0) (dC (.int 2))))) (dC (.int 104729))) (dC (.int 5))) dNil)) (dC (.int 2147483629)))))
  (dRet (dFlat (dB wMod (dB wMod (dL wInt1 (dCons (dB wPow (dB wAdd (dB wAdd (dB wMul (dVar 4) (dC (.int 48271))) (dB wMul (dC (.int 30011)) (dB wIx (dVar 0) (dC (.int 2))))) (dC (.int 29))) (dC (.int 3))) dNil)) (dC (.int 1000000007))) (dVar 1)))))))))
def s__law_draw : Stmt := (top 30)
theorem sc__law_draw : FnScope ["_law_stream", "_law_many", "_law_cell", "_law_digit", "_law_mixed_here"] ["_law_stream", "_law_many"] (defScope s__law_draw) := ⟨rfl, rfl, rfl, by decide +kernel, rfl, by decide +kernel, by decide +kernel⟩
theorem d__law_draw {P : Program} {w : World} {K : PySem.W.Frag} {mg : Str → Option Value} {base : Heap} {C_House : Addr} (T : Txt K mg C_House)
    
    {f : Addr} {fd : FuncData} (F : Fun K "_law_draw" "_law_draw" s__law_draw f fd) {sp : SpD} (hl : ∀ args ret exc, sp args ret exc → args.length = 2) (hc : ∀ args ret exc, sp args ret exc → (t__law_draw ) (fnE (some 0) ret) (start0 5 args)) :
    DL.FnOk P w K mg base (L2.CX P w) 1 f fd ["_law_stream", "_law_many"] (spOf (some 0) sp) := by
  refine fn_d F sc__law_draw hl (t := fun R => t__law_draw ) (fun cdv A outer s H E en R hr hI tk hp => ?_) hc
  have hN := sc__law_draw.nd
  have hu : (A.deeper (envOfC "_law_draw" (defScope s__law_draw) s.heap.objs.size f cdv)).units + 1 < cLine := hu_of hr.toRoom
  have hu64 : (A.deeper (envOfC "_law_draw" (defScope s__law_draw) s.heap.objs.size f cdv)).units + 64 < cLine := hr.units
  have hu65 : (A.deeper (envOfC "_law_draw" (defScope s__law_draw) s.heap.objs.size f cdv)).units + 65 < cLine := by have := hr.un; omega
  exact (DL.ss_spr 0 (DL.s_cons (DL.s_putIx 0 2 (fun en_h1 h1 => (DL.v_add (DL.v_ix hu (DL.v_var 0 (hio := (nio h1 (by decide)))) DL.v_int) DL.v_int)))
    (DL.s_cons (DL.s_while hp (DL.t_flat fun en_h2 h2 => (DL.t_w (DL.w_and (DL.t_eq hu64 (DL.v_ix hu (DL.v_var 0 (hio := (nio h2 (by decide)))) DL.v_int) DL.v_int) (DL.w_and1 (DL.t_ne hu64 (DL.v_ix hu (DL.v_var 0 (hio := (nio h2 (by decide)))) DL.v_int) (DL.v_lst DL.v_nil))))))
    (DL.s_cons (DL.s_set 2 (DL.v_popIx 0 0) (nio hI (by decide)) hN)
    (DL.s_cons (DL.s_putIx 0 3 (fun en_h3 h3 => (DL.v_mod (DL.v_callT call_int1 fits_int1 mono_int1 boot_int T.m_int (DL.v_cons (DL.v_add (DL.v_add (DL.v_mul (DL.v_ix hu (DL.v_var 0 (hio := (nio h3 (by decide)))) DL.v_int) DL.v_int) (DL.v_var 2 (hio := (nio h3 (by decide))))) DL.v_int) DL.v_nil)) DL.v_int)))
    (DL.s_one (DL.s_putIx 0 1 (fun en_h4 h4 => (DL.v_if (DL.t_ge (DL.v_var 2 (hio := (nio h4 (by decide)))) (DL.v_pow DL.v_int DL.v_int)) (DL.v_var 2 (hio := (nio h4 (by decide)))) DL.v_int)))))))
    (DL.s_cons (DL.s_if (DL.t_flat fun en_h5 h5 => (DL.t_gt (DL.v_ix hu (DL.v_var 0 (hio := (nio h5 (by decide)))) DL.v_int) DL.v_int))
    (DL.s_cons (DL.s_set 3 (DL.v_flat fun en_h6 h6 => (DL.v_mod (DL.v_callT call_int1 fits_int1 mono_int1 boot_int T.m_int (DL.v_cons (DL.v_ix hu (DL.v_var 0 (hio := (nio h6 (by decide)))) DL.v_int) DL.v_nil)) (DL.v_var 1 (hio := (nio h6 (by decide)))))) (nio hI (by decide)) hN)
    (DL.s_cons (DL.s_putIx 0 1 (fun en_h7 h7 => (DL.v_div (DL.v_ix hu (DL.v_var 0 (hio := (nio h7 (by decide)))) DL.v_int) (DL.v_var 1 (hio := (nio h7 (by decide)))))))
    (DL.s_one (DL.s_ret (DL.v_var 3 (hio := (nio hI (by decide))))))))
    DL.s_nil)
    (DL.s_cons (DL.s_set 4 (DL.v_flat fun en_h8 h8 => (DL.v_mod (DL.v_callT call_int1 fits_int1 mono_int1 boot_int T.m_int (DL.v_cons (DL.v_pow (DL.v_add (DL.v_add (DL.v_ix hu (DL.v_var 0 (hio := (nio h8 (by decide)))) DL.v_int) (DL.v_mul DL.v_int (DL.v_ix hu (DL.v_var 0 (hio := (nio h8 (by decide)))) DL.v_int))) DL.v_int) DL.v_int) DL.v_nil)) DL.v_int)) (nio hI (by decide)) hN)
    (DL.s_one (DL.s_ret (DL.v_flat fun en_h9 h9 => (DL.v_mod (DL.v_mod (DL.v_callT call_int1 fits_int1 mono_int1 boot_int T.m_int (DL.v_cons (DL.v_pow (DL.v_add (DL.v_add (DL.v_mul (DL.v_var 4 (hio := (nio h9 (by decide)))) DL.v_int) (DL.v_mul DL.v_int (DL.v_ix hu (DL.v_var 0 (hio := (nio h9 (by decide)))) DL.v_int))) DL.v_int) DL.v_int) DL.v_nil)) DL.v_int) (DL.v_var 1 (hio := (nio h9 (by decide)))))))))))))
def t__law_mixed (sp__law_draw : SpD) : TSd :=
  (dSeq (dSet 2 (dL wList (dCons (dVar 1) dNil)))
  (dRet (dLc [3] (dRange1 (dCons (dFlat (dL wLen (dCons (dVar 2) dNil))) dNil)) (gN 3) dYes (dMutL 2 (dCons (dCallI sp__law_draw 0 0 (dHere 0 (dCons (dFlat (dL wLen (dCons (dVar 2) dNil))) dNil)) R0) dNil) opPopAt))))
def s__law_mixed : Stmt := (top 32)
theorem sc__law_mixed : FnScope ["_law_stream", "_law_some", "_law_left", "_law_k"] ["_law_stream", "_law_some"] (defScope s__law_mixed) := ⟨rfl, rfl, rfl, by decide +kernel, rfl, by decide +kernel, by decide +kernel⟩
theorem d__law_mixed {P : Program} {w : World} {K : PySem.W.Frag} {mg : Str → Option Value} {base : Heap} {C_House : Addr} (T : Txt K mg C_House)
    {sp__law_draw : SpD} (C__law_draw : Callee P w K mg base "_law_draw" 1 (some 0) sp__law_draw) (M__law_draw : MonoSp sp__law_draw)
    {f : Addr} {fd : FuncData} (F : Fun K "_law_mixed" "_law_mixed" s__law_mixed f fd) {sp : SpD} (hl : ∀ args ret exc, sp args ret exc → args.length = 2) (hc : ∀ args ret exc, sp args ret exc → (t__law_mixed sp__law_draw) (fnE (some 0) ret) (start0 4 args)) :
    DL.FnOk P w K mg base (L2.CX P w) 2 f fd ["_law_stream", "_law_some"] (spOf (some 0) sp) := by
  refine fn_d F sc__law_mixed hl (t := fun R => t__law_mixed sp__law_draw) (fun cdv A outer s H E en R hr hI tk hp => ?_) hc
  have hN := sc__law_mixed.nd
  have hu : (A.deeper (envOfC "_law_mixed" (defScope s__law_mixed) s.heap.objs.size f cdv)).units + 1 < cLine := hu_of hr.toRoom
  have hu64 : (A.deeper (envOfC "_law_mixed" (defScope s__law_mixed) s.heap.objs.size f cdv)).units + 64 < cLine := hr.units
  have hu65 : (A.deeper (envOfC "_law_mixed" (defScope s__law_mixed) s.heap.objs.size f cdv)).units + 65 < cLine := by have := hr.un; omega
  exact (DL.s_cons (DL.s_set 2 (DL.v_callT call_list_of fits_list mono_list boot_list T.m_list (DL.v_cons (DL.v_var 1 (hio := (nio hI (by decide)))) DL.v_nil)) (nio hI (by decide)) hN)
    (DL.s_one (DL.s_ret (DL.v_lc (own := [(("_law_k" : Str), 3)]) rfl hN (DL.i_range1 (DL.v_cons (DL.v_flat fun en_h1 h1 => (DL.v_callB (call_len.or call_lenR) fits_len mono_len boot_len T.m_len (DL.v_cons (DL.v_var 2 (hio := (nio h1 (by decide)))) DL.v_nil))) DL.v_nil) T.m_range) (blk_of rfl (by kernel_rfl)) (by decide) (own_io hI (by decide)) (fun s_ H_ C_ cl_ fp_ en_h2 h2 => (DL.g_name 3 (nio (h2.trans hI) (by decide)) hN)) (fun s_ H_ C_ cl_ fp_ en_h3 h3 => DL.b_nil) (fun s_ H_ C_ cl_ fp_ en_h4 h4 => (DL.v_mutL PySem.F.slot_list_pop PySem.F.type_list_pop mt_popAt fits_popAt mono_popAt 2 (DL.v_cons (DL.v_callI (R := R0) C__law_draw M__law_draw (hr.mono (by decide)) takesR0 (DL.i_here 0 (DL.v_cons (DL.v_flat fun en_h5 h5 => (DL.v_callB (call_len.or call_lenR) fits_len mono_len boot_len T.m_len (DL.v_cons (DL.v_var 2 (hio := (nio h5 (by decide)))) DL.v_nil))) DL.v_nil))) DL.v_nil)))))))
def t__law_h_names (sp__law_mixed : SpD) : TSd :=
  (dSeq (dSet 2 (dL wLst (dCons (dC (.str "b")) (dCons (dC (.str "aa")) (dCons (dC (.str "c1")) (dCons (dC (.str "hall")) (dCons (dC (.str "z9")) (dCons (dC (.str "a")) (dCons (dC (.str "m3")) (dCons (dC (.str "abcdefghijk1")) (dCons (dC (.str "attic")) (dCons (dC (.str "no")) (dCons (dC (.str "q7")) (dCons (dC (.str "cellar")) dNil))))))))))))))
  (dRet (dSlice (dCallI sp__law_mixed 0 0 (dHere 0 (dCons (dVar 2) dNil)) R0) dNoPart (dPart (dVar 1)))))
def s__law_h_names : Stmt := (top 34)
theorem sc__law_h_names : FnScope ["_law_stream", "_law_many", "_law_some"] ["_law_stream", "_law_many"] (defScope s__law_h_names) := ⟨rfl, rfl, rfl, by decide +kernel, rfl, by decide +kernel, by decide +kernel⟩
theorem d__law_h_names {P : Program} {w : World} {K : PySem.W.Frag} {mg : Str → Option Value} {base : Heap} {C_House : Addr} (T : Txt K mg C_House)
    {sp__law_mixed : SpD} (C__law_mixed : Callee P w K mg base "_law_mixed" 2 (some 0) sp__law_mixed) (M__law_mixed : MonoSp sp__law_mixed)
    {f : Addr} {fd : FuncData} (F : Fun K "_law_h_names" "_law_h_names" s__law_h_names f fd) {sp : SpD} (hl : ∀ args ret exc, sp args ret exc → args.length = 2) (hc : ∀ args ret exc, sp args ret exc → (t__law_h_names sp__law_mixed) (fnE (some 0) ret) (start0 3 args)) :
    DL.FnOk P w K mg base (L2.CX P w) 3 f fd ["_law_stream", "_law_many"] (spOf (some 0) sp) := by
  refine fn_d F sc__law_h_names hl (t := fun R => t__law_h_names sp__law_mixed) (fun cdv A outer s H E en R hr hI tk hp => ?_) hc
  have hN := sc__law_h_names.nd
  have hu : (A.deeper (envOfC "_law_h_names" (defScope s__law_h_names) s.heap.objs.size f cdv)).units + 1 < cLine := hu_of hr.toRoom
  have hu64 : (A.deeper (envOfC "_law_h_names" (defScope s__law_h_names) s.heap.objs.size f cdv)).units + 64 < cLine := hr.units
  have hu65 : (A.deeper (envOfC "_law_h_names" (defScope s__law_h_names) s.heap.objs.size f cdv)).units + 65 < cLine := by have := hr.un; omega
  exact (DL.s_cons (DL.s_set 2 (DL.v_lst (DL.v_cons DL.v_str (DL.v_cons DL.v_str (DL.v_cons DL.v_str (DL.v_cons DL.v_str (DL.v_cons DL.v_str (DL.v_cons DL.v_str (DL.v_cons DL.v_str (DL.v_cons DL.v_str (DL.v_cons DL.v_str (DL.v_cons DL.v_str (DL.v_cons DL.v_str (DL.v_cons DL.v_str DL.v_nil))))))))))))) (nio hI (by decide)) hN)
    (DL.s_one (DL.s_ret (DL.v_slice (DL.v_callI (R := R0) C__law_mixed M__law_mixed (hr.mono (by decide)) takesR0 (DL.i_here 0 (DL.v_cons (DL.v_var 2 (hio := (nio hI (by decide)))) DL.v_nil))) DL.o_none (DL.o_some (DL.v_var 1 (hio := (nio hI (by decide)))))))))
def t__law_h_doors (sp__law_draw sp__law_mixed : SpD) : TSd :=
  (dSeq (dPar2 2 3 (dCallI sp__law_draw 0 0 (dHere 0 (dCons (dC (.int 4)) dNil)) R0) (dL wLst dNil))
  (dSeq (dFor (dRange2 (dCons (dC (.int 1)) (dCons (dL wLen (dCons (dVar 1) dNil)) dNil))) (gN 4) (dSeq (dSet 5 (dB wIx (dL wLst (dCons (dB wSub (dVar 4) (dC (.int 1))) (dCons (dC (.int 0)) (dCons (dCallI sp__law_draw 0 0 (dHere 0 (dCons (dVar 4) dNil)) R0) (dCons (dL wMax2 (dCons (dC (.int 0)) (dCons (dB wSub (dB wSub (dVar 4) (dC (.int 1))) (dCallI sp__law_draw 0 0 (dHere 0 (dCons (dC (.int 2)) dNil)) R0)) dNil))) dNil))))) (dVar 2)))
  (dSeq (dSet 6 (dL wTup (dCons (dB wIx (dVar 1) (dVar 5)) (dCons (dB wIx (dVar 1) (dVar 4)) dNil))))
  (dExpr (dMutL 3 (dCons (dIfV (dT (dB wEq (dCallI sp__law_draw 0 0 (dHere 0 (dCons (dC (.int 2)) dNil)) R0) (dC (.int 0)))) (dVar 6) (dRev2 (dVar 6))) dNil) opAppend)))))
  (dRet (dCallI sp__law_mixed 0 0 (dHere 0 (dCons (dVar 3) dNil)) R0))))
def s__law_h_doors : Stmt := (top 35)
theorem sc__law_h_doors : FnScope ["_law_stream", "_law_rooms", "_law_shape", "_law_found", "_law_k", "_law_at", "_law_pair"] ["_law_stream", "_law_rooms"] (defScope s__law_h_doors) := ⟨rfl, rfl, rfl, by decide +kernel, rfl, by decide +kernel, by decide +kernel⟩
theorem d__law_h_doors {P : Program} {w : World} {K : PySem.W.Frag} {mg : Str → Option Value} {base : Heap} {C_House : Addr} (T : Txt K mg C_House)
    {sp__law_draw : SpD} (C__law_draw : Callee P w K mg base "_law_draw" 1 (some 0) sp__law_draw) (M__law_draw : MonoSp sp__law_draw)
    {sp__law_mixed : SpD} (C__law_mixed : Callee P w K mg base "_law_mixed" 2 (some 0) sp__law_mixed) (M__law_mixed : MonoSp sp__law_mixed)
    {f : Addr} {fd : FuncData} (F : Fun K "_law_h_doors" "_law_h_doors" s__law_h_doors f fd) {sp : SpD} (hl : ∀ args ret exc, sp args ret exc → args.length = 2) (hc : ∀ args ret exc, sp args ret exc → (t__law_h_doors sp__law_draw sp__law_mixed) (fnE (some 0) ret) (start0 7 args)) :
    DL.FnOk P w K mg base (L2.CX P w) 3 f fd ["_law_stream", "_law_rooms"] (spOf (some 0) sp) := by
  refine fn_d F sc__law_h_doors hl (t := fun R => t__law_h_doors sp__law_draw sp__law_mixed) (fun cdv A outer s H E en R hr hI tk hp => ?_) hc
  have hN := sc__law_h_doors.nd
  have hu : (A.deeper (envOfC "_law_h_doors" (defScope s__law_h_doors) s.heap.objs.size f cdv)).units + 1 < cLine := hu_of hr.toRoom
  have hu64 : (A.deeper (envOfC "_law_h_doors" (defScope s__law_h_doors) s.heap.objs.size f cdv)).units + 64 < cLine := hr.units
  have hu65 : (A.deeper (envOfC "_law_h_doors" (defScope s__law_h_doors) s.heap.objs.size f cdv)).units + 65 < cLine := by have := hr.un; omega
  exact (DL.s_cons (DL.s_par2 (i := 2) (j := 3) (DL.v_callI (R := R0) C__law_draw M__law_draw (hr.mono (by decide)) takesR0 (DL.i_here 0 (DL.v_cons DL.v_int DL.v_nil))) (fun en_h1 h1 => (DL.v_lst DL.v_nil)) (nio hI (by decide)) (nio hI (by decide)) (by decide) rfl hN)
    (DL.s_cons (DL.s_for hp rfl (DL.i_range2 (DL.v_cons DL.v_int (DL.v_cons (DL.v_callB (call_len.or call_lenR) fits_len mono_len boot_len T.m_len (DL.v_cons (DL.v_var 1 (hio := (nio hI (by decide)))) DL.v_nil)) DL.v_nil)) T.m_range) (DL.g_name 4 (nio hI (by decide)) hN)
    (DL.s_cons (DL.s_set 5 (DL.v_ix hu (DL.v_lst (DL.v_cons (DL.v_sub (DL.v_var 4 (hio := (nio hI (by decide)))) DL.v_int) (DL.v_cons DL.v_int (DL.v_cons (DL.v_callI (R := R0) C__law_draw M__law_draw (hr.mono (by decide)) takesR0 (DL.i_here 0 (DL.v_cons (DL.v_var 4 (hio := (nio hI (by decide)))) DL.v_nil))) (DL.v_cons (DL.v_callB (call_max2 rfl) fits_max2 mono_max2 boot_max T.m_max (DL.v_cons DL.v_int (DL.v_cons (DL.v_sub (DL.v_sub (DL.v_var 4 (hio := (nio hI (by decide)))) DL.v_int) (DL.v_callI (R := R0) C__law_draw M__law_draw (hr.mono (by decide)) takesR0 (DL.i_here 0 (DL.v_cons DL.v_int DL.v_nil)))) DL.v_nil))) DL.v_nil))))) (DL.v_var 2 (hio := (nio hI (by decide))))) (nio hI (by decide)) hN)
    (DL.s_cons (DL.s_set 6 (DL.v_tup (DL.v_cons (DL.v_ix hu (DL.v_var 1 (hio := (nio hI (by decide)))) (DL.v_var 5 (hio := (nio hI (by decide))))) (DL.v_cons (DL.v_ix hu (DL.v_var 1 (hio := (nio hI (by decide)))) (DL.v_var 4 (hio := (nio hI (by decide))))) DL.v_nil))) (nio hI (by decide)) hN)
    (DL.s_one (DL.s_expr (DL.v_append 3 (DL.v_if (DL.t_eq hu64 (DL.v_callI (R := R0) C__law_draw M__law_draw (hr.mono (by decide)) takesR0 (DL.i_here 0 (DL.v_cons DL.v_int DL.v_nil))) DL.v_int) (DL.v_var 6 (hio := (nio hI (by decide)))) (DL.v_rev2 (DL.v_var 6 (hio := (nio hI (by decide))))))))))))
    (DL.s_one (DL.s_ret (DL.v_callI (R := R0) C__law_mixed M__law_mixed (hr.mono (by decide)) takesR0 (DL.i_here 0 (DL.v_cons (DL.v_var 3 (hio := (nio hI (by decide)))) DL.v_nil)))))))
def t__law_h_house (sp__law_h_names sp__law_draw sp__law_mixed sp__law_h_doors : SpD) : TSd :=
  (dSeq (dSet 2 (dCallI sp__law_h_names 0 0 (dHere 0 (dCons (dB wAdd (dC (.int 1)) (dCallI sp__law_draw 0 0 (dHere 0 (dCons (dVar 1) dNil)) R0)) dNil)) R0))
  (dRet (dL wTup (dCons (dCallI sp__law_mixed 0 0 (dHere 0 (dCons (dVar 2) dNil)) R0) (dCons (dCallI sp__law_h_doors 0 0 (dHere 0 (dCons (dVar 2) dNil)) R0) dNil)))))
def s__law_h_house : Stmt := (top 36)
theorem sc__law_h_house : FnScope ["_law_stream", "_law_most", "_law_rooms"] ["_law_stream", "_law_most"] (defScope s__law_h_house) := ⟨rfl, rfl, rfl, by decide +kernel, rfl, by decide +kernel, by decide +kernel⟩
theorem d__law_h_house {P : Program} {w : World} {K : PySem.W.Frag} {mg : Str → Option Value} {base : Heap} {C_House : Addr} (T : Txt K mg C_House)
    {sp__law_h_names : SpD} (C__law_h_names : Callee P w K mg base "_law_h_names" 3 (some 0) sp__law_h_names) (M__law_h_names : MonoSp sp__law_h_names)
    {sp__law_draw : SpD} (C__law_draw : Callee P w K mg base "_law_draw" 1 (some 0) sp__law_draw) (M__law_draw : MonoSp sp__law_draw)
    {sp__law_mixed : SpD} (C__law_mixed : Callee P w K mg base "_law_mixed" 2 (some 0) sp__law_mixed) (M__law_mixed : MonoSp sp__law_mixed)
    {sp__law_h_doors : SpD} (C__law_h_doors : Callee P w K mg base "_law_h_doors" 3 (some 0) sp__law_h_doors) (M__law_h_doors : MonoSp sp__law_h_doors)
    {f : Addr} {fd : FuncData} (F : Fun K "_law_h_house" "_law_h_house" s__law_h_house f fd) {sp : SpD} (hl : ∀ args ret exc, sp args ret exc → args.length = 2) (hc : ∀ args ret exc, sp args ret exc → (t__law_h_house sp__law_h_names sp__law_draw sp__law_mixed sp__law_h_doors) (fnE (some 0) ret) (start0 3 args)) :
    DL.FnOk P w K mg base (L2.CX P w) 4 f fd ["_law_stream", "_law_most"] (spOf (some 0) sp) := by
  refine fn_d F sc__law_h_house hl (t := fun R => t__law_h_house sp__law_h_names sp__law_draw sp__law_mixed sp__law_h_doors) (fun cdv A outer s H E en R hr hI tk hp => ?_) hc
  have hN := sc__law_h_house.nd
  have hu : (A.deeper (envOfC "_law_h_house" (defScope s__law_h_house) s.heap.objs.size f cdv)).units + 1 < cLine := hu_of hr.toRoom
  have hu64 : (A.deeper (envOfC "_law_h_house" (defScope s__law_h_house) s.heap.objs.size f cdv)).units + 64 < cLine := hr.units
  have hu65 : (A.deeper (envOfC "_law_h_house" (defScope s__law_h_house) s.heap.objs.size f cdv)).units + 65 < cLine := by have := hr.un; omega
  exact (DL.s_cons (DL.s_set 2 (DL.v_callI (R := R0) C__law_h_names M__law_h_names (hr.mono (by decide)) takesR0 (DL.i_here 0 (DL.v_cons (DL.v_add DL.v_int (DL.v_callI (R := R0) C__law_draw M__law_draw (hr.mono (by decide)) takesR0 (DL.i_here 0 (DL.v_cons (DL.v_var 1 (hio := (nio hI (by decide)))) DL.v_nil)))) DL.v_nil))) (nio hI (by decide)) hN)
    (DL.s_one (DL.s_ret (DL.v_tup (DL.v_cons (DL.v_callI (R := R0) C__law_mixed M__law_mixed (hr.mono (by decide)) takesR0 (DL.i_here 0 (DL.v_cons (DL.v_var 2 (hio := (nio hI (by decide)))) DL.v_nil))) (DL.v_cons (DL.v_callI (R := R0) C__law_h_doors M__law_h_doors (hr.mono (by decide)) takesR0 (DL.i_here 0 (DL.v_cons (DL.v_var 2 (hio := (nio hI (by decide)))) DL.v_nil))) DL.v_nil))))))
def t_is_list  : TSd :=
  (dRet (dL wIsiT (dCons (dVar 0) (dCons (dL wTup (dCons (dC (.opq (.ty "list"))) (dCons (dC (.opq (.ty "tuple"))) dNil))) dNil))))
def s_is_list : Stmt := (top 11)
theorem sc_is_list : FnScope ["thing"] ["thing"] (defScope s_is_list) := ⟨rfl, rfl, rfl, by decide +kernel, rfl, by decide +kernel, by decide +kernel⟩
theorem d_is_list {P : Program} {w : World} {K : PySem.W.Frag} {mg : Str → Option Value} {base : Heap} {C_House : Addr} (T : Txt K mg C_House)
    
    {f : Addr} {fd : FuncData} (F : Fun K "is_list" "is_list" s_is_list f fd) {sp : SpD} (hl : ∀ args ret exc, sp args ret exc → args.length = 1) (hc : ∀ args ret exc, sp args ret exc → (t_is_list ) (fnE none ret) (start0 1 args)) :
    DL.FnOk P w K mg base (L2.CX P w) 1 f fd ["thing"] (spOf none sp) := by
  refine fn_d F sc_is_list hl (t := fun R => t_is_list ) (fun cdv A outer s H E en R hr hI tk hp => ?_) hc
  have hN := sc_is_list.nd
  have hu : (A.deeper (envOfC "is_list" (defScope s_is_list) s.heap.objs.size f cdv)).units + 1 < cLine := hu_of hr.toRoom
  have hu64 : (A.deeper (envOfC "is_list" (defScope s_is_list) s.heap.objs.size f cdv)).units + 64 < cLine := hr.units
  have hu65 : (A.deeper (envOfC "is_list" (defScope s_is_list) s.heap.objs.size f cdv)).units + 65 < cLine := by have := hr.un; omega
  exact (DL.s_one (DL.s_ret (DL.v_callB call_isiT fits_isiT mono_isiT boot_isinstance T.m_isinstance (DL.v_cons (DL.v_var 0 (hio := (nio hI (by decide)))) (DL.v_cons (DL.v_tup (DL.v_cons (DL.v_ty T.m_list boot_list) (DL.v_cons (DL.v_ty T.m_tuple boot_tuple) DL.v_nil))) DL.v_nil)))))
def t_is_name  : TSd :=
  (dSeq (dIf (dOr (dNot (dT (dL wIsi (dCons (dVar 0) (dCons (dC (.opq (.ty "str"))) dNil))))) (dOr (dNot (dT (dChain wLt wLe (dC (.int 0)) (dL wLen (dCons (dVar 0) dNil)) (dC (.int 12))))) (dT (dB wNotIn (dB wIx (dVar 0) (dC (.int 0))) (dC (.str "abcdefghijklmnopqrstuvwxyz")))))) (dRet (dC (.bl false))) dNext)
  (dRet (dL (wAllAny fun bs => bs.all id) (dCons (dLc [1] (dStrI (dVar 0)) (gN 1) dYes (dB wIn (dVar 1) (dB wAdd (dC (.str "abcdefghijklmnopqrstuvwxyz")) (dC (.str "0123456789"))))) dNil))))
def s_is_name : Stmt := (top 13)
theorem sc_is_name : FnScope ["thing", "sign"] ["thing"] (defScope s_is_name) := ⟨rfl, rfl, rfl, by decide +kernel, rfl, by decide +kernel, by decide +kernel⟩
theorem d_is_name {P : Program} {w : World} {K : PySem.W.Frag} {mg : Str → Option Value} {base : Heap} {C_House : Addr} (T : Txt K mg C_House)
    
    {f : Addr} {fd : FuncData} (F : Fun K "is_name" "is_name" s_is_name f fd) {sp : SpD} (hl : ∀ args ret exc, sp args ret exc → args.length = 1) (hc : ∀ args ret exc, sp args ret exc → (t_is_name ) (fnE none ret) (start0 2 args)) :
    DL.FnOk P w K mg base (L2.CX P w) 1 f fd ["thing"] (spOf none sp) := by
  refine fn_d F sc_is_name hl (t := fun R => t_is_name ) (fun cdv A outer s H E en R hr hI tk hp => ?_) hc
  have hN := sc_is_name.nd
  have hu : (A.deeper (envOfC "is_name" (defScope s_is_name) s.heap.objs.size f cdv)).units + 1 < cLine := hu_of hr.toRoom
  have hu64 : (A.deeper (envOfC "is_name" (defScope s_is_name) s.heap.objs.size f cdv)).units + 64 < cLine := hr.units
  have hu65 : (A.deeper (envOfC "is_name" (defScope s_is_name) s.heap.objs.size f cdv)).units + 65 < cLine := by have := hr.un; omega
  exact (DL.s_cons (DL.s_if (DL.t_w (DL.w_or (DL.t_not (DL.t_val (DL.v_callB call_isi fits_isi mono_isi boot_isinstance T.m_isinstance (DL.v_cons (DL.v_var 0 (hio := (nio hI (by decide)))) (DL.v_cons (DL.v_ty T.m_str boot_str) DL.v_nil))))) (DL.w_or (DL.t_not (DL.t_chain (DL.OpR.or op_lt op_lt_str) (DL.OpR.or op_le op_le_str) DL.v_int (DL.v_callB (call_len.or call_lenR) fits_len mono_len boot_len T.m_len (DL.v_cons (DL.v_var 0 (hio := (nio hI (by decide)))) DL.v_nil)) DL.v_int (fits_ord (pi := fun i j => decide (i < j)) (ps := ltS)) (fits_ord (pi := fun i j => decide (i ≤ j)) (ps := fun i j => !ltS j i)) mono_ord mono_ord)) (DL.w_or1 (DL.t_notIn hu65 (DL.v_ix hu (DL.v_var 0 (hio := (nio hI (by decide)))) DL.v_int) (DL.v_globS T.m_SMALL))))))
    (DL.s_one (DL.s_ret DL.v_bl))
    DL.s_nil)
    (DL.s_one (DL.s_ret (DL.v_callB (cr_all rfl) fits_all mono_allany boot_all T.m_all (DL.v_cons (DL.v_lc (own := [(("sign" : Str), 1)]) rfl hN (DL.i_str (DL.v_var 0 (hio := (nio hI (by decide))))) (blk_of rfl (by kernel_rfl)) (by decide) (own_io hI (by decide)) (fun s_ H_ C_ cl_ fp_ en_h1 h1 => (DL.g_name 1 (nio (h1.trans hI) (by decide)) hN)) (fun s_ H_ C_ cl_ fp_ en_h2 h2 => DL.b_nil) (fun s_ H_ C_ cl_ fp_ en_h3 h3 => (DL.v_in hu65 (DL.v_var 1 (hio := (nio (h3.trans hI) (by decide)))) (DL.v_add (DL.v_globS T.m_SMALL) (DL.v_globS T.m_FIGURES))))) DL.v_nil)))))
def t_checked_rooms (sp_is_list sp_is_name : SpD) : TSd :=
  (dSeq (dIf (dOr (dNot (dT (dCall sp_is_list (dCons (dVar 0) dNil) R0))) (dT (dB wEq (dL wLen (dCons (dVar 0) dNil)) (dC (.int 0))))) dNever dNext)
  (dSeq (dFor (dEnum (dCons (dVar 0) dNil)) (dTup 2 (gCons (gN 1) (gCons (gN 2) gNil))) (dIf (dOr (dNot (dT (dCall sp_is_name (dCons (dVar 2) dNil) R0))) (dT (dB wIn (dVar 2) (dSlice (dVar 0) dNoPart (dPart (dVar 1)))))) dNever dNext))
  (dRet (dL wSortS (dCons (dVar 0) dNil)))))
def s_checked_rooms : Stmt := (top 15)
theorem sc_checked_rooms : FnScope ["rooms", "index", "thing"] ["rooms"] (defScope s_checked_rooms) := ⟨rfl, rfl, rfl, by decide +kernel, rfl, by decide +kernel, by decide +kernel⟩
theorem d_checked_rooms {P : Program} {w : World} {K : PySem.W.Frag} {mg : Str → Option Value} {base : Heap} {C_House : Addr} (T : Txt K mg C_House)
    {sp_is_list : SpD} (C_is_list : Callee P w K mg base "is_list" 1 none sp_is_list) (M_is_list : MonoSp sp_is_list)
    {sp_is_name : SpD} (C_is_name : Callee P w K mg base "is_name" 1 none sp_is_name) (M_is_name : MonoSp sp_is_name)
    {f : Addr} {fd : FuncData} (F : Fun K "checked_rooms" "checked_rooms" s_checked_rooms f fd) {sp : SpD} (hl : ∀ args ret exc, sp args ret exc → args.length = 1) (hc : ∀ args ret exc, sp args ret exc → (t_checked_rooms sp_is_list sp_is_name) (fnE none ret) (start0 3 args)) :
    DL.FnOk P w K mg base (L2.CX P w) 2 f fd ["rooms"] (spOf none sp) := by
  refine fn_d F sc_checked_rooms hl (t := fun R => t_checked_rooms sp_is_list sp_is_name) (fun cdv A outer s H E en R hr hI tk hp => ?_) hc
  have hN := sc_checked_rooms.nd
  have hu : (A.deeper (envOfC "checked_rooms" (defScope s_checked_rooms) s.heap.objs.size f cdv)).units + 1 < cLine := hu_of hr.toRoom
  have hu64 : (A.deeper (envOfC "checked_rooms" (defScope s_checked_rooms) s.heap.objs.size f cdv)).units + 64 < cLine := hr.units
  have hu65 : (A.deeper (envOfC "checked_rooms" (defScope s_checked_rooms) s.heap.objs.size f cdv)).units + 65 < cLine := by have := hr.un; omega
  exact (DL.s_cons (DL.s_if (DL.t_w (DL.w_or (DL.t_not (DL.t_val (DL.v_call (R := R0) C_is_list M_is_list (hr.mono (by decide)) takesR0 (DL.v_cons (DL.v_var 0 (hio := (nio hI (by decide)))) DL.v_nil)))) (DL.w_or1 (DL.t_eq hu64 (DL.v_callB (call_len.or call_lenR) fits_len mono_len boot_len T.m_len (DL.v_cons (DL.v_var 0 (hio := (nio hI (by decide)))) DL.v_nil)) DL.v_int))))
    (DL.s_one DL.s_never)
    DL.s_nil)
    (DL.s_cons (DL.s_for hp rfl (DL.i_enum (DL.v_cons (DL.v_var 0 (hio := (nio hI (by decide)))) DL.v_nil) T.m_enumerate) (DL.g_tup rfl (DL.g_cons (DL.g_name 1 (nio hI (by decide)) hN) (DL.g_cons (DL.g_name 2 (nio hI (by decide)) hN) DL.g_nil)))
    (DL.s_one (DL.s_if (DL.t_w (DL.w_or (DL.t_not (DL.t_val (DL.v_call (R := R0) C_is_name M_is_name (hr.mono (by decide)) takesR0 (DL.v_cons (DL.v_var 2 (hio := (nio hI (by decide)))) DL.v_nil)))) (DL.w_or1 (DL.t_in hu65 (DL.v_var 2 (hio := (nio hI (by decide)))) (DL.v_slice (DL.v_var 0 (hio := (nio hI (by decide)))) DL.o_none (DL.o_some (DL.v_var 1 (hio := (nio hI (by decide))))))))))
    (DL.s_one DL.s_never)
    DL.s_nil)))
    (DL.s_one (DL.s_ret (DL.v_callB cr_sortedS fits_sortS mono_sortS boot_sorted T.m_sorted (DL.v_cons (DL.v_var 0 (hio := (nio hI (by decide)))) DL.v_nil))))))
def t_is_pair_of (sp_is_list : SpD) : TSd :=
  (dSeq (dIf (dOr (dNot (dT (dCall sp_is_list (dCons (dVar 0) dNil) R0))) (dOr (dT (dB wNe (dL wLen (dCons (dVar 0) dNil)) (dC (.int 2)))) (dNot (dT (dL (wAllAny fun bs => bs.all id) (dCons (dLc [2] (dSeqI (dVar 0)) (gN 2) dYes (dAndV (dL wIsi (dCons (dVar 2) (dCons (dC (.opq (.ty "str"))) dNil))) (dB wIn (dVar 2) (dVar 1)))) dNil)))))) (dRet (dC (.bl false))) dNext)
  (dRet (dB wNe (dB wIx (dVar 0) (dC (.int 0))) (dB wIx (dVar 0) (dC (.int 1))))))
def s_is_pair_of : Stmt := (top 16)
theorem sc_is_pair_of : FnScope ["thing", "rooms", "one"] ["thing", "rooms"] (defScope s_is_pair_of) := ⟨rfl, rfl, rfl, by decide +kernel, rfl, by decide +kernel, by decide +kernel⟩
theorem d_is_pair_of {P : Program} {w : World} {K : PySem.W.Frag} {mg : Str → Option Value} {base : Heap} {C_House : Addr} (T : Txt K mg C_House)
    {sp_is_list : SpD} (C_is_list : Callee P w K mg base "is_list" 1 none sp_is_list) (M_is_list : MonoSp sp_is_list)
    {f : Addr} {fd : FuncData} (F : Fun K "is_pair_of" "is_pair_of" s_is_pair_of f fd) {sp : SpD} (hl : ∀ args ret exc, sp args ret exc → args.length = 2) (hc : ∀ args ret exc, sp args ret exc → (t_is_pair_of sp_is_list) (fnE none ret) (start0 3 args)) :
    DL.FnOk P w K mg base (L2.CX P w) 2 f fd ["thing", "rooms"] (spOf none sp) := by
  refine fn_d F sc_is_pair_of hl (t := fun R => t_is_pair_of sp_is_list) (fun cdv A outer s H E en R hr hI tk hp => ?_) hc
  have hN := sc_is_pair_of.nd
  have hu : (A.deeper (envOfC "is_pair_of" (defScope s_is_pair_of) s.heap.objs.size f cdv)).units + 1 < cLine := hu_of hr.toRoom
  have hu64 : (A.deeper (envOfC "is_pair_of" (defScope s_is_pair_of) s.heap.objs.size f cdv)).units + 64 < cLine := hr.units
  have hu65 : (A.deeper (envOfC "is_pair_of" (defScope s_is_pair_of) s.heap.objs.size f cdv)).units + 65 < cLine := by have := hr.un; omega
  exact (DL.s_cons (DL.s_if (DL.t_w (DL.w_or (DL.t_not (DL.t_val (DL.v_call (R := R0) C_is_list M_is_list (hr.mono (by decide)) takesR0 (DL.v_cons (DL.v_var 0 (hio := (nio hI (by decide)))) DL.v_nil)))) (DL.w_or (DL.t_ne hu64 (DL.v_callB (call_len.or call_lenR) fits_len mono_len boot_len T.m_len (DL.v_cons (DL.v_var 0 (hio := (nio hI (by decide)))) DL.v_nil)) DL.v_int) (DL.w_or1 (DL.t_not (DL.t_val (DL.v_callB (cr_all rfl) fits_all mono_allany boot_all T.m_all (DL.v_cons (DL.v_lc (own := [(("one" : Str), 2)]) rfl hN (DL.i_seq (DL.v_var 0 (hio := (nio hI (by decide))))) (blk_of rfl (by kernel_rfl)) (by decide) (own_io hI (by decide)) (fun s_ H_ C_ cl_ fp_ en_h1 h1 => (DL.g_name 2 (nio (h1.trans hI) (by decide)) hN)) (fun s_ H_ C_ cl_ fp_ en_h2 h2 => DL.b_nil) (fun s_ H_ C_ cl_ fp_ en_h3 h3 => (DL.v_and (DL.v_callB call_isi fits_isi mono_isi boot_isinstance T.m_isinstance (DL.v_cons (DL.v_var 2 (hio := (nio (h3.trans hI) (by decide)))) (DL.v_cons (DL.v_ty T.m_str boot_str) DL.v_nil))) (DL.v_one (DL.v_in hu65 (DL.v_var 2 (hio := (nio (h3.trans hI) (by decide)))) (DL.v_var 1 (hio := (nio (h3.trans hI) (by decide))))))))) DL.v_nil))))))))
    (DL.s_one (DL.s_ret DL.v_bl))
    DL.s_nil)
    (DL.s_one (DL.s_ret (DL.v_ne hu64 (DL.v_ix hu (DL.v_var 0 (hio := (nio hI (by decide)))) DL.v_int) (DL.v_ix hu (DL.v_var 0 (hio := (nio hI (by decide)))) DL.v_int)))))
def t_checked_doors (sp_is_list sp_is_pair_of : SpD) : TSd :=
  (dSeq (dIf (dNot (dT (dCall sp_is_list (dCons (dVar 0) dNil) R0))) dNever dNext)
  (dSeq (dPar2 2 3 (dDc 0 [9] (dSeqI (dVar 1)) (gN 9) dYes (dVar 9) (dL wLst (dCons (dVar 9) dNil))) (dDc 1 [9] (dSeqI (dVar 1)) (gN 9) dYes (dVar 9) (dL wLst dNil)))
  (dSeq (dFor (dEnum (dCons (dVar 0) dNil)) (dTup 2 (gCons (gN 4) (gCons (gN 5) gNil))) (dSeq (dIf (dFlatB (dOr (dNot (dT (dCall sp_is_pair_of (dCons (dVar 5) (dCons (dVar 3) dNil)) R0))) (dT (dB wIn (dB wIx (dVar 5) (dC (.int 1))) (dB wIx (dVar 2) (dB wIx (dVar 5) (dC (.int 0)))))))) dNever dNext)
  (dSeq (dAsg (dVar 5) (dTup 2 (gCons (gN 6) (gCons (gN 7) gNil))))
  (dSeq (dExpr (dAppIx 3 (dVar 6) (dVar 7)))
  (dSeq (dExpr (dAppIx 3 (dVar 7) (dVar 6)))
  (dSeq (dSet 8 (dB wAdd (dIxO 2 (dVar 6)) (dIxO 2 (dVar 7))))
  (dFor (dSeqI (dVar 8)) (gN 9) (dPut 2 (dVar 9) (dVar 8)))))))))
  (dSeq (dSet 10 (dLc [9] (dSeqI (dVar 1)) (gN 9) (dT (dB wNotIn (dVar 9) (dB wIx (dVar 2) (dB wIx (dVar 1) (dC (.int 0)))))) (dVar 9)))
  (dSeq (dIf (dT (dB wNe (dVar 10) (dL wLst dNil))) dNever dNext)
  (dRet (dDc 0 [9] (dSeqI (dVar 1)) (gN 9) dYes (dVar 9) (dL wSortS (dCons (dB wIx (dVar 3) (dVar 9)) dNil)))))))))
def s_checked_doors : Stmt := (top 17)
theorem sc_checked_doors : FnScope ["doors", "rooms", "lots", "found", "index", "thing", "one", "other", "lot", "room", "apart"] ["doors", "rooms"] (defScope s_checked_doors) := ⟨rfl, rfl, rfl, by decide +kernel, rfl, by decide +kernel, by decide +kernel⟩
theorem d_checked_doors {P : Program} {w : World} {K : PySem.W.Frag} {mg : Str → Option Value} {base : Heap} {C_House : Addr} (T : Txt K mg C_House)
    {sp_is_list : SpD} (C_is_list : Callee P w K mg base "is_list" 1 none sp_is_list) (M_is_list : MonoSp sp_is_list)
    {sp_is_pair_of : SpD} (C_is_pair_of : Callee P w K mg base "is_pair_of" 2 none sp_is_pair_of) (M_is_pair_of : MonoSp sp_is_pair_of)
    {f : Addr} {fd : FuncData} (F : Fun K "checked_doors" "checked_doors" s_checked_doors f fd) {sp : SpD} (hl : ∀ args ret exc, sp args ret exc → args.length = 2) (hc : ∀ args ret exc, sp args ret exc → (t_checked_doors sp_is_list sp_is_pair_of) (fnE none ret) (start0 11 args)) :
    DL.FnOk P w K mg base (L2.CX P w) 3 f fd ["doors", "rooms"] (spOf none sp) := by
  refine fn_d F sc_checked_doors hl (t := fun R => t_checked_doors sp_is_list sp_is_pair_of) (fun cdv A outer s H E en R hr hI tk hp => ?_) hc
  have hN := sc_checked_doors.nd
  have hu : (A.deeper (envOfC "checked_doors" (defScope s_checked_doors) s.heap.objs.size f cdv)).units + 1 < cLine := hu_of hr.toRoom
  have hu64 : (A.deeper (envOfC "checked_doors" (defScope s_checked_doors) s.heap.objs.size f cdv)).units + 64 < cLine := hr.units
  have hu65 : (A.deeper (envOfC "checked_doors" (defScope s_checked_doors) s.heap.objs.size f cdv)).units + 65 < cLine := by have := hr.un; omega
  exact (DL.s_cons (DL.s_if (DL.t_not (DL.t_val (DL.v_call (R := R0) C_is_list M_is_list (hr.mono (by decide)) takesR0 (DL.v_cons (DL.v_var 0 (hio := (nio hI (by decide)))) DL.v_nil))))
    (DL.s_one DL.s_never)
    DL.s_nil)
    (DL.s_cons (DL.s_par2c (i := 2) (j := 3) (DL.v_dc 0 (own := [(("room" : Str), 9)]) rfl hN (DL.i_seq (DL.v_var 1 (hio := (nio hI (by decide))))) (blk_of rfl (by kernel_rfl)) (by decide) (own_io hI (by decide)) (fun s_ H_ C_ cl_ fp_ en_h1 h1 => (DL.g_name 9 (nio (h1.trans hI) (by decide)) hN)) (fun s_ H_ C_ cl_ fp_ en_h2 h2 => DL.b_nil) (fun s_ H_ C_ cl_ fp_ en_h3 h3 => (DL.v_var 9 (hio := (nio (h3.trans hI) (by decide))))) (fun s_ H_ C_ cl_ fp_ en_h4 h4 => (DL.v_lst (DL.v_cons (DL.v_var 9 (hio := (nio (h4.trans hI) (by decide)))) DL.v_nil)))) (fun en_h5 h5 => (DL.v_dc 1 (own := [(("room" : Str), 9)]) rfl hN (DL.i_seq (DL.v_var 1 (hio := (nio (h5.trans hI) (by decide))))) (blk_of rfl (by kernel_rfl)) (by decide) (own_io (h5.trans hI) (by decide)) (fun s_ H_ C_ cl_ fp_ en_h6 h6 => (DL.g_name 9 (nio (h6.trans (h5.trans hI)) (by decide)) hN)) (fun s_ H_ C_ cl_ fp_ en_h7 h7 => DL.b_nil) (fun s_ H_ C_ cl_ fp_ en_h8 h8 => (DL.v_var 9 (hio := (nio (h8.trans (h5.trans hI)) (by decide))))) (fun s_ H_ C_ cl_ fp_ en_h9 h9 => (DL.v_lst DL.v_nil)))) (nio hI (by decide)) (nio hI (by decide)) (by decide) rfl hN)
    (DL.s_cons (DL.s_for hp rfl (DL.i_enum (DL.v_cons (DL.v_var 0 (hio := (nio hI (by decide)))) DL.v_nil) T.m_enumerate) (DL.g_tup rfl (DL.g_cons (DL.g_name 4 (nio hI (by decide)) hN) (DL.g_cons (DL.g_name 5 (nio hI (by decide)) hN) DL.g_nil)))
    (DL.s_cons (DL.s_if (DL.t_flat fun en_h10 h10 => (DL.t_w (DL.w_or (DL.t_not (DL.t_val (DL.v_call (R := R0) C_is_pair_of M_is_pair_of (hr.mono (by decide)) takesR0 (DL.v_cons (DL.v_var 5 (hio := (nio h10 (by decide)))) (DL.v_cons (DL.v_var 3 (hio := (nio h10 (by decide)))) DL.v_nil))))) (DL.w_or1 (DL.t_in hu65 (DL.v_ix hu (DL.v_var 5 (hio := (nio h10 (by decide)))) DL.v_int) (DL.v_ix hu (DL.v_var 2 (hio := (nio h10 (by decide)))) (DL.v_ix hu (DL.v_var 5 (hio := (nio h10 (by decide)))) DL.v_int)))))))
    (DL.s_one DL.s_never)
    DL.s_nil)
    (DL.s_cons (DL.s_asg (DL.v_var 5 (hio := (nio hI (by decide)))) (DL.g_tup rfl (DL.g_cons (DL.g_name 6 (nio hI (by decide)) hN) (DL.g_cons (DL.g_name 7 (nio hI (by decide)) hN) DL.g_nil))))
    (DL.s_cons (DL.s_expr (DL.v_appIx 3 hu (fun en_h11 h11 => (DL.v_var 6 (hio := (nio h11 (by decide))))) (fun en_h12 h12 => (DL.v_var 7 (hio := (nio h12 (by decide)))))))
    (DL.s_cons (DL.s_expr (DL.v_appIx 3 hu (fun en_h13 h13 => (DL.v_var 7 (hio := (nio h13 (by decide))))) (fun en_h14 h14 => (DL.v_var 6 (hio := (nio h14 (by decide)))))))
    (DL.s_cons (DL.s_set 8 (DL.v_add (DL.v_ixO 2 hu (fun en_h15 h15 => (DL.v_var 6 (hio := (nio h15 (by decide)))))) (DL.v_ixO 2 hu (fun en_h16 h16 => (DL.v_var 7 (hio := (nio h16 (by decide))))))) (nio hI (by decide)) hN)
    (DL.s_one (DL.s_for hp rfl (DL.i_seq (DL.v_var 8 (hio := (nio hI (by decide))))) (DL.g_name 9 (nio hI (by decide)) hN)
    (DL.s_one (DL.s_put 2 hu (DL.v_var 9 (hio := (nio hI (by decide)))) (DL.v_var 8 (hio := (nio hI (by decide))))))))))))))
    (DL.s_cons (DL.s_setLc 10 (nio hI (by decide)) (own := [(("room" : Str), 9)]) rfl hN (DL.i_seq (DL.v_var 1 (hio := (nio hI (by decide))))) (blk_of rfl (by kernel_rfl)) (by decide) (own_io hI (by decide)) (fun s_ H_ C_ cl_ fp_ en_h17 h17 => (DL.g_name 9 (nio (h17.trans hI) (by decide)) hN)) (fun s_ H_ C_ cl_ fp_ en_h18 h18 => (DL.b_one (DL.t_notIn hu65 (DL.v_var 9 (hio := (nio (h18.trans hI) (by decide)))) (DL.v_ix hu (DL.v_var 2 (hio := (nio (h18.trans hI) (by decide)))) (DL.v_ix hu (DL.v_var 1 (hio := (nio (h18.trans hI) (by decide)))) DL.v_int))))) (fun s_ H_ C_ cl_ fp_ en_h19 h19 => (DL.v_var 9 (hio := (nio (h19.trans hI) (by decide))))))
    (DL.s_cons (DL.s_if (DL.t_ne hu64 (DL.v_var 10 (hio := (nio hI (by decide)))) (DL.v_lst DL.v_nil))
    (DL.s_one DL.s_never)
    DL.s_nil)
    (DL.s_one (DL.s_ret (DL.v_dc 0 (own := [(("room" : Str), 9)]) rfl hN (DL.i_seq (DL.v_var 1 (hio := (nio hI (by decide))))) (blk_of rfl (by kernel_rfl)) (by decide) (own_io hI (by decide)) (fun s_ H_ C_ cl_ fp_ en_h20 h20 => (DL.g_name 9 (nio (h20.trans hI) (by decide)) hN)) (fun s_ H_ C_ cl_ fp_ en_h21 h21 => DL.b_nil) (fun s_ H_ C_ cl_ fp_ en_h22 h22 => (DL.v_var 9 (hio := (nio (h22.trans hI) (by decide))))) (fun s_ H_ C_ cl_ fp_ en_h23 h23 => (DL.v_callB cr_sortedS fits_sortS mono_sortS boot_sorted T.m_sorted (DL.v_cons (DL.v_ix hu (DL.v_var 3 (hio := (nio (h23.trans hI) (by decide)))) (DL.v_var 9 (hio := (nio (h23.trans hI) (by decide))))) DL.v_nil)))))))))))
def t_House_init (C_House : Addr) (sp_checked_rooms sp_checked_doors : SpD) : TSd :=
  (dSeq (dSetF 0 C_House "own_rooms" (dCall sp_checked_rooms (dCons (dVar 1) dNil) R0))
  (dSetF 0 C_House "own_beside" (dCall sp_checked_doors (dCons (dVar 2) (dCons (dFldO 0 C_House "own_rooms") dNil)) R0)))
def s_House_init : Stmt := (inClass (top 18) 0)
theorem sc_House_init : FnScope ["self", "rooms", "doors"] ["self", "rooms", "doors"] (defScope s_House_init) := ⟨rfl, rfl, rfl, by decide +kernel, rfl, by decide +kernel, by decide +kernel⟩
theorem d_House_init {P : Program} {w : World} {K : PySem.W.Frag} {mg : Str → Option Value} {base : Heap} {C_House : Addr} (T : Txt K mg C_House)
    {sp_checked_rooms : SpD} (C_checked_rooms : Callee P w K mg base "checked_rooms" 2 none sp_checked_rooms) (M_checked_rooms : MonoSp sp_checked_rooms)
    {sp_checked_doors : SpD} (C_checked_doors : Callee P w K mg base "checked_doors" 3 none sp_checked_doors) (M_checked_doors : MonoSp sp_checked_doors)
    {f : Addr} {fd : FuncData} (F : Fun K "__init__" "House.__init__" s_House_init f fd) {sp : SpD} (hl : ∀ args ret exc, sp args ret exc → args.length = 3) (hc : ∀ args ret exc, sp args ret exc → (t_House_init C_House sp_checked_rooms sp_checked_doors) (fnE (some 0) ret) (start0 3 args)) :
    DL.FnOk P w K mg base (L2.CX P w) 4 f fd ["self", "rooms", "doors"] (spOf (some 0) sp) := by
  refine fn_d F sc_House_init hl (t := fun R => t_House_init C_House sp_checked_rooms sp_checked_doors) (fun cdv A outer s H E en R hr hI tk hp => ?_) hc
  have hN := sc_House_init.nd
  have hu : (A.deeper (envOfC "House.__init__" (defScope s_House_init) s.heap.objs.size f cdv)).units + 1 < cLine := hu_of hr.toRoom
  have hu64 : (A.deeper (envOfC "House.__init__" (defScope s_House_init) s.heap.objs.size f cdv)).units + 64 < cLine := hr.units
  have hu65 : (A.deeper (envOfC "House.__init__" (defScope s_House_init) s.heap.objs.size f cdv)).units + 65 < cLine := by have := hr.un; omega
  exact (DL.s_cons (DL.s_setF 0 T.cl_House T.n_House_own_rooms (DL.v_call (R := R0) C_checked_rooms M_checked_rooms (hr.mono (by decide)) takesR0 (DL.v_cons (DL.v_var 1 (hio := (nio hI (by decide)))) DL.v_nil)))
    (DL.s_one (DL.s_setF 0 T.cl_House T.n_House_own_beside (DL.v_call (R := R0) C_checked_doors M_checked_doors (hr.mono (by decide)) takesR0 (DL.v_cons (DL.v_var 2 (hio := (nio hI (by decide)))) (DL.v_cons (DL.v_fldO 0 T.cl_House T.n_House_own_rooms) DL.v_nil))))))
def t__law_h_turned (sp__law_mixed : SpD) : TSd :=
  (dRet (dL wDictP (dCons (dCallI sp__law_mixed 0 0 (dHere 0 (dCons (dItemsL (dVar 1)) dNil)) R0) dNil)))
def s__law_h_turned : Stmt := (top 40)
theorem sc__law_h_turned : FnScope ["_law_stream", "_law_given"] ["_law_stream", "_law_given"] (defScope s__law_h_turned) := ⟨rfl, rfl, rfl, by decide +kernel, rfl, by decide +kernel, by decide +kernel⟩
theorem d__law_h_turned {P : Program} {w : World} {K : PySem.W.Frag} {mg : Str → Option Value} {base : Heap} {C_House : Addr} (T : Txt K mg C_House)
    {sp__law_mixed : SpD} (C__law_mixed : Callee P w K mg base "_law_mixed" 2 (some 0) sp__law_mixed) (M__law_mixed : MonoSp sp__law_mixed)
    {f : Addr} {fd : FuncData} (F : Fun K "_law_h_turned" "_law_h_turned" s__law_h_turned f fd) {sp : SpD} (hl : ∀ args ret exc, sp args ret exc → args.length = 2) (hc : ∀ args ret exc, sp args ret exc → (t__law_h_turned sp__law_mixed) (fnE (some 0) ret) (start0 2 args)) :
    DL.FnOk P w K mg base (L2.CX P w) 3 f fd ["_law_stream", "_law_given"] (spOf (some 0) sp) := by
  refine fn_d F sc__law_h_turned hl (t := fun R => t__law_h_turned sp__law_mixed) (fun cdv A outer s H E en R hr hI tk hp => ?_) hc
  have hN := sc__law_h_turned.nd
  have hu : (A.deeper (envOfC "_law_h_turned" (defScope s__law_h_turned) s.heap.objs.size f cdv)).units + 1 < cLine := hu_of hr.toRoom
  have hu64 : (A.deeper (envOfC "_law_h_turned" (defScope s__law_h_turned) s.heap.objs.size f cdv)).units + 64 < cLine := hr.units
  have hu65 : (A.deeper (envOfC "_law_h_turned" (defScope s__law_h_turned) s.heap.objs.size f cdv)).units + 65 < cLine := by have := hr.un; omega
  exact (DL.s_one (DL.s_ret (DL.v_callT (call_dictP rfl) fits_dictP mono_dictP boot_dict T.m_dict (DL.v_cons (DL.v_callI (R := R0) C__law_mixed M__law_mixed (hr.mono (by decide)) takesR0 (DL.i_here 0 (DL.v_cons (DL.v_items rfl (DL.v_var 1 (hio := (nio hI (by decide)))) T.m_list) DL.v_nil))) DL.v_nil))))
def t__law_h_woods (sp__law_draw : SpD) : TSd :=
  (dRet (dL wDictP (dCons (dLc [3] (dSeqI (dL wSortS (dCons (dVar 1) dNil))) (gN 3) dYes (dL wTup (dCons (dVar 3) (dCons (dB wAdd (dC (.int 1)) (dCallI sp__law_draw 0 0 (dHere 0 (dCons (dVar 2) dNil)) R0)) dNil)))) dNil)))
def s__law_h_woods : Stmt := (top 39)
theorem sc__law_h_woods : FnScope ["_law_stream", "_law_rooms", "_law_most", "_law_room"] ["_law_stream", "_law_rooms", "_law_most"] (defScope s__law_h_woods) := ⟨rfl, rfl, rfl, by decide +kernel, rfl, by decide +kernel, by decide +kernel⟩
theorem d__law_h_woods {P : Program} {w : World} {K : PySem.W.Frag} {mg : Str → Option Value} {base : Heap} {C_House : Addr} (T : Txt K mg C_House)
    {sp__law_draw : SpD} (C__law_draw : Callee P w K mg base "_law_draw" 1 (some 0) sp__law_draw) (M__law_draw : MonoSp sp__law_draw)
    {f : Addr} {fd : FuncData} (F : Fun K "_law_h_woods" "_law_h_woods" s__law_h_woods f fd) {sp : SpD} (hl : ∀ args ret exc, sp args ret exc → args.length = 3) (hc : ∀ args ret exc, sp args ret exc → (t__law_h_woods sp__law_draw) (fnE (some 0) ret) (start0 4 args)) :
    DL.FnOk P w K mg base (L2.CX P w) 2 f fd ["_law_stream", "_law_rooms", "_law_most"] (spOf (some 0) sp) := by
  refine fn_d F sc__law_h_woods hl (t := fun R => t__law_h_woods sp__law_draw) (fun cdv A outer s H E en R hr hI tk hp => ?_) hc
  have hN := sc__law_h_woods.nd
  have hu : (A.deeper (envOfC "_law_h_woods" (defScope s__law_h_woods) s.heap.objs.size f cdv)).units + 1 < cLine := hu_of hr.toRoom
  have hu64 : (A.deeper (envOfC "_law_h_woods" (defScope s__law_h_woods) s.heap.objs.size f cdv)).units + 64 < cLine := hr.units
  have hu65 : (A.deeper (envOfC "_law_h_woods" (defScope s__law_h_woods) s.heap.objs.size f cdv)).units + 65 < cLine := by have := hr.un; omega
  exact (DL.s_one (DL.s_ret (DL.v_callT (call_dictP rfl) fits_dictP mono_dictP boot_dict T.m_dict (DL.v_cons (DL.v_lc (own := [(("_law_room" : Str), 3)]) rfl hN (DL.i_seq (DL.v_callB cr_sortedS fits_sortS mono_sortS boot_sorted T.m_sorted (DL.v_cons (DL.v_var 1 (hio := (nio hI (by decide)))) DL.v_nil))) (blk_of rfl (by kernel_rfl)) (by decide) (own_io hI (by decide)) (fun s_ H_ C_ cl_ fp_ en_h1 h1 => (DL.g_name 3 (nio (h1.trans hI) (by decide)) hN)) (fun s_ H_ C_ cl_ fp_ en_h2 h2 => DL.b_nil) (fun s_ H_ C_ cl_ fp_ en_h3 h3 => (DL.v_tup (DL.v_cons (DL.v_var 3 (hio := (nio (h3.trans hI) (by decide)))) (DL.v_cons (DL.v_add DL.v_int (DL.v_callI (R := R0) C__law_draw M__law_draw (hr.mono (by decide)) takesR0 (DL.i_here 0 (DL.v_cons (DL.v_var 2 (hio := (nio (h3.trans hI) (by decide)))) DL.v_nil)))) DL.v_nil))))) DL.v_nil))))
def t_House_len (C_House : Addr)  : TSd :=
  (dRet (dL wLen (dCons (dFld C_House "own_rooms" (dVar 0)) dNil)))
def s_House_len : Stmt := (inClass (top 18) 3)
theorem sc_House_len : FnScope ["self"] ["self"] (defScope s_House_len) := ⟨rfl, rfl, rfl, by decide +kernel, rfl, by decide +kernel, by decide +kernel⟩
theorem d_House_len {P : Program} {w : World} {K : PySem.W.Frag} {mg : Str → Option Value} {base : Heap} {C_House : Addr} (T : Txt K mg C_House)
    
    {f : Addr} {fd : FuncData} (F : Fun K "__len__" "House.__len__" s_House_len f fd) {sp : SpD} (hl : ∀ args ret exc, sp args ret exc → args.length = 1) (hc : ∀ args ret exc, sp args ret exc → (t_House_len C_House ) (fnE none ret) (start0 1 args)) :
    DL.FnOk P w K mg base (L2.CX P w) 1 f fd ["self"] (spOf none sp) := by
  refine fn_d F sc_House_len hl (t := fun R => t_House_len C_House ) (fun cdv A outer s H E en R hr hI tk hp => ?_) hc
  have hN := sc_House_len.nd
  have hu : (A.deeper (envOfC "House.__len__" (defScope s_House_len) s.heap.objs.size f cdv)).units + 1 < cLine := hu_of hr.toRoom
  have hu64 : (A.deeper (envOfC "House.__len__" (defScope s_House_len) s.heap.objs.size f cdv)).units + 64 < cLine := hr.units
  have hu65 : (A.deeper (envOfC "House.__len__" (defScope s_House_len) s.heap.objs.size f cdv)).units + 65 < cLine := by have := hr.un; omega
  exact (DL.s_one (DL.s_ret (DL.v_callB (call_len.or call_lenR) fits_len mono_len boot_len T.m_len (DL.v_cons (DL.v_fld T.cl_House T.n_House_own_rooms (DL.v_var 0 (hio := (nio hI (by decide))))) DL.v_nil))))
def t_is_integer  : TSd :=
  (dRet (dAndV (dL wIsi (dCons (dVar 0) (dCons (dC (.opq (.ty "int"))) dNil))) (dNotV (dL wIsi (dCons (dVar 0) (dCons (dC (.opq (.ty "bool"))) dNil))))))
def s_is_integer : Stmt := (top 12)
theorem sc_is_integer : FnScope ["thing"] ["thing"] (defScope s_is_integer) := ⟨rfl, rfl, rfl, by decide +kernel, rfl, by decide +kernel, by decide +kernel⟩
theorem d_is_integer {P : Program} {w : World} {K : PySem.W.Frag} {mg : Str → Option Value} {base : Heap} {C_House : Addr} (T : Txt K mg C_House)
    
    {f : Addr} {fd : FuncData} (F : Fun K "is_integer" "is_integer" s_is_integer f fd) {sp : SpD} (hl : ∀ args ret exc, sp args ret exc → args.length = 1) (hc : ∀ args ret exc, sp args ret exc → (t_is_integer ) (fnE none ret) (start0 1 args)) :
    DL.FnOk P w K mg base (L2.CX P w) 1 f fd ["thing"] (spOf none sp) := by
  refine fn_d F sc_is_integer hl (t := fun R => t_is_integer ) (fun cdv A outer s H E en R hr hI tk hp => ?_) hc
  have hN := sc_is_integer.nd
  have hu : (A.deeper (envOfC "is_integer" (defScope s_is_integer) s.heap.objs.size f cdv)).units + 1 < cLine := hu_of hr.toRoom
  have hu64 : (A.deeper (envOfC "is_integer" (defScope s_is_integer) s.heap.objs.size f cdv)).units + 64 < cLine := hr.units
  have hu65 : (A.deeper (envOfC "is_integer" (defScope s_is_integer) s.heap.objs.size f cdv)).units + 65 < cLine := by have := hr.un; omega
  exact (DL.s_one (DL.s_ret (DL.v_and (DL.v_callB call_isi fits_isi mono_isi boot_isinstance T.m_isinstance (DL.v_cons (DL.v_var 0 (hio := (nio hI (by decide)))) (DL.v_cons (DL.v_ty T.m_int boot_int) DL.v_nil))) (DL.v_one (DL.v_not (DL.v_callB call_isi fits_isi mono_isi boot_isinstance T.m_isinstance (DL.v_cons (DL.v_var 0 (hio := (nio hI (by decide)))) (DL.v_cons (DL.v_ty T.m_bool boot_bool) DL.v_nil))))))))
def t_is_woods (C_House : Addr) (sp_House_len sp_is_integer : SpD) : TSd :=
  (dSeq (dIf (dOr (dNot (dT (dL wIsi (dCons (dVar 1) (dCons (dC (.opq (.ty "dict"))) dNil))))) (dT (dB wNe (dL wLen (dCons (dVar 1) dNil)) (dLenO C_House sp_House_len (dVar 0) R0)))) (dRet (dC (.bl false))) dNext)
  (dRet (dL (wAllAny fun bs => bs.all id) (dCons (dLc [2] (dSeqI (dFld C_House "own_rooms" (dVar 0))) (gN 2) dYes (dAndV (dB wIn (dVar 2) (dVar 1)) (dAndV (dCall sp_is_integer (dCons (dB wIx (dVar 1) (dVar 2)) dNil) R0) (dB wGt (dB wIx (dVar 1) (dVar 2)) (dC (.int 0)))))) dNil))))
def s_is_woods : Stmt := (top 24)
theorem sc_is_woods : FnScope ["house", "thing", "room"] ["house", "thing"] (defScope s_is_woods) := ⟨rfl, rfl, rfl, by decide +kernel, rfl, by decide +kernel, by decide +kernel⟩
theorem d_is_woods {P : Program} {w : World} {K : PySem.W.Frag} {mg : Str → Option Value} {base : Heap} {C_House : Addr} (T : Txt K mg C_House)
    {sp_House_len : SpD} (C_House_len : CalleeM P w K mg base C_House "__len__" 1 sp_House_len) (M_House_len : MonoSp sp_House_len)
    {sp_is_integer : SpD} (C_is_integer : Callee P w K mg base "is_integer" 1 none sp_is_integer) (M_is_integer : MonoSp sp_is_integer)
    {f : Addr} {fd : FuncData} (F : Fun K "is_woods" "is_woods" s_is_woods f fd) {sp : SpD} (hl : ∀ args ret exc, sp args ret exc → args.length = 2) (hc : ∀ args ret exc, sp args ret exc → (t_is_woods C_House sp_House_len sp_is_integer) (fnE none ret) (start0 3 args)) :
    DL.FnOk P w K mg base (L2.CX P w) 3 f fd ["house", "thing"] (spOf none sp) := by
  refine fn_d F sc_is_woods hl (t := fun R => t_is_woods C_House sp_House_len sp_is_integer) (fun cdv A outer s H E en R hr hI tk hp => ?_) hc
  have hN := sc_is_woods.nd
  have hu : (A.deeper (envOfC "is_woods" (defScope s_is_woods) s.heap.objs.size f cdv)).units + 1 < cLine := hu_of hr.toRoom
  have hu64 : (A.deeper (envOfC "is_woods" (defScope s_is_woods) s.heap.objs.size f cdv)).units + 64 < cLine := hr.units
  have hu65 : (A.deeper (envOfC "is_woods" (defScope s_is_woods) s.heap.objs.size f cdv)).units + 65 < cLine := by have := hr.un; omega
  exact (DL.s_cons (DL.s_if (DL.t_w (DL.w_or (DL.t_not (DL.t_val (DL.v_callB call_isi fits_isi mono_isi boot_isinstance T.m_isinstance (DL.v_cons (DL.v_var 1 (hio := (nio hI (by decide)))) (DL.v_cons (DL.v_ty T.m_dict boot_dict) DL.v_nil))))) (DL.w_or1 (DL.t_ne hu64 (DL.v_callB (call_len.or call_lenR) fits_len mono_len boot_len T.m_len (DL.v_cons (DL.v_var 1 (hio := (nio hI (by decide)))) DL.v_nil)) (DL.v_lenO (R := R0) C_House_len M_House_len (hr.mono (by decide)) takesR0 (DL.v_var 0 (hio := (nio hI (by decide)))) T.m_len)))))
    (DL.s_one (DL.s_ret DL.v_bl))
    DL.s_nil)
    (DL.s_one (DL.s_ret (DL.v_callB (cr_all rfl) fits_all mono_allany boot_all T.m_all (DL.v_cons (DL.v_lc (own := [(("room" : Str), 2)]) rfl hN (DL.i_seq (DL.v_fld T.cl_House T.n_House_own_rooms (DL.v_var 0 (hio := (nio hI (by decide)))))) (blk_of rfl (by kernel_rfl)) (by decide) (own_io hI (by decide)) (fun s_ H_ C_ cl_ fp_ en_h1 h1 => (DL.g_name 2 (nio (h1.trans hI) (by decide)) hN)) (fun s_ H_ C_ cl_ fp_ en_h2 h2 => DL.b_nil) (fun s_ H_ C_ cl_ fp_ en_h3 h3 => (DL.v_and (DL.v_in hu65 (DL.v_var 2 (hio := (nio (h3.trans hI) (by decide)))) (DL.v_var 1 (hio := (nio (h3.trans hI) (by decide))))) (DL.v_and (DL.v_call (R := R0) C_is_integer M_is_integer (hr.mono (by decide)) takesR0 (DL.v_cons (DL.v_ix hu (DL.v_var 1 (hio := (nio (h3.trans hI) (by decide)))) (DL.v_var 2 (hio := (nio (h3.trans hI) (by decide))))) DL.v_nil)) (DL.v_one (DL.v_gt (DL.v_ix hu (DL.v_var 1 (hio := (nio (h3.trans hI) (by decide)))) (DL.v_var 2 (hio := (nio (h3.trans hI) (by decide))))) DL.v_int)))))) DL.v_nil)))))
def t__law_same (sp__law_same : SpD) : TSd :=
  (dSeq (dIf (dT (dL wIsiT (dCons (dVar 1) (dCons (dL wTup (dCons (dC (.opq (.ty "list"))) (dCons (dC (.opq (.ty "tuple"))) dNil))) dNil)))) (dSeq (dIf (dOr (dT (dB wNe (dL wIsi (dCons (dVar 0) (dCons (dC (.opq (.ty "list"))) dNil))) (dL wIsi (dCons (dVar 1) (dCons (dC (.opq (.ty "list"))) dNil))))) (dT (dB wNe (dL wIsi (dCons (dVar 0) (dCons (dC (.opq (.ty "tuple"))) dNil))) (dL wIsi (dCons (dVar 1) (dCons (dC (.opq (.ty "tuple"))) dNil)))))) (dRet (dC (.bl false))) dNext)
  (dRet (dAndV (dB wEq (dL wLen (dCons (dVar 0) dNil)) (dL wLen (dCons (dVar 1) dNil))) (dL (wAllAny fun bs => bs.all id) (dCons (dLc [2, 3] (dZipA (dCons (dVar 0) (dCons (dVar 1) dNil))) (dTup 2 (gCons (gN 2) (gCons (gN 3) gNil))) dYes (dCall sp__law_same (dCons (dVar 2) (dCons (dVar 3) dNil)) R0)) dNil))))) dNext)
  (dSeq (dIf (dT (dL wIsi (dCons (dVar 1) (dCons (dC (.opq (.ty "dict"))) dNil)))) (dRet (dAndV (dL wIsi (dCons (dVar 0) (dCons (dC (.opq (.ty "dict"))) dNil))) (dCall sp__law_same (dCons (dItemsL (dVar 0)) (dCons (dItemsL (dVar 1)) dNil)) R0))) dNext)
  (dSeq (dIf (dT (dL wIsi (dCons (dVar 1) (dCons (dC (.opq (.ty "int"))) dNil)))) (dRet (dAndV (dL wIsi (dCons (dVar 0) (dCons (dC (.opq (.ty "int"))) dNil))) (dAndV (dB wEq (dL wIsi (dCons (dVar 0) (dCons (dC (.opq (.ty "bool"))) dNil))) (dL wIsi (dCons (dVar 1) (dCons (dC (.opq (.ty "bool"))) dNil)))) (dB wEq (dVar 0) (dVar 1))))) dNext)
  (dRet (dAndV (dNotV (dL wIsiT (dCons (dVar 0) (dCons (dL wTup (dCons (dC (.opq (.ty "int"))) (dCons (dC (.opq (.ty "list"))) (dCons (dC (.opq (.ty "tuple"))) (dCons (dC (.opq (.ty "dict"))) dNil))))) dNil)))) (dB wEq (dVar 0) (dVar 1)))))))
def s__law_same : Stmt := (top 33)
theorem sc__law_same : FnScope ["_law_found", "_law_due", "_law_x", "_law_y"] ["_law_found", "_law_due"] (defScope s__law_same) := ⟨rfl, rfl, rfl, by decide +kernel, rfl, by decide +kernel, by decide +kernel⟩
theorem d__law_same {k : Nat} {P : Program} {w : World} {K : PySem.W.Frag} {mg : Str → Option Value} {base : Heap} {C_House : Addr} (T : Txt K mg C_House)
    {sp__law_same : SpD} (C__law_same : Callee P w K mg base "_law_same" k none sp__law_same) (M__law_same : MonoSp sp__law_same)
    {f : Addr} {fd : FuncData} (F : Fun K "_law_same" "_law_same" s__law_same f fd) {sp : SpD} (hl : ∀ args ret exc, sp args ret exc → args.length = 2) (hc : ∀ args ret exc, sp args ret exc → (t__law_same sp__law_same) (fnE none ret) (start0 4 args)) :
    DL.FnOk P w K mg base (L2.CX P w) (k + 1) f fd ["_law_found", "_law_due"] (spOf none sp) := by
  refine fn_d F sc__law_same hl (t := fun R => t__law_same sp__law_same) (fun cdv A outer s H E en R hr hI tk hp => ?_) hc
  have hN := sc__law_same.nd
  have hu : (A.deeper (envOfC "_law_same" (defScope s__law_same) s.heap.objs.size f cdv)).units + 1 < cLine := hu_of hr.toRoom
  have hu64 : (A.deeper (envOfC "_law_same" (defScope s__law_same) s.heap.objs.size f cdv)).units + 64 < cLine := hr.units
  have hu65 : (A.deeper (envOfC "_law_same" (defScope s__law_same) s.heap.objs.size f cdv)).units + 65 < cLine := by have := hr.un; omega
  exact (DL.s_cons (DL.s_if (DL.t_val (DL.v_callB call_isiT fits_isiT mono_isiT boot_isinstance T.m_isinstance (DL.v_cons (DL.v_var 1 (hio := (nio hI (by decide)))) (DL.v_cons (DL.v_tup (DL.v_cons (DL.v_ty T.m_list boot_list) (DL.v_cons (DL.v_ty T.m_tuple boot_tuple) DL.v_nil))) DL.v_nil))))
    (DL.s_cons (DL.s_if (DL.t_w (DL.w_or (DL.t_ne hu64 (DL.v_callB call_isi fits_isi mono_isi boot_isinstance T.m_isinstance (DL.v_cons (DL.v_var 0 (hio := (nio hI (by decide)))) (DL.v_cons (DL.v_ty T.m_list boot_list) DL.v_nil))) (DL.v_callB call_isi fits_isi mono_isi boot_isinstance T.m_isinstance (DL.v_cons (DL.v_var 1 (hio := (nio hI (by decide)))) (DL.v_cons (DL.v_ty T.m_list boot_list) DL.v_nil)))) (DL.w_or1 (DL.t_ne hu64 (DL.v_callB call_isi fits_isi mono_isi boot_isinstance T.m_isinstance (DL.v_cons (DL.v_var 0 (hio := (nio hI (by decide)))) (DL.v_cons (DL.v_ty T.m_tuple boot_tuple) DL.v_nil))) (DL.v_callB call_isi fits_isi mono_isi boot_isinstance T.m_isinstance (DL.v_cons (DL.v_var 1 (hio := (nio hI (by decide)))) (DL.v_cons (DL.v_ty T.m_tuple boot_tuple) DL.v_nil)))))))
    (DL.s_one (DL.s_ret DL.v_bl))
    DL.s_nil)
    (DL.s_one (DL.s_ret (DL.v_and (DL.v_eq hu64 (DL.v_callB (call_len.or call_lenR) fits_len mono_len boot_len T.m_len (DL.v_cons (DL.v_var 0 (hio := (nio hI (by decide)))) DL.v_nil)) (DL.v_callB (call_len.or call_lenR) fits_len mono_len boot_len T.m_len (DL.v_cons (DL.v_var 1 (hio := (nio hI (by decide)))) DL.v_nil))) (DL.v_one (DL.v_callB (cr_all rfl) fits_all mono_allany boot_all T.m_all (DL.v_cons (DL.v_lc (own := [(("_law_x" : Str), 2), (("_law_y" : Str), 3)]) rfl hN (DL.i_zipA (DL.v_cons (DL.v_var 0 (hio := (nio hI (by decide)))) (DL.v_cons (DL.v_var 1 (hio := (nio hI (by decide)))) DL.v_nil)) T.m_zip) (blk_of rfl (by kernel_rfl)) (by decide) (own_io hI (by decide)) (fun s_ H_ C_ cl_ fp_ en_h1 h1 => (DL.g_tup rfl (DL.g_cons (DL.g_name 2 (nio (h1.trans hI) (by decide)) hN) (DL.g_cons (DL.g_name 3 (nio (h1.trans hI) (by decide)) hN) DL.g_nil)))) (fun s_ H_ C_ cl_ fp_ en_h2 h2 => DL.b_nil) (fun s_ H_ C_ cl_ fp_ en_h3 h3 => (DL.v_call (R := R0) C__law_same M__law_same (hr.mono (Nat.le_refl _)) takesR0 (DL.v_cons (DL.v_var 2 (hio := (nio (h3.trans hI) (by decide)))) (DL.v_cons (DL.v_var 3 (hio := (nio (h3.trans hI) (by decide)))) DL.v_nil))))) DL.v_nil)))))))
    DL.s_nil)
    (DL.s_cons (DL.s_if (DL.t_val (DL.v_callB call_isi fits_isi mono_isi boot_isinstance T.m_isinstance (DL.v_cons (DL.v_var 1 (hio := (nio hI (by decide)))) (DL.v_cons (DL.v_ty T.m_dict boot_dict) DL.v_nil))))
    (DL.s_one (DL.s_ret (DL.v_and (DL.v_callB call_isi fits_isi mono_isi boot_isinstance T.m_isinstance (DL.v_cons (DL.v_var 0 (hio := (nio hI (by decide)))) (DL.v_cons (DL.v_ty T.m_dict boot_dict) DL.v_nil))) (DL.v_one (DL.v_call (R := R0) C__law_same M__law_same (hr.mono (Nat.le_refl _)) takesR0 (DL.v_cons (DL.v_items rfl (DL.v_var 0 (hio := (nio hI (by decide)))) T.m_list) (DL.v_cons (DL.v_items rfl (DL.v_var 1 (hio := (nio hI (by decide)))) T.m_list) DL.v_nil)))))))
    DL.s_nil)
    (DL.s_cons (DL.s_if (DL.t_val (DL.v_callB call_isi fits_isi mono_isi boot_isinstance T.m_isinstance (DL.v_cons (DL.v_var 1 (hio := (nio hI (by decide)))) (DL.v_cons (DL.v_ty T.m_int boot_int) DL.v_nil))))
    (DL.s_one (DL.s_ret (DL.v_and (DL.v_callB call_isi fits_isi mono_isi boot_isinstance T.m_isinstance (DL.v_cons (DL.v_var 0 (hio := (nio hI (by decide)))) (DL.v_cons (DL.v_ty T.m_int boot_int) DL.v_nil))) (DL.v_and (DL.v_eq hu64 (DL.v_callB call_isi fits_isi mono_isi boot_isinstance T.m_isinstance (DL.v_cons (DL.v_var 0 (hio := (nio hI (by decide)))) (DL.v_cons (DL.v_ty T.m_bool boot_bool) DL.v_nil))) (DL.v_callB call_isi fits_isi mono_isi boot_isinstance T.m_isinstance (DL.v_cons (DL.v_var 1 (hio := (nio hI (by decide)))) (DL.v_cons (DL.v_ty T.m_bool boot_bool) DL.v_nil)))) (DL.v_one (DL.v_eq hu64 (DL.v_var 0 (hio := (nio hI (by decide)))) (DL.v_var 1 (hio := (nio hI (by decide))))))))))
    DL.s_nil)
    (DL.s_one (DL.s_ret (DL.v_and (DL.v_not (DL.v_callB call_isiT fits_isiT mono_isiT boot_isinstance T.m_isinstance (DL.v_cons (DL.v_var 0 (hio := (nio hI (by decide)))) (DL.v_cons (DL.v_tup (DL.v_cons (DL.v_ty T.m_int boot_int) (DL.v_cons (DL.v_ty T.m_list boot_list) (DL.v_cons (DL.v_ty T.m_tuple boot_tuple) (DL.v_cons (DL.v_ty T.m_dict boot_dict) DL.v_nil))))) DL.v_nil)))) (DL.v_one (DL.v_eq hu64 (DL.v_var 0 (hio := (nio hI (by decide)))) (DL.v_var 1 (hio := (nio hI (by decide))))))))))))
def t_checked_woods (C_House : Addr) (C_BadWoods : Addr) (sp_is_woods : SpD) (R : RX) : TSd :=
  (dSeq (dIf (dNot (dT (dCall sp_is_woods (dCons (dVar 0) (dCons (dVar 1) dNil)) R0))) (dRaise C_BadWoods ["thing"] (dCons (dVar 1) dNil) R) dNext)
  (dRet (dDc 0 [2] (dSeqI (dFld C_House "own_rooms" (dVar 0))) (gN 2) dYes (dVar 2) (dB wIx (dVar 1) (dVar 2)))))
def s_checked_woods : Stmt := (top 25)
theorem sc_checked_woods : FnScope ["house", "woods", "room"] ["house", "woods"] (defScope s_checked_woods) := ⟨rfl, rfl, rfl, by decide +kernel, rfl, by decide +kernel, by decide +kernel⟩
theorem d_checked_woods {P : Program} {w : World} {K : PySem.W.Frag} {mg : Str → Option Value} {base : Heap} {C_House : Addr} (T : Txt K mg C_House)
    {sp_is_woods : SpD} (C_is_woods : Callee P w K mg base "is_woods" 3 none sp_is_woods) (M_is_woods : MonoSp sp_is_woods)
    {C_BadWoods : Addr} (E_BadWoods : ErrC P w K mg base "BadWoods" C_BadWoods ["thing"])
    {f : Addr} {fd : FuncData} (F : Fun K "checked_woods" "checked_woods" s_checked_woods f fd) {sp : SpD} (hl : ∀ args ret exc, sp args ret exc → args.length = 2) (hc : ∀ args ret exc, sp args ret exc → (t_checked_woods C_House C_BadWoods sp_is_woods (fun x _ => exc x)) (fnE none ret) (start0 3 args)) :
    DL.FnOk P w K mg base (L2.CX P w) 4 f fd ["house", "woods"] (spOf none sp) := by
  refine fn_d F sc_checked_woods hl (t := fun R => t_checked_woods C_House C_BadWoods sp_is_woods R) (fun cdv A outer s H E en R hr hI tk hp => ?_) hc
  have hN := sc_checked_woods.nd
  have hu : (A.deeper (envOfC "checked_woods" (defScope s_checked_woods) s.heap.objs.size f cdv)).units + 1 < cLine := hu_of hr.toRoom
  have hu64 : (A.deeper (envOfC "checked_woods" (defScope s_checked_woods) s.heap.objs.size f cdv)).units + 64 < cLine := hr.units
  have hu65 : (A.deeper (envOfC "checked_woods" (defScope s_checked_woods) s.heap.objs.size f cdv)).units + 65 < cLine := by have := hr.un; omega
  exact (DL.s_cons (DL.s_if (DL.t_not (DL.t_val (DL.v_call (R := R0) C_is_woods M_is_woods (hr.mono (by decide)) takesR0 (DL.v_cons (DL.v_var 0 (hio := (nio hI (by decide)))) (DL.v_cons (DL.v_var 1 (hio := (nio hI (by decide)))) DL.v_nil)))))
    (DL.s_one (DL.s_raise (k := 0) E_BadWoods rfl (hr.mono (by decide)) tk (DL.v_cons (DL.v_var 1 (hio := (nio hI (by decide)))) DL.v_nil)))
    DL.s_nil)
    (DL.s_one (DL.s_ret (DL.v_dc 0 (own := [(("room" : Str), 2)]) rfl hN (DL.i_seq (DL.v_fld T.cl_House T.n_House_own_rooms (DL.v_var 0 (hio := (nio hI (by decide)))))) (blk_of rfl (by kernel_rfl)) (by decide) (own_io hI (by decide)) (fun s_ H_ C_ cl_ fp_ en_h1 h1 => (DL.g_name 2 (nio (h1.trans hI) (by decide)) hN)) (fun s_ H_ C_ cl_ fp_ en_h2 h2 => DL.b_nil) (fun s_ H_ C_ cl_ fp_ en_h3 h3 => (DL.v_var 2 (hio := (nio (h3.trans hI) (by decide))))) (fun s_ H_ C_ cl_ fp_ en_h4 h4 => (DL.v_ix hu (DL.v_var 1 (hio := (nio (h4.trans hI) (by decide)))) (DL.v_var 2 (hio := (nio (h4.trans hI) (by decide))))))))))
def t_walked (C_House : Addr)  : TSd :=
  (dSeq (dPar2 3 4 (dL wLst (dCons (dVar 1) dNil)) (dC (.int 0)))
  (dSeq (dWhile (dFlatB (dT (dB wLt (dVar 4) (dL wLen (dCons (dVar 3) dNil))))) (dSeq (dSet 5 (dFlat (dB wIx (dVar 3) (dVar 4))))
  (dSeq (dFor (dSeqI (dB wIx (dFld C_House "own_beside" (dVar 0)) (dVar 5))) (gN 6) (dIf (dFlatB (dT (dB wNotIn (dVar 6) (dVar 2)))) (dSeq (dPut 2 (dVar 6) (dVar 5))
  (dExpr (dMutL 3 (dCons (dVar 6) dNil) opAppend))) dNext))
  (dSet 4 (dB wAdd (dVar 4) (dC (.int 1)))))))
  (dRet (dVar 3))))
def s_walked : Stmt := (top 21)
theorem sc_walked : FnScope ["house", "start", "found", "rooms", "many", "here", "there"] ["house", "start", "found"] (defScope s_walked) := ⟨rfl, rfl, rfl, by decide +kernel, rfl, by decide +kernel, by decide +kernel⟩
theorem d_walked {P : Program} {w : World} {K : PySem.W.Frag} {mg : Str → Option Value} {base : Heap} {C_House : Addr} (T : Txt K mg C_House)
    
    {f : Addr} {fd : FuncData} (F : Fun K "walked" "walked" s_walked f fd) {sp : SpD} (hl : ∀ args ret exc, sp args ret exc → args.length = 3) (hc : ∀ args ret exc, sp args ret exc → (t_walked C_House ) (fnE (some 2) ret) (start0 7 args)) :
    DL.FnOk P w K mg base (L2.CX P w) 1 f fd ["house", "start", "found"] (spOf (some 2) sp) := by
  refine fn_d F sc_walked hl (t := fun R => t_walked C_House ) (fun cdv A outer s H E en R hr hI tk hp => ?_) hc
  have hN := sc_walked.nd
  have hu : (A.deeper (envOfC "walked" (defScope s_walked) s.heap.objs.size f cdv)).units + 1 < cLine := hu_of hr.toRoom
  have hu64 : (A.deeper (envOfC "walked" (defScope s_walked) s.heap.objs.size f cdv)).units + 64 < cLine := hr.units
  have hu65 : (A.deeper (envOfC "walked" (defScope s_walked) s.heap.objs.size f cdv)).units + 65 < cLine := by have := hr.un; omega
  exact (DL.s_cons (DL.s_par2 (i := 3) (j := 4) (DL.v_lst (DL.v_cons (DL.v_var 1 (hio := (nio hI (by decide)))) DL.v_nil)) (fun en_h1 h1 => DL.v_int) (nio hI (by decide)) (nio hI (by decide)) (by decide) rfl hN)
    (DL.s_cons (DL.s_while hp (DL.t_flat fun en_h2 h2 => (DL.t_lt (DL.v_var 4 (hio := (nio h2 (by decide)))) (DL.v_callB (call_len.or call_lenR) fits_len mono_len boot_len T.m_len (DL.v_cons (DL.v_var 3 (hio := (nio h2 (by decide)))) DL.v_nil))))
    (DL.s_cons (DL.s_set 5 (DL.v_flat fun en_h3 h3 => (DL.v_ix hu (DL.v_var 3 (hio := (nio h3 (by decide)))) (DL.v_var 4 (hio := (nio h3 (by decide)))))) (nio hI (by decide)) hN)
    (DL.s_cons (DL.s_for hp rfl (DL.i_seq (DL.v_ix hu (DL.v_fld T.cl_House T.n_House_own_beside (DL.v_var 0 (hio := (nio hI (by decide))))) (DL.v_var 5 (hio := (nio hI (by decide)))))) (DL.g_name 6 (nio hI (by decide)) hN)
    (DL.s_one (DL.s_if (DL.t_flat fun en_h4 h4 => (DL.t_notIn hu65 (DL.v_var 6 (hio := (nio h4 (by decide)))) (DL.v_var 2 (hio := (nio h4 (by decide))))))
    (DL.s_cons (DL.s_put 2 hu (DL.v_var 6 (hio := (nio hI (by decide)))) (DL.v_var 5 (hio := (nio hI (by decide)))))
    (DL.s_one (DL.s_expr (DL.v_append 3 (DL.v_var 6 (hio := (nio hI (by decide))))))))
    DL.s_nil)))
    (DL.s_one (DL.s_set 4 (DL.v_add (DL.v_var 4 (hio := (nio hI (by decide)))) DL.v_int) (nio hI (by decide)) hN)))))
    (DL.s_one (DL.s_ret (DL.v_var 3 (hio := (nio hI (by decide))))))))
def t_way_of (sp_walked : SpD) : TSd :=
  (dSeq (dSet 3 (dDisp1 (dVar 2) (dC .non)))
  (dSeq (dExpr (dCallI sp_walked 3 2 (dCons (dVar 0) (dCons (dVar 2) (dHere 3 dNil))) R0))
  (dSeq (dSet 4 (dL wLst (dCons (dVar 1) dNil)))
  (dSeq (dWhile (dFlatB (dT (dU (wIsN true) (dB wIx (dVar 3) (dB wIx (dVar 4) (dU wNeg (dC (.int 1)))))))) (dExpr (dMutL 4 (dCons (dFlat (dB wIx (dVar 3) (dB wIx (dVar 4) (dU wNeg (dC (.int 1)))))) dNil) opAppend)))
  (dRet (dVar 4))))))
def s_way_of : Stmt := (top 22)
theorem sc_way_of : FnScope ["house", "one", "other", "found", "rooms"] ["house", "one", "other"] (defScope s_way_of) := ⟨rfl, rfl, rfl, by decide +kernel, rfl, by decide +kernel, by decide +kernel⟩
theorem d_way_of {P : Program} {w : World} {K : PySem.W.Frag} {mg : Str → Option Value} {base : Heap} {C_House : Addr} (T : Txt K mg C_House)
    {sp_walked : SpD} (C_walked : Callee P w K mg base "walked" 1 (some 2) sp_walked) (M_walked : MonoSp sp_walked)
    {f : Addr} {fd : FuncData} (F : Fun K "way_of" "way_of" s_way_of f fd) {sp : SpD} (hl : ∀ args ret exc, sp args ret exc → args.length = 3) (hc : ∀ args ret exc, sp args ret exc → (t_way_of sp_walked) (fnE none ret) (start0 5 args)) :
    DL.FnOk P w K mg base (L2.CX P w) 2 f fd ["house", "one", "other"] (spOf none sp) := by
  refine fn_d F sc_way_of hl (t := fun R => t_way_of sp_walked) (fun cdv A outer s H E en R hr hI tk hp => ?_) hc
  have hN := sc_way_of.nd
  have hu : (A.deeper (envOfC "way_of" (defScope s_way_of) s.heap.objs.size f cdv)).units + 1 < cLine := hu_of hr.toRoom
  have hu64 : (A.deeper (envOfC "way_of" (defScope s_way_of) s.heap.objs.size f cdv)).units + 64 < cLine := hr.units
  have hu65 : (A.deeper (envOfC "way_of" (defScope s_way_of) s.heap.objs.size f cdv)).units + 65 < cLine := by have := hr.un; omega
  exact (DL.s_cons (DL.s_set 3 (DL.v_disp1 (fun en_h1 h1 => (DL.v_var 2 (hio := (nio (h1.trans hI) (by decide))))) (fun en_h2 h2 => DL.v_non)) (nio hI (by decide)) hN)
    (DL.s_cons (DL.s_expr (DL.v_callI (R := R0) C_walked M_walked (hr.mono (by decide)) takesR0 (DL.i_next (DL.v_var 0 (hio := (nio hI (by decide)))) (DL.i_next (DL.v_var 2 (hio := (nio hI (by decide)))) (DL.i_here 3 DL.v_nil)))))
    (DL.s_cons (DL.s_set 4 (DL.v_lst (DL.v_cons (DL.v_var 1 (hio := (nio hI (by decide)))) DL.v_nil)) (nio hI (by decide)) hN)
    (DL.s_cons (DL.s_while hp (DL.t_flat fun en_h3 h3 => (DL.t_notN (DL.v_ix hu (DL.v_var 3 (hio := (nio h3 (by decide)))) (DL.v_ix hu (DL.v_var 4 (hio := (nio h3 (by decide)))) (DL.v_neg DL.v_int)))))
    (DL.s_one (DL.s_expr (DL.v_append 4 (DL.v_flat fun en_h4 h4 => (DL.v_ix hu (DL.v_var 3 (hio := (nio h4 (by decide)))) (DL.v_ix hu (DL.v_var 4 (hio := (nio h4 (by decide)))) (DL.v_neg DL.v_int))))))))
    (DL.s_one (DL.s_ret (DL.v_var 4 (hio := (nio hI (by decide))))))))))
def t_spread_of (sp_way_of : SpD) : TSd :=
  (dSeq (dSet 4 (dCall sp_way_of (dCons (dVar 0) (dCons (dVar 2) (dCons (dVar 3) dNil))) R0))
  (dRet (dL wTup (dCons (dB wSub (dL wLen (dCons (dVar 4) dNil)) (dC (.int 1))) (dCons (dL wSum (dCons (dLc [5] (dSeqI (dSlice (dVar 4) dNoPart (dPart (dU wNeg (dC (.int 1)))))) (gN 5) dYes (dB wIx (dVar 1) (dVar 5))) dNil)) dNil)))))
def s_spread_of : Stmt := (top 26)
theorem sc_spread_of : FnScope ["house", "woods", "one", "other", "onward", "room"] ["house", "woods", "one", "other"] (defScope s_spread_of) := ⟨rfl, rfl, rfl, by decide +kernel, rfl, by decide +kernel, by decide +kernel⟩
theorem d_spread_of {P : Program} {w : World} {K : PySem.W.Frag} {mg : Str → Option Value} {base : Heap} {C_House : Addr} (T : Txt K mg C_House)
    {sp_way_of : SpD} (C_way_of : Callee P w K mg base "way_of" 2 none sp_way_of) (M_way_of : MonoSp sp_way_of)
    {f : Addr} {fd : FuncData} (F : Fun K "spread_of" "spread_of" s_spread_of f fd) {sp : SpD} (hl : ∀ args ret exc, sp args ret exc → args.length = 4) (hc : ∀ args ret exc, sp args ret exc → (t_spread_of sp_way_of) (fnE none ret) (start0 6 args)) :
    DL.FnOk P w K mg base (L2.CX P w) 3 f fd ["house", "woods", "one", "other"] (spOf none sp) := by
  refine fn_d F sc_spread_of hl (t := fun R => t_spread_of sp_way_of) (fun cdv A outer s H E en R hr hI tk hp => ?_) hc
  have hN := sc_spread_of.nd
  have hu : (A.deeper (envOfC "spread_of" (defScope s_spread_of) s.heap.objs.size f cdv)).units + 1 < cLine := hu_of hr.toRoom
  have hu64 : (A.deeper (envOfC "spread_of" (defScope s_spread_of) s.heap.objs.size f cdv)).units + 64 < cLine := hr.units
  have hu65 : (A.deeper (envOfC "spread_of" (defScope s_spread_of) s.heap.objs.size f cdv)).units + 65 < cLine := by have := hr.un; omega
  exact (DL.s_cons (DL.s_set 4 (DL.v_call (R := R0) C_way_of M_way_of (hr.mono (by decide)) takesR0 (DL.v_cons (DL.v_var 0 (hio := (nio hI (by decide)))) (DL.v_cons (DL.v_var 2 (hio := (nio hI (by decide)))) (DL.v_cons (DL.v_var 3 (hio := (nio hI (by decide)))) DL.v_nil)))) (nio hI (by decide)) hN)
    (DL.s_one (DL.s_ret (DL.v_tup (DL.v_cons (DL.v_sub (DL.v_callB (call_len.or call_lenR) fits_len mono_len boot_len T.m_len (DL.v_cons (DL.v_var 4 (hio := (nio hI (by decide)))) DL.v_nil)) DL.v_int) (DL.v_cons (DL.v_callB (cr_sum rfl) fits_sum mono_sum boot_sum T.m_sum (DL.v_cons (DL.v_lc (own := [(("room" : Str), 5)]) rfl hN (DL.i_seq (DL.v_slice (DL.v_var 4 (hio := (nio hI (by decide)))) DL.o_none (DL.o_some (DL.v_neg DL.v_int)))) (blk_of rfl (by kernel_rfl)) (by decide) (own_io hI (by decide)) (fun s_ H_ C_ cl_ fp_ en_h1 h1 => (DL.g_name 5 (nio (h1.trans hI) (by decide)) hN)) (fun s_ H_ C_ cl_ fp_ en_h2 h2 => DL.b_nil) (fun s_ H_ C_ cl_ fp_ en_h3 h3 => (DL.v_ix hu (DL.v_var 1 (hio := (nio (h3.trans hI) (by decide)))) (DL.v_var 5 (hio := (nio (h3.trans hI) (by decide))))))) DL.v_nil)) DL.v_nil))))))
def t_checked_room (C_House : Addr) (C_NoRoom : Addr)  (R : RX) : TSd :=
  (dSeq (dIf (dOr (dNot (dT (dL wIsi (dCons (dVar 1) (dCons (dC (.opq (.ty "str"))) dNil))))) (dT (dB wNotIn (dVar 1) (dFld C_House "own_beside" (dVar 0))))) (dRaise C_NoRoom ["thing"] (dCons (dVar 1) dNil) R) dNext)
  (dRet (dVar 1)))
def s_checked_room : Stmt := (top 19)
theorem sc_checked_room : FnScope ["house", "room"] ["house", "room"] (defScope s_checked_room) := ⟨rfl, rfl, rfl, by decide +kernel, rfl, by decide +kernel, by decide +kernel⟩
theorem d_checked_room {P : Program} {w : World} {K : PySem.W.Frag} {mg : Str → Option Value} {base : Heap} {C_House : Addr} (T : Txt K mg C_House)
    {C_NoRoom : Addr} (E_NoRoom : ErrC P w K mg base "NoRoom" C_NoRoom ["thing"])
    {f : Addr} {fd : FuncData} (F : Fun K "checked_room" "checked_room" s_checked_room f fd) {sp : SpD} (hl : ∀ args ret exc, sp args ret exc → args.length = 2) (hc : ∀ args ret exc, sp args ret exc → (t_checked_room C_House C_NoRoom  (fun x _ => exc x)) (fnE none ret) (start0 2 args)) :
    DL.FnOk P w K mg base (L2.CX P w) 3 f fd ["house", "room"] (spOf none sp) := by
  refine fn_d F sc_checked_room hl (t := fun R => t_checked_room C_House C_NoRoom  R) (fun cdv A outer s H E en R hr hI tk hp => ?_) hc
  have hN := sc_checked_room.nd
  have hu : (A.deeper (envOfC "checked_room" (defScope s_checked_room) s.heap.objs.size f cdv)).units + 1 < cLine := hu_of hr.toRoom
  have hu64 : (A.deeper (envOfC "checked_room" (defScope s_checked_room) s.heap.objs.size f cdv)).units + 64 < cLine := hr.units
  have hu65 : (A.deeper (envOfC "checked_room" (defScope s_checked_room) s.heap.objs.size f cdv)).units + 65 < cLine := by have := hr.un; omega
  exact (DL.s_cons (DL.s_if (DL.t_w (DL.w_or (DL.t_not (DL.t_val (DL.v_callB call_isi fits_isi mono_isi boot_isinstance T.m_isinstance (DL.v_cons (DL.v_var 1 (hio := (nio hI (by decide)))) (DL.v_cons (DL.v_ty T.m_str boot_str) DL.v_nil))))) (DL.w_or1 (DL.t_notIn hu65 (DL.v_var 1 (hio := (nio hI (by decide)))) (DL.v_fld T.cl_House T.n_House_own_beside (DL.v_var 0 (hio := (nio hI (by decide)))))))))
    (DL.s_one (DL.s_raise (k := 0) E_NoRoom rfl (hr.mono (by decide)) tk (DL.v_cons (DL.v_var 1 (hio := (nio hI (by decide)))) DL.v_nil)))
    DL.s_nil)
    (DL.s_one (DL.s_ret (DL.v_var 1 (hio := (nio hI (by decide)))))))
def t_spread (sp_checked_woods sp_checked_room sp_spread_of : SpD) (R : RX) : TSd :=
  (dSeq (dSet 4 (dCall sp_checked_woods (dCons (dVar 0) (dCons (dVar 1) dNil)) R))
  (dSeq (dPar2 5 6 (dCall sp_checked_room (dCons (dVar 0) (dCons (dVar 2) dNil)) R) (dCall sp_checked_room (dCons (dVar 0) (dCons (dVar 3) dNil)) R))
  (dRet (dCall sp_spread_of (dCons (dVar 0) (dCons (dVar 4) (dCons (dVar 5) (dCons (dVar 6) dNil)))) R0))))
def s_spread : Stmt := (top 27)
theorem sc_spread : FnScope ["house", "woods", "one", "other", "known", "here", "there"] ["house", "woods", "one", "other"] (defScope s_spread) := ⟨rfl, rfl, rfl, by decide +kernel, rfl, by decide +kernel, by decide +kernel⟩
theorem d_spread {P : Program} {w : World} {K : PySem.W.Frag} {mg : Str → Option Value} {base : Heap} {C_House : Addr} (T : Txt K mg C_House)
    {sp_checked_woods : SpD} (C_checked_woods : Callee P w K mg base "checked_woods" 4 none sp_checked_woods) (M_checked_woods : MonoSp sp_checked_woods)
    {sp_checked_room : SpD} (C_checked_room : Callee P w K mg base "checked_room" 3 none sp_checked_room) (M_checked_room : MonoSp sp_checked_room)
    {sp_spread_of : SpD} (C_spread_of : Callee P w K mg base "spread_of" 3 none sp_spread_of) (M_spread_of : MonoSp sp_spread_of)
    {f : Addr} {fd : FuncData} (F : Fun K "spread" "spread" s_spread f fd) {sp : SpD} (hl : ∀ args ret exc, sp args ret exc → args.length = 4) (hc : ∀ args ret exc, sp args ret exc → (t_spread sp_checked_woods sp_checked_room sp_spread_of (fun x _ => exc x)) (fnE none ret) (start0 7 args)) :
    DL.FnOk P w K mg base (L2.CX P w) 5 f fd ["house", "woods", "one", "other"] (spOf none sp) := by
  refine fn_d F sc_spread hl (t := fun R => t_spread sp_checked_woods sp_checked_room sp_spread_of R) (fun cdv A outer s H E en R hr hI tk hp => ?_) hc
  have hN := sc_spread.nd
  have hu : (A.deeper (envOfC "spread" (defScope s_spread) s.heap.objs.size f cdv)).units + 1 < cLine := hu_of hr.toRoom
  have hu64 : (A.deeper (envOfC "spread" (defScope s_spread) s.heap.objs.size f cdv)).units + 64 < cLine := hr.units
  have hu65 : (A.deeper (envOfC "spread" (defScope s_spread) s.heap.objs.size f cdv)).units + 65 < cLine := by have := hr.un; omega
  exact (DL.s_cons (DL.s_set 4 (DL.v_call (R := R) C_checked_woods M_checked_woods (hr.mono (by decide)) tk (DL.v_cons (DL.v_var 0 (hio := (nio hI (by decide)))) (DL.v_cons (DL.v_var 1 (hio := (nio hI (by decide)))) DL.v_nil))) (nio hI (by decide)) hN)
    (DL.s_cons (DL.s_par2R (i := 5) (j := 6) tk (DL.v_call (R := R) C_checked_room M_checked_room (hr.mono (by decide)) tk (DL.v_cons (DL.v_var 0 (hio := (nio hI (by decide)))) (DL.v_cons (DL.v_var 2 (hio := (nio hI (by decide)))) DL.v_nil))) (fun en_h1 h1 tk_h1 => (DL.v_call (R := R) C_checked_room M_checked_room (hr.mono (by decide)) tk_h1 (DL.v_cons (DL.v_var 0 (hio := (nio (h1.trans hI) (by decide)))) (DL.v_cons (DL.v_var 3 (hio := (nio (h1.trans hI) (by decide)))) DL.v_nil)))) (nio hI (by decide)) (nio hI (by decide)) (by decide) rfl hN)
    (DL.s_one (DL.s_ret (DL.v_call (R := R0) C_spread_of M_spread_of (hr.mono (by decide)) takesR0 (DL.v_cons (DL.v_var 0 (hio := (nio hI (by decide)))) (DL.v_cons (DL.v_var 4 (hio := (nio hI (by decide)))) (DL.v_cons (DL.v_var 5 (hio := (nio hI (by decide)))) (DL.v_cons (DL.v_var 6 (hio := (nio hI (by decide)))) DL.v_nil)))))))))
def t__law_h_beside  : TSd :=
  (dSeq (dSet 2 (dB wAdd (dLc [3, 4] (dSeqI (dVar 0)) (dTup 2 (gCons (gN 3) (gCons (gN 4) gNil))) (dT (dB wEq (dVar 3) (dVar 1))) (dVar 4)) (dLc [3, 4] (dSeqI (dVar 0)) (dTup 2 (gCons (gN 3) (gCons (gN 4) gNil))) (dT (dB wEq (dVar 4) (dVar 1))) (dVar 3))))
  (dRet (dL wSortS (dCons (dVar 2) dNil))))
def s__law_h_beside : Stmt := (top 37)
theorem sc__law_h_beside : FnScope ["_law_doors", "_law_room", "_law_found", "_law_one", "_law_other"] ["_law_doors", "_law_room"] (defScope s__law_h_beside) := ⟨rfl, rfl, rfl, by decide +kernel, rfl, by decide +kernel, by decide +kernel⟩
theorem d__law_h_beside {P : Program} {w : World} {K : PySem.W.Frag} {mg : Str → Option Value} {base : Heap} {C_House : Addr} (T : Txt K mg C_House)
    
    {f : Addr} {fd : FuncData} (F : Fun K "_law_h_beside" "_law_h_beside" s__law_h_beside f fd) {sp : SpD} (hl : ∀ args ret exc, sp args ret exc → args.length = 2) (hc : ∀ args ret exc, sp args ret exc → (t__law_h_beside ) (fnE none ret) (start0 5 args)) :
    DL.FnOk P w K mg base (L2.CX P w) 1 f fd ["_law_doors", "_law_room"] (spOf none sp) := by
  refine fn_d F sc__law_h_beside hl (t := fun R => t__law_h_beside ) (fun cdv A outer s H E en R hr hI tk hp => ?_) hc
  have hN := sc__law_h_beside.nd
  have hu : (A.deeper (envOfC "_law_h_beside" (defScope s__law_h_beside) s.heap.objs.size f cdv)).units + 1 < cLine := hu_of hr.toRoom
  have hu64 : (A.deeper (envOfC "_law_h_beside" (defScope s__law_h_beside) s.heap.objs.size f cdv)).units + 64 < cLine := hr.units
  have hu65 : (A.deeper (envOfC "_law_h_beside" (defScope s__law_h_beside) s.heap.objs.size f cdv)).units + 65 < cLine := by have := hr.un; omega
  exact (DL.s_cons (DL.s_set 2 (DL.v_add (DL.v_lc (own := [(("_law_one" : Str), 3), (("_law_other" : Str), 4)]) rfl hN (DL.i_seq (DL.v_var 0 (hio := (nio hI (by decide))))) (blk_of rfl (by kernel_rfl)) (by decide) (own_io hI (by decide)) (fun s_ H_ C_ cl_ fp_ en_h1 h1 => (DL.g_tup rfl (DL.g_cons (DL.g_name 3 (nio (h1.trans hI) (by decide)) hN) (DL.g_cons (DL.g_name 4 (nio (h1.trans hI) (by decide)) hN) DL.g_nil)))) (fun s_ H_ C_ cl_ fp_ en_h2 h2 => (DL.b_one (DL.t_eq hu64 (DL.v_var 3 (hio := (nio (h2.trans hI) (by decide)))) (DL.v_var 1 (hio := (nio (h2.trans hI) (by decide))))))) (fun s_ H_ C_ cl_ fp_ en_h3 h3 => (DL.v_var 4 (hio := (nio (h3.trans hI) (by decide)))))) (DL.v_lc (own := [(("_law_one" : Str), 3), (("_law_other" : Str), 4)]) rfl hN (DL.i_seq (DL.v_var 0 (hio := (nio hI (by decide))))) (blk_of rfl (by kernel_rfl)) (by decide) (own_io hI (by decide)) (fun s_ H_ C_ cl_ fp_ en_h4 h4 => (DL.g_tup rfl (DL.g_cons (DL.g_name 3 (nio (h4.trans hI) (by decide)) hN) (DL.g_cons (DL.g_name 4 (nio (h4.trans hI) (by decide)) hN) DL.g_nil)))) (fun s_ H_ C_ cl_ fp_ en_h5 h5 => (DL.b_one (DL.t_eq hu64 (DL.v_var 4 (hio := (nio (h5.trans hI) (by decide)))) (DL.v_var 1 (hio := (nio (h5.trans hI) (by decide))))))) (fun s_ H_ C_ cl_ fp_ en_h6 h6 => (DL.v_var 3 (hio := (nio (h6.trans hI) (by decide))))))) (nio hI (by decide)) hN)
    (DL.s_one (DL.s_ret (DL.v_callB cr_sortedS fits_sortS mono_sortS boot_sorted T.m_sorted (DL.v_cons (DL.v_var 2 (hio := (nio hI (by decide)))) DL.v_nil)))))
def t__law_h_way (sp__law_h_beside : SpD) : TSd :=
  (dSeq (dSet 3 (dL wLst (dCons (dL wLst (dCons (dVar 1) dNil)) dNil)))
  (dSeq (dWhile (dFlatB (dT (dB wNe (dVar 3) (dL wLst dNil)))) (dSeq (dSet 4 (dMutL 3 dNil opPop))
  (dSeq (dIf (dT (dB wEq (dB wIx (dVar 4) (dU wNeg (dC (.int 1)))) (dVar 2))) (dRet (dVar 4)) dNext)
  (dSeq (dSet 5 (dLc [6] (dSeqI (dCall sp__law_h_beside (dCons (dVar 0) (dCons (dB wIx (dVar 4) (dU wNeg (dC (.int 1)))) dNil)) R0)) (gN 6) (dT (dB wNotIn (dVar 6) (dVar 4))) (dVar 6)))
  (dExpr (dMutL 3 (dCons (dLc [6] (dSeqI (dVar 5)) (gN 6) dYes (dB wAdd (dVar 4) (dL wLst (dCons (dVar 6) dNil)))) dNil) opExtend))))))
  (dRet (dL wLst dNil))))
def s__law_h_way : Stmt := (top 38)
theorem sc__law_h_way : FnScope ["_law_doors", "_law_one", "_law_other", "_law_rows", "_law_row", "_law_further", "_law_room"] ["_law_doors", "_law_one", "_law_other"] (defScope s__law_h_way) := ⟨rfl, rfl, rfl, by decide +kernel, rfl, by decide +kernel, by decide +kernel⟩
theorem d__law_h_way {P : Program} {w : World} {K : PySem.W.Frag} {mg : Str → Option Value} {base : Heap} {C_House : Addr} (T : Txt K mg C_House)
    {sp__law_h_beside : SpD} (C__law_h_beside : Callee P w K mg base "_law_h_beside" 1 none sp__law_h_beside) (M__law_h_beside : MonoSp sp__law_h_beside)
    {f : Addr} {fd : FuncData} (F : Fun K "_law_h_way" "_law_h_way" s__law_h_way f fd) {sp : SpD} (hl : ∀ args ret exc, sp args ret exc → args.length = 3) (hc : ∀ args ret exc, sp args ret exc → (t__law_h_way sp__law_h_beside) (fnE none ret) (start0 7 args)) :
    DL.FnOk P w K mg base (L2.CX P w) 2 f fd ["_law_doors", "_law_one", "_law_other"] (spOf none sp) := by
  refine fn_d F sc__law_h_way hl (t := fun R => t__law_h_way sp__law_h_beside) (fun cdv A outer s H E en R hr hI tk hp => ?_) hc
  have hN := sc__law_h_way.nd
  have hu : (A.deeper (envOfC "_law_h_way" (defScope s__law_h_way) s.heap.objs.size f cdv)).units + 1 < cLine := hu_of hr.toRoom
  have hu64 : (A.deeper (envOfC "_law_h_way" (defScope s__law_h_way) s.heap.objs.size f cdv)).units + 64 < cLine := hr.units
  have hu65 : (A.deeper (envOfC "_law_h_way" (defScope s__law_h_way) s.heap.objs.size f cdv)).units + 65 < cLine := by have := hr.un; omega
  exact (DL.s_cons (DL.s_set 3 (DL.v_lst (DL.v_cons (DL.v_lst (DL.v_cons (DL.v_var 1 (hio := (nio hI (by decide)))) DL.v_nil)) DL.v_nil)) (nio hI (by decide)) hN)
    (DL.s_cons (DL.s_while hp (DL.t_flat fun en_h1 h1 => (DL.t_ne hu64 (DL.v_var 3 (hio := (nio h1 (by decide)))) (DL.v_lst DL.v_nil)))
    (DL.s_cons (DL.s_set 4 (DL.v_mutL0 PySem.F.slot_list_pop PySem.F.type_list_pop mt_pop fits_pop mono_pop 3) (nio hI (by decide)) hN)
    (DL.s_cons (DL.s_if (DL.t_eq hu64 (DL.v_ix hu (DL.v_var 4 (hio := (nio hI (by decide)))) (DL.v_neg DL.v_int)) (DL.v_var 2 (hio := (nio hI (by decide)))))
    (DL.s_one (DL.s_ret (DL.v_var 4 (hio := (nio hI (by decide))))))
    DL.s_nil)
    (DL.s_cons (DL.s_setLc 5 (nio hI (by decide)) (own := [(("_law_room" : Str), 6)]) rfl hN (DL.i_seq (DL.v_call (R := R0) C__law_h_beside M__law_h_beside (hr.mono (by decide)) takesR0 (DL.v_cons (DL.v_var 0 (hio := (nio hI (by decide)))) (DL.v_cons (DL.v_ix hu (DL.v_var 4 (hio := (nio hI (by decide)))) (DL.v_neg DL.v_int)) DL.v_nil)))) (blk_of rfl (by kernel_rfl)) (by decide) (own_io hI (by decide)) (fun s_ H_ C_ cl_ fp_ en_h2 h2 => (DL.g_name 6 (nio (h2.trans hI) (by decide)) hN)) (fun s_ H_ C_ cl_ fp_ en_h3 h3 => (DL.b_one (DL.t_notIn hu65 (DL.v_var 6 (hio := (nio (h3.trans hI) (by decide)))) (DL.v_var 4 (hio := (nio (h3.trans hI) (by decide))))))) (fun s_ H_ C_ cl_ fp_ en_h4 h4 => (DL.v_var 6 (hio := (nio (h4.trans hI) (by decide))))))
    (DL.s_one (DL.s_expr (DL.v_mutL PySem.F.slot_list_extend PySem.F.type_list_extend mt_extend fits_extend mono_extend 3 (DL.v_cons (DL.v_lc (own := [(("_law_room" : Str), 6)]) rfl hN (DL.i_seq (DL.v_var 5 (hio := (nio hI (by decide))))) (blk_of rfl (by kernel_rfl)) (by decide) (own_io hI (by decide)) (fun s_ H_ C_ cl_ fp_ en_h5 h5 => (DL.g_name 6 (nio (h5.trans hI) (by decide)) hN)) (fun s_ H_ C_ cl_ fp_ en_h6 h6 => DL.b_nil) (fun s_ H_ C_ cl_ fp_ en_h7 h7 => (DL.v_add (DL.v_var 4 (hio := (nio (h7.trans hI) (by decide)))) (DL.v_lst (DL.v_cons (DL.v_var 6 (hio := (nio (h7.trans hI) (by decide)))) DL.v_nil))))) DL.v_nil))))))))
    (DL.s_one (DL.s_ret (DL.v_lst DL.v_nil)))))
def t__law_spread (sp__law_h_way : SpD) : TSd :=
  (dSeq (dSet 4 (dCall sp__law_h_way (dCons (dVar 0) (dCons (dVar 2) (dCons (dVar 3) dNil))) R0))
  (dRet (dL wTup (dCons (dB wSub (dL wLen (dCons (dVar 4) dNil)) (dC (.int 1))) (dCons (dL wSum (dCons (dLc [5] (dSeqI (dSlice (dVar 4) dNoPart (dPart (dU wNeg (dC (.int 1)))))) (gN 5) dYes (dB wIx (dVar 1) (dVar 5))) dNil)) dNil)))))
def s__law_spread : Stmt := (top 43)
theorem sc__law_spread : FnScope ["_law_doors", "_law_woods", "_law_one", "_law_other", "_law_onward", "_law_room"] ["_law_doors", "_law_woods", "_law_one", "_law_other"] (defScope s__law_spread) := ⟨rfl, rfl, rfl, by decide +kernel, rfl, by decide +kernel, by decide +kernel⟩
theorem d__law_spread {P : Program} {w : World} {K : PySem.W.Frag} {mg : Str → Option Value} {base : Heap} {C_House : Addr} (T : Txt K mg C_House)
    {sp__law_h_way : SpD} (C__law_h_way : Callee P w K mg base "_law_h_way" 2 none sp__law_h_way) (M__law_h_way : MonoSp sp__law_h_way)
    {f : Addr} {fd : FuncData} (F : Fun K "_law_spread" "_law_spread" s__law_spread f fd) {sp : SpD} (hl : ∀ args ret exc, sp args ret exc → args.length = 4) (hc : ∀ args ret exc, sp args ret exc → (t__law_spread sp__law_h_way) (fnE none ret) (start0 6 args)) :
    DL.FnOk P w K mg base (L2.CX P w) 3 f fd ["_law_doors", "_law_woods", "_law_one", "_law_other"] (spOf none sp) := by
  refine fn_d F sc__law_spread hl (t := fun R => t__law_spread sp__law_h_way) (fun cdv A outer s H E en R hr hI tk hp => ?_) hc
  have hN := sc__law_spread.nd
  have hu : (A.deeper (envOfC "_law_spread" (defScope s__law_spread) s.heap.objs.size f cdv)).units + 1 < cLine := hu_of hr.toRoom
  have hu64 : (A.deeper (envOfC "_law_spread" (defScope s__law_spread) s.heap.objs.size f cdv)).units + 64 < cLine := hr.units
  have hu65 : (A.deeper (envOfC "_law_spread" (defScope s__law_spread) s.heap.objs.size f cdv)).units + 65 < cLine := by have := hr.un; omega
  exact (DL.s_cons (DL.s_set 4 (DL.v_call (R := R0) C__law_h_way M__law_h_way (hr.mono (by decide)) takesR0 (DL.v_cons (DL.v_var 0 (hio := (nio hI (by decide)))) (DL.v_cons (DL.v_var 2 (hio := (nio hI (by decide)))) (DL.v_cons (DL.v_var 3 (hio := (nio hI (by decide)))) DL.v_nil)))) (nio hI (by decide)) hN)
    (DL.s_one (DL.s_ret (DL.v_tup (DL.v_cons (DL.v_sub (DL.v_callB (call_len.or call_lenR) fits_len mono_len boot_len T.m_len (DL.v_cons (DL.v_var 4 (hio := (nio hI (by decide)))) DL.v_nil)) DL.v_int) (DL.v_cons (DL.v_callB (cr_sum rfl) fits_sum mono_sum boot_sum T.m_sum (DL.v_cons (DL.v_lc (own := [(("_law_room" : Str), 5)]) rfl hN (DL.i_seq (DL.v_slice (DL.v_var 4 (hio := (nio hI (by decide)))) DL.o_none (DL.o_some (DL.v_neg DL.v_int)))) (blk_of rfl (by kernel_rfl)) (by decide) (own_io hI (by decide)) (fun s_ H_ C_ cl_ fp_ en_h1 h1 => (DL.g_name 5 (nio (h1.trans hI) (by decide)) hN)) (fun s_ H_ C_ cl_ fp_ en_h2 h2 => DL.b_nil) (fun s_ H_ C_ cl_ fp_ en_h3 h3 => (DL.v_ix hu (DL.v_var 1 (hio := (nio (h3.trans hI) (by decide)))) (DL.v_var 5 (hio := (nio (h3.trans hI) (by decide))))))) DL.v_nil)) DL.v_nil))))))
def t__law_all_right (sp__law_same sp_spread sp__law_spread : SpD) : TSd :=
  (dSeq (dFor (dSeqI (dVar 1)) (gN 4) (dFor (dSeqI (dVar 1)) (gN 5) (dIf (dNot (dT (dCall sp__law_same (dCons (dCall sp_spread (dCons (dVar 0) (dCons (dVar 3) (dCons (dVar 4) (dCons (dVar 5) dNil)))) R0) (dCons (dCall sp__law_spread (dCons (dVar 2) (dCons (dVar 3) (dCons (dVar 4) (dCons (dVar 5) dNil)))) R0) dNil)) R0))) (dRet (dC (.bl false))) dNext)))
  (dRet (dC (.bl true))))
def s__law_all_right : Stmt := (top 44)
theorem sc__law_all_right : FnScope ["_law_house", "_law_rooms", "_law_doors", "_law_woods", "_law_one", "_law_other"] ["_law_house", "_law_rooms", "_law_doors", "_law_woods"] (defScope s__law_all_right) := ⟨rfl, rfl, rfl, by decide +kernel, rfl, by decide +kernel, by decide +kernel⟩
theorem d__law_all_right {P : Program} {w : World} {K : PySem.W.Frag} {mg : Str → Option Value} {base : Heap} {C_House : Addr} (T : Txt K mg C_House)
    {sp__law_same : SpD} (C__law_same : Callee P w K mg base "_law_same" 8 none sp__law_same) (M__law_same : MonoSp sp__law_same)
    {sp_spread : SpD} (C_spread : Callee P w K mg base "spread" 5 none sp_spread) (M_spread : MonoSp sp_spread)
    {sp__law_spread : SpD} (C__law_spread : Callee P w K mg base "_law_spread" 3 none sp__law_spread) (M__law_spread : MonoSp sp__law_spread)
    {f : Addr} {fd : FuncData} (F : Fun K "_law_all_right" "_law_all_right" s__law_all_right f fd) {sp : SpD} (hl : ∀ args ret exc, sp args ret exc → args.length = 4) (hc : ∀ args ret exc, sp args ret exc → (t__law_all_right sp__law_same sp_spread sp__law_spread) (fnE none ret) (start0 6 args)) :
    DL.FnOk P w K mg base (L2.CX P w) 9 f fd ["_law_house", "_law_rooms", "_law_doors", "_law_woods"] (spOf none sp) := by
  refine fn_d F sc__law_all_right hl (t := fun R => t__law_all_right sp__law_same sp_spread sp__law_spread) (fun cdv A outer s H E en R hr hI tk hp => ?_) hc
  have hN := sc__law_all_right.nd
  have hu : (A.deeper (envOfC "_law_all_right" (defScope s__law_all_right) s.heap.objs.size f cdv)).units + 1 < cLine := hu_of hr.toRoom
  have hu64 : (A.deeper (envOfC "_law_all_right" (defScope s__law_all_right) s.heap.objs.size f cdv)).units + 64 < cLine := hr.units
  have hu65 : (A.deeper (envOfC "_law_all_right" (defScope s__law_all_right) s.heap.objs.size f cdv)).units + 65 < cLine := by have := hr.un; omega
  exact (DL.s_cons (DL.s_for hp rfl (DL.i_seq (DL.v_var 1 (hio := (nio hI (by decide))))) (DL.g_name 4 (nio hI (by decide)) hN)
    (DL.s_one (DL.s_for hp rfl (DL.i_seq (DL.v_var 1 (hio := (nio hI (by decide))))) (DL.g_name 5 (nio hI (by decide)) hN)
    (DL.s_one (DL.s_if (DL.t_not (DL.t_val (DL.v_call (R := R0) C__law_same M__law_same (hr.mono (by decide)) takesR0 (DL.v_cons (DL.v_call (R := R0) C_spread M_spread (hr.mono (by decide)) takesR0 (DL.v_cons (DL.v_var 0 (hio := (nio hI (by decide)))) (DL.v_cons (DL.v_var 3 (hio := (nio hI (by decide)))) (DL.v_cons (DL.v_var 4 (hio := (nio hI (by decide)))) (DL.v_cons (DL.v_var 5 (hio := (nio hI (by decide)))) DL.v_nil))))) (DL.v_cons (DL.v_call (R := R0) C__law_spread M__law_spread (hr.mono (by decide)) takesR0 (DL.v_cons (DL.v_var 2 (hio := (nio hI (by decide)))) (DL.v_cons (DL.v_var 3 (hio := (nio hI (by decide)))) (DL.v_cons (DL.v_var 4 (hio := (nio hI (by decide)))) (DL.v_cons (DL.v_var 5 (hio := (nio hI (by decide)))) DL.v_nil))))) DL.v_nil)))))
    (DL.s_one (DL.s_ret DL.v_bl))
    DL.s_nil)))))
    (DL.s_one (DL.s_ret DL.v_bl)))
def t__law_pick (sp__law_draw : SpD) : TSd :=
  (dRet (dB wIx (dVar 1) (dCallI sp__law_draw 0 0 (dHere 0 (dCons (dL wLen (dCons (dVar 1) dNil)) dNil)) R0)))
def s__law_pick : Stmt := (top 31)
theorem sc__law_pick : FnScope ["_law_stream", "_law_some"] ["_law_stream", "_law_some"] (defScope s__law_pick) := ⟨rfl, rfl, rfl, by decide +kernel, rfl, by decide +kernel, by decide +kernel⟩
theorem d__law_pick {P : Program} {w : World} {K : PySem.W.Frag} {mg : Str → Option Value} {base : Heap} {C_House : Addr} (T : Txt K mg C_House)
    {sp__law_draw : SpD} (C__law_draw : Callee P w K mg base "_law_draw" 1 (some 0) sp__law_draw) (M__law_draw : MonoSp sp__law_draw)
    {f : Addr} {fd : FuncData} (F : Fun K "_law_pick" "_law_pick" s__law_pick f fd) {sp : SpD} (hl : ∀ args ret exc, sp args ret exc → args.length = 2) (hc : ∀ args ret exc, sp args ret exc → (t__law_pick sp__law_draw) (fnE (some 0) ret) (start0 2 args)) :
    DL.FnOk P w K mg base (L2.CX P w) 2 f fd ["_law_stream", "_law_some"] (spOf (some 0) sp) := by
  refine fn_d F sc__law_pick hl (t := fun R => t__law_pick sp__law_draw) (fun cdv A outer s H E en R hr hI tk hp => ?_) hc
  have hN := sc__law_pick.nd
  have hu : (A.deeper (envOfC "_law_pick" (defScope s__law_pick) s.heap.objs.size f cdv)).units + 1 < cLine := hu_of hr.toRoom
  have hu64 : (A.deeper (envOfC "_law_pick" (defScope s__law_pick) s.heap.objs.size f cdv)).units + 64 < cLine := hr.units
  have hu65 : (A.deeper (envOfC "_law_pick" (defScope s__law_pick) s.heap.objs.size f cdv)).units + 65 < cLine := by have := hr.un; omega
  exact (DL.s_one (DL.s_ret (DL.v_ix hu (DL.v_var 1 (hio := (nio hI (by decide)))) (DL.v_callI (R := R0) C__law_draw M__law_draw (hr.mono (by decide)) takesR0 (DL.i_here 0 (DL.v_cons (DL.v_callB (call_len.or call_lenR) fits_len mono_len boot_len T.m_len (DL.v_cons (DL.v_var 1 (hio := (nio hI (by decide)))) DL.v_nil)) DL.v_nil))))))
def t__law_bent (sp__law_pick : SpD) : TSd :=
  (dSeq (dPar2 2 3 (dCallI sp__law_pick 0 0 (dHere 0 (dCons (dL wListDic (dCons (dVar 1) dNil)) dNil)) R0) (dCallI sp__law_pick 0 0 (dHere 0 (dCons (dL wLst (dCons (dC .non) (dCons (dC (.int 0)) (dCons (dU wNeg (dC (.int 1))) (dCons (dC (.bl true)) (dCons (dC (.str "1")) (dCons (dL wLst (dCons (dC (.int 1)) dNil)) (dCons (dC (.str "")) (dCons dNewD dNil))))))))) dNil)) R0))
  (dSeq (dSet 4 (dL wLst (dCons (dC .non) (dCons (dC (.int 5)) (dCons (dC (.str "woods")) (dCons (dItemsL (dVar 1)) (dCons dNewD (dCons (dL wDictP (dCons (dB wAdd (dItemsL (dVar 1)) (dL wLst (dCons (dL wTup (dCons (dC (.str "never")) (dCons (dC (.int 1)) dNil))) dNil))) dNil)) dNil))))))))
  (dSeq (dExpr (dMutL 4 (dCons (dL wDictP (dCons (dLc [5] (dWalk keysD (dVar 1)) (gN 5) dYes (dL wTup (dCons (dVar 5) (dCons (dIfV (dT (dB wEq (dVar 5) (dVar 2))) (dVar 3) (dB wIx (dVar 1) (dVar 5))) dNil)))) dNil)) dNil) opAppend))
  (dSeq (dExpr (dMutL 4 (dCons (dL wDictP (dCons (dLc [5] (dWalk keysD (dVar 1)) (gN 5) (dT (dB wNe (dVar 5) (dVar 2))) (dL wTup (dCons (dVar 5) (dCons (dB wIx (dVar 1) (dVar 5)) dNil)))) dNil)) dNil) opAppend))
  (dSeq (dExpr (dMutL 4 (dCons (dL wDictP (dCons (dLc [5] (dWalk keysD (dVar 1)) (gN 5) dYes (dL wTup (dCons (dIfV (dT (dB wEq (dVar 5) (dVar 2))) (dC (.str "never")) (dVar 5)) (dCons (dB wIx (dVar 1) (dVar 5)) dNil)))) dNil)) dNil) opAppend))
  (dRet (dCallI sp__law_pick 0 0 (dHere 0 (dCons (dVar 4) dNil)) R0)))))))
def s__law_bent : Stmt := (top 42)
theorem sc__law_bent : FnScope ["_law_stream", "_law_given", "_law_room", "_law_odd", "_law_some", "_law_one"] ["_law_stream", "_law_given"] (defScope s__law_bent) := ⟨rfl, rfl, rfl, by decide +kernel, rfl, by decide +kernel, by decide +kernel⟩
theorem d__law_bent {P : Program} {w : World} {K : PySem.W.Frag} {mg : Str → Option Value} {base : Heap} {C_House : Addr} (T : Txt K mg C_House)
    {sp__law_pick : SpD} (C__law_pick : Callee P w K mg base "_law_pick" 2 (some 0) sp__law_pick) (M__law_pick : MonoSp sp__law_pick)
    {f : Addr} {fd : FuncData} (F : Fun K "_law_bent" "_law_bent" s__law_bent f fd) {sp : SpD} (hl : ∀ args ret exc, sp args ret exc → args.length = 2) (hc : ∀ args ret exc, sp args ret exc → (t__law_bent sp__law_pick) (fnE (some 0) ret) (start0 6 args)) :
    DL.FnOk P w K mg base (L2.CX P w) 3 f fd ["_law_stream", "_law_given"] (spOf (some 0) sp) := by
  refine fn_d F sc__law_bent hl (t := fun R => t__law_bent sp__law_pick) (fun cdv A outer s H E en R hr hI tk hp => ?_) hc
  have hN := sc__law_bent.nd
  have hu : (A.deeper (envOfC "_law_bent" (defScope s__law_bent) s.heap.objs.size f cdv)).units + 1 < cLine := hu_of hr.toRoom
  have hu64 : (A.deeper (envOfC "_law_bent" (defScope s__law_bent) s.heap.objs.size f cdv)).units + 64 < cLine := hr.units
  have hu65 : (A.deeper (envOfC "_law_bent" (defScope s__law_bent) s.heap.objs.size f cdv)).units + 65 < cLine := by have := hr.un; omega
  exact (DL.s_cons (DL.s_par2c (i := 2) (j := 3) (DL.v_callI (R := R0) C__law_pick M__law_pick (hr.mono (by decide)) takesR0 (DL.i_here 0 (DL.v_cons (DL.v_callT (call_listD rfl) fits_listDic mono_listDic boot_list T.m_list (DL.v_cons (DL.v_var 1 (hio := (nio hI (by decide)))) DL.v_nil)) DL.v_nil))) (fun en_h1 h1 => (DL.v_callI (R := R0) C__law_pick M__law_pick (hr.mono (by decide)) takesR0 (DL.i_here 0 (DL.v_cons (DL.v_lst (DL.v_cons DL.v_non (DL.v_cons DL.v_int (DL.v_cons (DL.v_neg DL.v_int) (DL.v_cons DL.v_bl (DL.v_cons DL.v_str (DL.v_cons (DL.v_lst (DL.v_cons DL.v_int DL.v_nil)) (DL.v_cons DL.v_str (DL.v_cons DL.v_dic0 DL.v_nil))))))))) DL.v_nil)))) (nio hI (by decide)) (nio hI (by decide)) (by decide) rfl hN)
    (DL.s_cons (DL.s_set 4 (DL.v_lst (DL.v_cons DL.v_non (DL.v_cons DL.v_int (DL.v_cons DL.v_str (DL.v_cons (DL.v_items rfl (DL.v_var 1 (hio := (nio hI (by decide)))) T.m_list) (DL.v_cons DL.v_dic0 (DL.v_cons (DL.v_callT (call_dictP rfl) fits_dictP mono_dictP boot_dict T.m_dict (DL.v_cons (DL.v_add (DL.v_items rfl (DL.v_var 1 (hio := (nio hI (by decide)))) T.m_list) (DL.v_lst (DL.v_cons (DL.v_tup (DL.v_cons DL.v_str (DL.v_cons DL.v_int DL.v_nil))) DL.v_nil))) DL.v_nil)) DL.v_nil))))))) (nio hI (by decide)) hN)
    (DL.s_cons (DL.s_expr (DL.v_append 4 (DL.v_callT (call_dictP rfl) fits_dictP mono_dictP boot_dict T.m_dict (DL.v_cons (DL.v_lc (own := [(("_law_one" : Str), 5)]) rfl hN (DL.i_keys (DL.v_var 1 (hio := (nio hI (by decide))))) (blk_of rfl (by kernel_rfl)) (by decide) (own_io hI (by decide)) (fun s_ H_ C_ cl_ fp_ en_h2 h2 => (DL.g_name 5 (nio (h2.trans hI) (by decide)) hN)) (fun s_ H_ C_ cl_ fp_ en_h3 h3 => DL.b_nil) (fun s_ H_ C_ cl_ fp_ en_h4 h4 => (DL.v_tup (DL.v_cons (DL.v_var 5 (hio := (nio (h4.trans hI) (by decide)))) (DL.v_cons (DL.v_if (DL.t_eq hu64 (DL.v_var 5 (hio := (nio (h4.trans hI) (by decide)))) (DL.v_var 2 (hio := (nio (h4.trans hI) (by decide))))) (DL.v_var 3 (hio := (nio (h4.trans hI) (by decide)))) (DL.v_ix hu (DL.v_var 1 (hio := (nio (h4.trans hI) (by decide)))) (DL.v_var 5 (hio := (nio (h4.trans hI) (by decide)))))) DL.v_nil))))) DL.v_nil))))
    (DL.s_cons (DL.s_expr (DL.v_append 4 (DL.v_callT (call_dictP rfl) fits_dictP mono_dictP boot_dict T.m_dict (DL.v_cons (DL.v_lc (own := [(("_law_one" : Str), 5)]) rfl hN (DL.i_keys (DL.v_var 1 (hio := (nio hI (by decide))))) (blk_of rfl (by kernel_rfl)) (by decide) (own_io hI (by decide)) (fun s_ H_ C_ cl_ fp_ en_h5 h5 => (DL.g_name 5 (nio (h5.trans hI) (by decide)) hN)) (fun s_ H_ C_ cl_ fp_ en_h6 h6 => (DL.b_one (DL.t_ne hu64 (DL.v_var 5 (hio := (nio (h6.trans hI) (by decide)))) (DL.v_var 2 (hio := (nio (h6.trans hI) (by decide))))))) (fun s_ H_ C_ cl_ fp_ en_h7 h7 => (DL.v_tup (DL.v_cons (DL.v_var 5 (hio := (nio (h7.trans hI) (by decide)))) (DL.v_cons (DL.v_ix hu (DL.v_var 1 (hio := (nio (h7.trans hI) (by decide)))) (DL.v_var 5 (hio := (nio (h7.trans hI) (by decide))))) DL.v_nil))))) DL.v_nil))))
    (DL.s_cons (DL.s_expr (DL.v_append 4 (DL.v_callT (call_dictP rfl) fits_dictP mono_dictP boot_dict T.m_dict (DL.v_cons (DL.v_lc (own := [(("_law_one" : Str), 5)]) rfl hN (DL.i_keys (DL.v_var 1 (hio := (nio hI (by decide))))) (blk_of rfl (by kernel_rfl)) (by decide) (own_io hI (by decide)) (fun s_ H_ C_ cl_ fp_ en_h8 h8 => (DL.g_name 5 (nio (h8.trans hI) (by decide)) hN)) (fun s_ H_ C_ cl_ fp_ en_h9 h9 => DL.b_nil) (fun s_ H_ C_ cl_ fp_ en_h10 h10 => (DL.v_tup (DL.v_cons (DL.v_if (DL.t_eq hu64 (DL.v_var 5 (hio := (nio (h10.trans hI) (by decide)))) (DL.v_var 2 (hio := (nio (h10.trans hI) (by decide))))) DL.v_str (DL.v_var 5 (hio := (nio (h10.trans hI) (by decide))))) (DL.v_cons (DL.v_ix hu (DL.v_var 1 (hio := (nio (h10.trans hI) (by decide)))) (DL.v_var 5 (hio := (nio (h10.trans hI) (by decide))))) DL.v_nil))))) DL.v_nil))))
    (DL.s_one (DL.s_ret (DL.v_callI (R := R0) C__law_pick M__law_pick (hr.mono (by decide)) takesR0 (DL.i_here 0 (DL.v_cons (DL.v_var 4 (hio := (nio hI (by decide)))) DL.v_nil))))))))))
-- FAILED _law_met: try:     return ('told', _law_ask()) except BadWoods as e:     return ('woods', e.thing) except NoRoom as e:     return ('room', e.thing)
def t__law_refused_right (C_BadWoods : Addr) (C_NoRoom : Addr) (sp__law_bent sp_is_woods sp_spread sp__law_same : SpD) : TSd :=
  (dSeq (dFor (dRange1 (dCons (dC (.int 3)) dNil)) (gN 4) (dSeq (dSet 5 (dCallI sp__law_bent 0 0 (dHere 0 (dCons (dVar 3) dNil)) R0))
  (dSeq (dSet 6 (dL wLst (dCons (dCall sp_is_woods (dCons (dVar 1) (dCons (dVar 5) dNil)) R0) (dCons (dMet [1, 5] "told" [(C_BadWoods, "woods", "thing"), (C_NoRoom, "room", "thing")] fun R_h1 => (dCall sp_spread (dCons (dVar 1) (dCons (dVar 5) (dCons (dC .non) (dCons (dC .non) dNil)))) R_h1)) dNil))))
  (dIf (dFlatB (dNot (dT (dCall sp__law_same (dCons (dVar 6) (dCons (dL wLst (dCons (dC (.bl false)) (dCons (dL wTup (dCons (dC (.str "woods")) (dCons (dVar 5) dNil))) dNil))) dNil)) R0)))) (dRet (dC (.bl false))) dNext))))
  (dSeq (dFor (dSeqI (dL wTup (dCons (dC (.str "never")) (dCons (dC (.str "")) (dCons (dC .non) (dCons (dC (.int 5)) (dCons (dC (.bl true)) (dCons (dL wLst dNil) (dCons dNewD dNil))))))))) (gN 7) (dSeq (dSet 6 (dL wLst (dCons (dMet [1, 3, 7] "told" [(C_BadWoods, "woods", "thing"), (C_NoRoom, "room", "thing")] fun R_h3 => (dCall sp_spread (dCons (dVar 1) (dCons (dVar 3) (dCons (dVar 7) (dCons (dC .non) dNil)))) R_h3)) dNil)))
  (dSeq (dExpr (dMutL 6 (dCons (dMet [1, 3, 7, 2] "told" [(C_BadWoods, "woods", "thing"), (C_NoRoom, "room", "thing")] fun R_h4 => (dCall sp_spread (dCons (dVar 1) (dCons (dVar 3) (dCons (dB wIx (dVar 2) (dC (.int 0))) (dCons (dVar 7) dNil)))) R_h4)) dNil) opAppend))
  (dIf (dFlatB (dNot (dT (dCall sp__law_same (dCons (dVar 6) (dCons (dB wRep (dL wLst (dCons (dL wTup (dCons (dC (.str "room")) (dCons (dVar 7) dNil))) dNil)) (dC (.int 2))) dNil)) R0)))) (dRet (dC (.bl false))) dNext))))
  (dSeq (dPar2 8 9 (dL wDictP (dCons (dL wLst (dCons (dL wTup (dCons (dC (.str "late")) (dCons (dC (.int 0)) dNil))) dNil)) dNil)) (dL wLst (dCons (dB wIx (dVar 2) (dC (.int 0))) dNil)))
  (dSeq (dSet 6 (dL wLst (dCons (dVery 8 (dMet [1, 8] "told" [(C_BadWoods, "woods", "thing"), (C_NoRoom, "room", "thing")] fun R_h8 => (dCall sp_spread (dCons (dVar 1) (dCons (dVar 8) (dCons (dC .non) (dCons (dC .non) dNil)))) R_h8))) dNil)))
  (dSeq (dExpr (dMutL 6 (dCons (dVery 9 (dMet [1, 3, 9] "told" [(C_BadWoods, "woods", "thing"), (C_NoRoom, "room", "thing")] fun R_h10 => (dCall sp_spread (dCons (dVar 1) (dCons (dVar 3) (dCons (dVar 9) (dCons (dC .non) dNil)))) R_h10))) dNil) opAppend))
  (dSeq (dPutT 8 (dC (.str "later")) (dC (.int 1)))
  (dSeq (dExpr (dMutLT 9 (dCons (dC (.str "late")) dNil) opAppend))
  (dRet (dCall sp__law_same (dSubT (dCons (dVar 6) (dCons (dL wLst (dCons (dL wTup (dCons (dC (.str "woods")) (dCons (dVar 8) dNil))) (dCons (dL wTup (dCons (dC (.str "room")) (dCons (dVar 9) dNil))) dNil))) dNil))) R0)))))))))
def s__law_refused_right : Stmt := (top 45)
theorem sc__law_refused_right : FnScope ["_law_stream", "_law_house", "_law_rooms", "_law_woods", "_law_k", "_law_bent_here", "_law_found", "_law_odd", "_law_held", "_law_spare"] ["_law_stream", "_law_house", "_law_rooms", "_law_woods"] (defScope s__law_refused_right) := ⟨rfl, rfl, rfl, by decide +kernel, rfl, by decide +kernel, by decide +kernel⟩
theorem d__law_refused_right {P : Program} {w : World} {K : PySem.W.Frag} {mg : Str → Option Value} {base : Heap} {C_House : Addr} (T : Txt K mg C_House)
    {sp__law_bent : SpD} (C__law_bent : Callee P w K mg base "_law_bent" 3 (some 0) sp__law_bent) (M__law_bent : MonoSp sp__law_bent)
    {sp_is_woods : SpD} (C_is_woods : Callee P w K mg base "is_woods" 3 none sp_is_woods) (M_is_woods : MonoSp sp_is_woods)
    {sp_spread : SpD} (C_spread : Callee P w K mg base "spread" 5 none sp_spread) (M_spread : MonoSp sp_spread)
    {sp__law_same : SpD} (C__law_same : Callee P w K mg base "_law_same" 8 none sp__law_same) (M__law_same : MonoSp sp__law_same)
    {C_BadWoods : Addr}
    {C_NoRoom : Addr}
    (M__law_met : MetC P w K mg base "_law_met" "told" [(C_BadWoods, "woods", "thing"), (C_NoRoom, "room", "thing")])
    {cL PL : Addr} {ll : Str} {cdv : Value} (TB : LamX.TabB base mg cL PL) (hcL : cdv = .ref cL) (hll : ll = (("_law_refused_right" : Str) ++ ".<locals>.") ++ "<lambda>") (hmL : (PL, ll) ∈ LamT.L) (huL : ∀ p ∈ LamT.L, p.1 = PL → p.2 = ll)
    {f : Addr} {fd : FuncData} (F : FunC K "_law_refused_right" "_law_refused_right" s__law_refused_right f fd cdv) {sp : SpD} (hl : ∀ args ret exc, sp args ret exc → args.length = 4) (hc : ∀ args ret exc, sp args ret exc → (t__law_refused_right C_BadWoods C_NoRoom sp__law_bent sp_is_woods sp_spread sp__law_same) (fnE (some 0) ret) (start0 10 args)) :
    DL.FnOk P w K mg base (L2.CX P w) 9 f fd ["_law_stream", "_law_house", "_law_rooms", "_law_woods"] (spOf (some 0) sp) := by
  refine fn_dC F sc__law_refused_right hl (t := fun R => t__law_refused_right C_BadWoods C_NoRoom sp__law_bent sp_is_woods sp_spread sp__law_same) (fun A outer s H E en R hr hI tk hp => ?_) hc
  have hN := sc__law_refused_right.nd
  have hu : (A.deeper (envOfC "_law_refused_right" (defScope s__law_refused_right) s.heap.objs.size f cdv)).units + 1 < cLine := hu_of hr.toRoom
  have hu64 : (A.deeper (envOfC "_law_refused_right" (defScope s__law_refused_right) s.heap.objs.size f cdv)).units + 64 < cLine := hr.units
  have hu65 : (A.deeper (envOfC "_law_refused_right" (defScope s__law_refused_right) s.heap.objs.size f cdv)).units + 65 < cLine := by have := hr.un; omega
  have LA : LamAt (cxOf (L2.CX P w) P w K mg base ["_law_stream", "_law_house", "_law_rooms", "_law_woods", "_law_k", "_law_bent_here", "_law_found", "_law_odd", "_law_held", "_law_spare"] "_law_refused_right" (defScope s__law_refused_right) f cdv A outer s H E) cL PL := LamAt.of TB rfl hcL hll hmL huL
  exact (DL.s_cons (DL.s_for hp rfl (DL.i_range1 (DL.v_cons DL.v_int DL.v_nil) T.m_range) (DL.g_name 4 (nio hI (by decide)) hN)
    (DL.s_cons (DL.s_set 5 (DL.v_callI (R := R0) C__law_bent M__law_bent (hr.mono (by decide)) takesR0 (DL.i_here 0 (DL.v_cons (DL.v_var 3 (hio := (nio hI (by decide)))) DL.v_nil))) (nio hI (by decide)) hN)
    (DL.s_cons (DL.s_set 6 (DL.v_lst (DL.v_cons (DL.v_call (R := R0) C_is_woods M_is_woods (hr.mono (by decide)) takesR0 (DL.v_cons (DL.v_var 1 (hio := (nio hI (by decide)))) (DL.v_cons (DL.v_var 5 (hio := (nio hI (by decide)))) DL.v_nil))) (DL.v_cons (DL.v_met (k := 5) M__law_met LA (hr.mono (by decide)) (LamX.lamS_by (by kernel_rfl)) rfl (fun _ _ _ _ _ => rfl) [1, 5] (own_io hI (by decide)) (fun en_h1 R_h1 A_ o_ s_ H_ E_ f_ d_ h1 hr_h1 tk_h1 => (DL.v_call (R := R_h1) C_spread M_spread (hr_h1.mono (by decide)) tk_h1 (DL.v_cons (DL.v_var 1 (hio := (nio h1 (by decide)))) (DL.v_cons (DL.v_var 5 (hio := (nio h1 (by decide)))) (DL.v_cons DL.v_non (DL.v_cons DL.v_non DL.v_nil))))))) DL.v_nil))) (nio hI (by decide)) hN)
    (DL.s_one (DL.s_if (DL.t_flat fun en_h2 h2 => (DL.t_not (DL.t_val (DL.v_call (R := R0) C__law_same M__law_same (hr.mono (by decide)) takesR0 (DL.v_cons (DL.v_var 6 (hio := (nio h2 (by decide)))) (DL.v_cons (DL.v_lst (DL.v_cons DL.v_bl (DL.v_cons (DL.v_tup (DL.v_cons DL.v_str (DL.v_cons (DL.v_var 5 (hio := (nio h2 (by decide)))) DL.v_nil))) DL.v_nil))) DL.v_nil))))))
    (DL.s_one (DL.s_ret DL.v_bl))
    DL.s_nil)))))
    (DL.s_cons (DL.s_for hp rfl (DL.i_seq (DL.v_tup (DL.v_cons DL.v_str (DL.v_cons DL.v_str (DL.v_cons DL.v_non (DL.v_cons DL.v_int (DL.v_cons DL.v_bl (DL.v_cons (DL.v_lst DL.v_nil) (DL.v_cons DL.v_dic0 DL.v_nil))))))))) (DL.g_name 7 (nio hI (by decide)) hN)
    (DL.s_cons (DL.s_set 6 (DL.v_lst (DL.v_cons (DL.v_met (k := 5) M__law_met LA (hr.mono (by decide)) (LamX.lamS_by (by kernel_rfl)) rfl (fun _ _ _ _ _ => rfl) [1, 3, 7] (own_io hI (by decide)) (fun en_h3 R_h3 A_ o_ s_ H_ E_ f_ d_ h3 hr_h3 tk_h3 => (DL.v_call (R := R_h3) C_spread M_spread (hr_h3.mono (by decide)) tk_h3 (DL.v_cons (DL.v_var 1 (hio := (nio h3 (by decide)))) (DL.v_cons (DL.v_var 3 (hio := (nio h3 (by decide)))) (DL.v_cons (DL.v_var 7 (hio := (nio h3 (by decide)))) (DL.v_cons DL.v_non DL.v_nil))))))) DL.v_nil)) (nio hI (by decide)) hN)
    (DL.s_cons (DL.s_expr (DL.v_append 6 (DL.v_met (k := 5) M__law_met LA (hr.mono (by decide)) (LamX.lamS_by (by kernel_rfl)) rfl (fun _ _ _ _ _ => rfl) [1, 3, 7, 2] (own_io hI (by decide)) (fun en_h4 R_h4 A_ o_ s_ H_ E_ f_ d_ h4 hr_h4 tk_h4 => (DL.v_call (R := R_h4) C_spread M_spread (hr_h4.mono (by decide)) tk_h4 (DL.v_cons (DL.v_var 1 (hio := (nio h4 (by decide)))) (DL.v_cons (DL.v_var 3 (hio := (nio h4 (by decide)))) (DL.v_cons (DL.v_ix (hu_of hr_h4.toRoom) (DL.v_var 2 (hio := (nio h4 (by decide)))) DL.v_int) (DL.v_cons (DL.v_var 7 (hio := (nio h4 (by decide)))) DL.v_nil)))))))))
    (DL.s_one (DL.s_if (DL.t_flat fun en_h5 h5 => (DL.t_not (DL.t_val (DL.v_call (R := R0) C__law_same M__law_same (hr.mono (by decide)) takesR0 (DL.v_cons (DL.v_var 6 (hio := (nio h5 (by decide)))) (DL.v_cons (DL.v_rep (DL.v_lst (DL.v_cons (DL.v_tup (DL.v_cons DL.v_str (DL.v_cons (DL.v_var 7 (hio := (nio h5 (by decide)))) DL.v_nil))) DL.v_nil)) DL.v_int) DL.v_nil))))))
    (DL.s_one (DL.s_ret DL.v_bl))
    DL.s_nil)))))
    (DL.s_cons (DL.s_par2c (i := 8) (j := 9) (DL.v_callT (call_dictP rfl) fits_dictP mono_dictP boot_dict T.m_dict (DL.v_cons (DL.v_lst (DL.v_cons (DL.v_tup (DL.v_cons DL.v_str (DL.v_cons DL.v_int DL.v_nil))) DL.v_nil)) DL.v_nil)) (fun en_h6 h6 => (DL.v_lst (DL.v_cons (DL.v_ix hu (DL.v_var 2 (hio := (nio (h6.trans hI) (by decide)))) DL.v_int) DL.v_nil))) (nio hI (by decide)) (nio hI (by decide)) (by decide) rfl hN)
    (DL.s_cons (DL.s_set 6 (DL.v_lst (DL.v_cons (DL.v_very 8 fun en_h7 h7 => (DL.v_met (k := 5) M__law_met LA (hr.mono (by decide)) (LamX.lamS_by (by kernel_rfl)) rfl (fun _ _ _ _ _ => rfl) [1, 8] (own_io h7 (by decide)) (fun en_h8 R_h8 A_ o_ s_ H_ E_ f_ d_ h8 hr_h8 tk_h8 => (DL.v_call (R := R_h8) C_spread M_spread (hr_h8.mono (by decide)) tk_h8 (DL.v_cons (DL.v_var 1 (hio := (nio h8 (by decide)))) (DL.v_cons (DL.v_var 8 (hio := (nio h8 (by decide)))) (DL.v_cons DL.v_non (DL.v_cons DL.v_non DL.v_nil)))))))) DL.v_nil)) (nio hI (by decide)) hN)
    (DL.s_cons (DL.s_expr (DL.v_append 6 (DL.v_very 9 fun en_h9 h9 => (DL.v_met (k := 5) M__law_met LA (hr.mono (by decide)) (LamX.lamS_by (by kernel_rfl)) rfl (fun _ _ _ _ _ => rfl) [1, 3, 9] (own_io h9 (by decide)) (fun en_h10 R_h10 A_ o_ s_ H_ E_ f_ d_ h10 hr_h10 tk_h10 => (DL.v_call (R := R_h10) C_spread M_spread (hr_h10.mono (by decide)) tk_h10 (DL.v_cons (DL.v_var 1 (hio := (nio h10 (by decide)))) (DL.v_cons (DL.v_var 3 (hio := (nio h10 (by decide)))) (DL.v_cons (DL.v_var 9 (hio := (nio h10 (by decide)))) (DL.v_cons DL.v_non DL.v_nil))))))))))
    (DL.s_cons (DL.s_putT 8 hu DL.v_str DL.v_int)
    (DL.s_cons (DL.s_expr (DL.v_appendT 9 DL.v_str))
    (DL.s_one (DL.s_ret (DL.v_call (R := R0) C__law_same M__law_same (hr.mono (by decide)) takesR0 (DL.v_subT (DL.v_cons (DL.v_var 6 (hio := (nio hI (by decide)))) (DL.v_cons (DL.v_lst (DL.v_cons (DL.v_tup (DL.v_cons DL.v_str (DL.v_cons (DL.v_var 8 (hio := (nio hI (by decide)))) DL.v_nil))) (DL.v_cons (DL.v_tup (DL.v_cons DL.v_str (DL.v_cons (DL.v_var 9 (hio := (nio hI (by decide)))) DL.v_nil))) DL.v_nil))) DL.v_nil)))))))))))))
def t_law (C_House : Addr) (sp__law_start sp__law_h_house sp_House_init sp__law_h_turned sp__law_h_woods sp__law_pick sp_is_woods sp__law_all_right sp__law_refused_right : SpD) : TSd :=
  (dSeq (dSet 1 (dCall sp__law_start (dCons (dVar 0) dNil) R0))
  (dSeq (dFor (dRange1 (dCons (dC (.int 4)) dNil)) (gN 2) (dSeq (dAsg (dCallI sp__law_h_house 1 0 (dHere 1 (dCons (dC (.int 9)) dNil)) R0) (dTup 2 (gCons (gN 3) (gCons (gN 4) gNil))))
  (dSeq (dSet 5 (dMake C_House sp_House_init (dCons (dVar 3) (dCons (dVar 4) dNil)) R0))
  (dSeq (dSet 6 (dCallI sp__law_h_turned 1 0 (dHere 1 (dCons (dCallI sp__law_h_woods 1 0 (dHere 1 (dCons (dVar 3) (dCons (dCallI sp__law_pick 1 0 (dHere 1 (dCons (dL wLst (dCons (dC (.int 2)) (dCons (dC (.int 5)) (dCons (dB wSub (dB wPow (dC (.int 10)) (dC (.int 9))) (dC (.int 2))) dNil)))) dNil)) R0) dNil))) R0) dNil)) R0))
  (dSeq (dPar2 7 8 (dCallI sp__law_h_woods 1 0 (dHere 1 (dCons (dVar 3) (dCons (dC (.int 4)) dNil))) R0) (dFlat (dL wRepr1 (dCons (dVar 6) dNil))))
  (dSeq (dIf (dFlatB (dT (dB (wIsB true) (dCall sp_is_woods (dCons (dVar 5) (dCons (dVar 6) dNil)) R0) (dC (.bl true))))) (dRet (dC (.bl false))) dNext)
  (dSeq (dIf (dFlatB (dNot (dT (dL (wAllAny fun bs => bs.all id) (dCons (dLc [9] (dSeqI (dL wTup (dCons (dVar 6) (dCons (dVar 7) (dCons (dVar 6) dNil))))) (gN 9) dYes (dCall sp__law_all_right (dCons (dVar 5) (dCons (dVar 3) (dCons (dVar 4) (dCons (dVar 9) dNil)))) R0)) dNil))))) (dRet (dC (.bl false))) dNext)
  (dSeq (dIf (dFlatBI 1 (dOr (dT (dB wNe (dL wRepr1 (dCons (dVar 6) dNil)) (dVar 8))) (dNot (dT (dCallI sp__law_refused_right 1 0 (dHere 1 (dCons (dVar 5) (dCons (dVar 3) (dCons (dVar 6) dNil)))) R0))))) (dRet (dC (.bl false))) dNext)
  (dSeq (dPut 6 (dB wIx (dVar 3) (dC (.int 0))) (dFlat (dB wAdd (dB wIx (dVar 6) (dB wIx (dVar 3) (dC (.int 0)))) (dC (.int 1)))))
  (dIf (dFlatB (dNot (dT (dCall sp__law_all_right (dCons (dVar 5) (dCons (dVar 3) (dCons (dVar 4) (dCons (dVar 6) dNil)))) R0)))) (dRet (dC (.bl false))) dNext))))))))))
  (dRet (dC (.bl true)))))
def s_law : Stmt := (top 46)
theorem sc_law : FnScope ["_law_script", "_law_stream", "_law_turn", "_law_rooms", "_law_doors", "_law_house", "_law_woods", "_law_other", "_law_was", "_law_some"] ["_law_script"] (defScope s_law) := ⟨rfl, rfl, rfl, by decide +kernel, rfl, by decide +kernel, by decide +kernel⟩
theorem d_law {P : Program} {w : World} {K : PySem.W.Frag} {mg : Str → Option Value} {base : Heap} {C_House : Addr} (T : Txt K mg C_House)
    {sp__law_start : SpD} (C__law_start : Callee P w K mg base "_law_start" 1 none sp__law_start) (M__law_start : MonoSp sp__law_start)
    {sp__law_h_house : SpD} (C__law_h_house : Callee P w K mg base "_law_h_house" 4 (some 0) sp__law_h_house) (M__law_h_house : MonoSp sp__law_h_house)
    {sp_House_init : SpD} (C_House_init : Maker P w K mg base "House" C_House 4 sp_House_init) (M_House_init : MonoSp sp_House_init)
    {sp__law_h_turned : SpD} (C__law_h_turned : Callee P w K mg base "_law_h_turned" 3 (some 0) sp__law_h_turned) (M__law_h_turned : MonoSp sp__law_h_turned)
    {sp__law_h_woods : SpD} (C__law_h_woods : Callee P w K mg base "_law_h_woods" 2 (some 0) sp__law_h_woods) (M__law_h_woods : MonoSp sp__law_h_woods)
    {sp__law_pick : SpD} (C__law_pick : Callee P w K mg base "_law_pick" 2 (some 0) sp__law_pick) (M__law_pick : MonoSp sp__law_pick)
    {sp_is_woods : SpD} (C_is_woods : Callee P w K mg base "is_woods" 3 none sp_is_woods) (M_is_woods : MonoSp sp_is_woods)
    {sp__law_all_right : SpD} (C__law_all_right : Callee P w K mg base "_law_all_right" 9 none sp__law_all_right) (M__law_all_right : MonoSp sp__law_all_right)
    {sp__law_refused_right : SpD} (C__law_refused_right : Callee P w K mg base "_law_refused_right" 9 (some 0) sp__law_refused_right) (M__law_refused_right : MonoSp sp__law_refused_right)
    {f : Addr} {fd : FuncData} (F : Fun K "law" "law" s_law f fd) {sp : SpD} (hl : ∀ args ret exc, sp args ret exc → args.length = 1) (hc : ∀ args ret exc, sp args ret exc → (t_law C_House sp__law_start sp__law_h_house sp_House_init sp__law_h_turned sp__law_h_woods sp__law_pick sp_is_woods sp__law_all_right sp__law_refused_right) (fnE none ret) (start0 10 args)) :
    DL.FnOk P w K mg base (L2.CX P w) 10 f fd ["_law_script"] (spOf none sp) := by
  refine fn_d F sc_law hl (t := fun R => t_law C_House sp__law_start sp__law_h_house sp_House_init sp__law_h_turned sp__law_h_woods sp__law_pick sp_is_woods sp__law_all_right sp__law_refused_right) (fun cdv A outer s H E en R hr hI tk hp => ?_) hc
  have hN := sc_law.nd
  have hu : (A.deeper (envOfC "law" (defScope s_law) s.heap.objs.size f cdv)).units + 1 < cLine := hu_of hr.toRoom
  have hu64 : (A.deeper (envOfC "law" (defScope s_law) s.heap.objs.size f cdv)).units + 64 < cLine := hr.units
  have hu65 : (A.deeper (envOfC "law" (defScope s_law) s.heap.objs.size f cdv)).units + 65 < cLine := by have := hr.un; omega
  exact (DL.s_cons (DL.s_set 1 (DL.v_call (R := R0) C__law_start M__law_start (hr.mono (by decide)) takesR0 (DL.v_cons (DL.v_var 0 (hio := (nio hI (by decide)))) DL.v_nil)) (nio hI (by decide)) hN)
    (DL.s_cons (DL.s_for hp rfl (DL.i_range1 (DL.v_cons DL.v_int DL.v_nil) T.m_range) (DL.g_name 2 (nio hI (by decide)) hN)
    (DL.s_cons (DL.s_asg (DL.v_callI (R := R0) C__law_h_house M__law_h_house (hr.mono (by decide)) takesR0 (DL.i_here 1 (DL.v_cons DL.v_int DL.v_nil))) (DL.g_tup rfl (DL.g_cons (DL.g_name 3 (nio hI (by decide)) hN) (DL.g_cons (DL.g_name 4 (nio hI (by decide)) hN) DL.g_nil))))
    (DL.s_cons (DL.s_set 5 (DL.v_make (R := R0) C_House_init M_House_init (hr.mono (by decide)) takesR0 (DL.v_cons (DL.v_var 3 (hio := (nio hI (by decide)))) (DL.v_cons (DL.v_var 4 (hio := (nio hI (by decide)))) DL.v_nil))) (nio hI (by decide)) hN)
    (DL.s_cons (DL.s_set 6 (DL.v_callI (R := R0) C__law_h_turned M__law_h_turned (hr.mono (by decide)) takesR0 (DL.i_here 1 (DL.v_cons (DL.v_callI (R := R0) C__law_h_woods M__law_h_woods (hr.mono (by decide)) takesR0 (DL.i_here 1 (DL.v_cons (DL.v_var 3 (hio := (nio hI (by decide)))) (DL.v_cons (DL.v_callI (R := R0) C__law_pick M__law_pick (hr.mono (by decide)) takesR0 (DL.i_here 1 (DL.v_cons (DL.v_lst (DL.v_cons DL.v_int (DL.v_cons DL.v_int (DL.v_cons (DL.v_sub (DL.v_pow DL.v_int DL.v_int) DL.v_int) DL.v_nil)))) DL.v_nil))) DL.v_nil)))) DL.v_nil))) (nio hI (by decide)) hN)
    (DL.s_cons (DL.s_par2 (i := 7) (j := 8) (DL.v_callI (R := R0) C__law_h_woods M__law_h_woods (hr.mono (by decide)) takesR0 (DL.i_here 1 (DL.v_cons (DL.v_var 3 (hio := (nio hI (by decide)))) (DL.v_cons DL.v_int DL.v_nil)))) (fun en_h1 h1 => (DL.v_flat fun en_h2 h2 => (DL.v_callB (cr_repr1 hr.gd hu64) fits_repr1 mono_repr1 boot_repr T.m_repr (DL.v_cons (DL.v_var 6 (hio := (nio h2 (by decide)))) DL.v_nil)))) (nio hI (by decide)) (nio hI (by decide)) (by decide) rfl hN)
    (DL.s_cons (DL.s_if (DL.t_flat fun en_h3 h3 => (DL.t_notBl (DL.v_call (R := R0) C_is_woods M_is_woods (hr.mono (by decide)) takesR0 (DL.v_cons (DL.v_var 5 (hio := (nio h3 (by decide)))) (DL.v_cons (DL.v_var 6 (hio := (nio h3 (by decide)))) DL.v_nil))) DL.v_bl))
    (DL.s_one (DL.s_ret DL.v_bl))
    DL.s_nil)
    (DL.s_cons (DL.s_if (DL.t_flat fun en_h4 h4 => (DL.t_not (DL.t_val (DL.v_callB (cr_all rfl) fits_all mono_allany boot_all T.m_all (DL.v_cons (DL.v_lc (own := [(("_law_some" : Str), 9)]) rfl hN (DL.i_seq (DL.v_tup (DL.v_cons (DL.v_var 6 (hio := (nio h4 (by decide)))) (DL.v_cons (DL.v_var 7 (hio := (nio h4 (by decide)))) (DL.v_cons (DL.v_var 6 (hio := (nio h4 (by decide)))) DL.v_nil))))) (blk_of rfl (by kernel_rfl)) (by decide) (own_io h4 (by decide)) (fun s_ H_ C_ cl_ fp_ en_h5 h5 => (DL.g_name 9 (nio (h5.trans h4) (by decide)) hN)) (fun s_ H_ C_ cl_ fp_ en_h6 h6 => DL.b_nil) (fun s_ H_ C_ cl_ fp_ en_h7 h7 => (DL.v_call (R := R0) C__law_all_right M__law_all_right (hr.mono (by decide)) takesR0 (DL.v_cons (DL.v_var 5 (hio := (nio (h7.trans h4) (by decide)))) (DL.v_cons (DL.v_var 3 (hio := (nio (h7.trans h4) (by decide)))) (DL.v_cons (DL.v_var 4 (hio := (nio (h7.trans h4) (by decide)))) (DL.v_cons (DL.v_var 9 (hio := (nio (h7.trans h4) (by decide)))) DL.v_nil))))))) DL.v_nil)))))
    (DL.s_one (DL.s_ret DL.v_bl))
    DL.s_nil)
    (DL.s_cons (DL.s_if (DL.t_flatI 1 fun en_h8 h8 => (DL.t_w (DL.w_or (DL.t_ne hu64 (DL.v_callB (cr_repr1 hr.gd hu64) fits_repr1 mono_repr1 boot_repr T.m_repr (DL.v_cons (DL.v_var 6 (hio := (nio h8 (by decide)))) DL.v_nil)) (DL.v_var 8 (hio := (nio h8 (by decide))))) (DL.w_or1 (DL.t_not (DL.t_val (DL.v_callI (R := R0) C__law_refused_right M__law_refused_right (hr.mono (by decide)) takesR0 (DL.i_here 1 (DL.v_cons (DL.v_var 5 (hio := (nio h8 (by decide)))) (DL.v_cons (DL.v_var 3 (hio := (nio h8 (by decide)))) (DL.v_cons (DL.v_var 6 (hio := (nio h8 (by decide)))) DL.v_nil)))))))))))
    (DL.s_one (DL.s_ret DL.v_bl))
    DL.s_nil)
    (DL.s_cons (DL.s_put 6 hu (DL.v_ix hu (DL.v_var 3 (hio := (nio hI (by decide)))) DL.v_int) (DL.v_flat fun en_h9 h9 => (DL.v_add (DL.v_ix hu (DL.v_var 6 (hio := (nio h9 (by decide)))) (DL.v_ix hu (DL.v_var 3 (hio := (nio h9 (by decide)))) DL.v_int)) DL.v_int)))
    (DL.s_one (DL.s_if (DL.t_flat fun en_h10 h10 => (DL.t_not (DL.t_val (DL.v_call (R := R0) C__law_all_right M__law_all_right (hr.mono (by decide)) takesR0 (DL.v_cons (DL.v_var 5 (hio := (nio h10 (by decide)))) (DL.v_cons (DL.v_var 3 (hio := (nio h10 (by decide)))) (DL.v_cons (DL.v_var 4 (hio := (nio h10 (by decide)))) (DL.v_cons (DL.v_var 6 (hio := (nio h10 (by decide)))) DL.v_nil))))))))
    (DL.s_one (DL.s_ret DL.v_bl))
    DL.s_nil)))))))))))
    (DL.s_one (DL.s_ret DL.v_bl))))
end K06

/-! DX: the readings as rewriting rules (simp, from the head). -/
namespace DL
open PySem PySem.Spec PyProof.Rows L2
/-- no lambdas, where nothing else is said -/
instance (priority := low) lam0 : LamT := ⟨[]⟩

section
variable {A : DE} {ρ : DSt} {Q : Sl → DSt → Prop} {QB : Bool → DSt → Prop} {QL : List D → DSt → Prop} {t u : TSd} {te ta tb tc tk tv : TO} {tl : TDs} {ub uc : TB} {i j l m : Nat} {k : Sl → Prop}
@[simp↓] theorem xSeq : dSeq t u A ρ = t { A with nx := u A } ρ := rfl
@[simp↓] theorem xNext : dNext A ρ = A.nx ρ := rfl
@[simp↓] theorem xBreak : dBreak A ρ = A.bk ρ := rfl
@[simp↓] theorem xCont : dCont A ρ = A.ct ρ := rfl
@[simp↓] theorem xExpr : dExpr te A ρ = te ρ fun _ ρ' => A.nx ρ' := rfl
@[simp↓] theorem xRet : dRet te A ρ = te ρ A.rt := rfl
@[simp↓] theorem xIf : dIf ub t u A ρ = ub ρ fun b ρ1 => if b = true then t A ρ1 else u A ρ1 := rfl
@[simp↓] theorem xSet : dSet i te A ρ = te ρ fun s ρ' => A.nx (ρ'.set i (some s)) := rfl
@[simp↓] theorem xPar2 : dPar2 i j ta tb A ρ = ta ρ fun s1 ρ1 => tb ρ1 fun s2 ρ2 => A.nx ((ρ2.set i (some s1)).set j (some s2)) := rfl
@[simp↓] theorem xPar3 : dPar3 i j l ta tb tc A ρ = ta ρ fun s1 ρ1 => tb ρ1 fun s2 ρ2 => tc ρ2 fun s3 ρ3 => A.nx (((ρ3.set i (some s1)).set j (some s2)).set l (some s3)) := rfl
@[simp↓] theorem xAsg {g : TGd} : dAsg te g A ρ = te ρ fun s ρ1 => g s.2 ρ1 A.nx := rfl
@[simp↓] theorem xNever : dNever A ρ = False := rfl
@[simp↓] theorem xFor {ti : TDs} {g : TGd} : dFor ti g t A ρ = ti ρ fun xs ρ1 => dForL g t A xs ρ1 := rfl
@[simp↓] theorem xForNil {g : TGd} : dForL g t A [] ρ = A.nx ρ := rfl
theorem xForCons {g : TGd} {x : D} {xs : List D} : dForL g t A (x :: xs) ρ = g x ρ fun ρ1 => t { nx := dForL g t A xs, ct := dForL g t A xs, bk := A.nx, rt := A.rt } ρ1 := rfl
@[simp↓] theorem xVar : dVar i ρ Q = match ρ[i]? with
    | some (some s) => Q (0, s.2) (ρ.set i (some (0, s.2)))
    | _ => False := by
  unfold dVar
  cases e : ρ[i]? with
  | none => simp
  | some o =>
    cases o with
    | none => simp
    | some s =>
      apply propext
      constructor
      · intro ⟨n, d, h, q⟩
        cases h
        exact q
      · exact fun q => ⟨s.1, s.2, rfl, q⟩
@[simp↓] theorem xC {d : D} : dC d ρ Q = Q (0, d) ρ := rfl
@[simp↓] theorem xU {g : W1} : dU g ta ρ Q = ta ρ fun x ρ1 => g x.2 fun s => Q s ρ1 := rfl
@[simp↓] theorem xB {g : W2} : dB g ta tb ρ Q = ta ρ fun x ρ1 => tb ρ1 fun y ρ2 => g x.2 y.2 fun s => Q s ρ2 := rfl
@[simp↓] theorem xL {g : WL} : dL g tl ρ Q = tl ρ fun x ρ1 => g x fun s => Q s ρ1 := rfl
@[simp↓] theorem xNil : dNil ρ QL = QL [] ρ := rfl
@[simp↓] theorem xCons : dCons ta tl ρ QL = ta ρ fun x ρ1 => tl ρ1 fun xs ρ2 => QL (x.2 :: xs) ρ2 := rfl
@[simp↓] theorem xT : dT ta ρ QB = ta ρ fun s ρ' => match s.2 with
    | .bl b => QB b ρ'
    | _ => False := by
  unfold dT
  congr
  funext s ρ'
  apply propext
  constructor
  · intro ⟨b, h, q⟩
    rw [h]
    exact q
  · intro q
    cases h : s.2 with
    | bl b => rw [h] at q; exact ⟨b, rfl, q⟩
    | _ => rw [h] at q; exact q.elim
@[simp↓] theorem xNot : dNot ub ρ QB = ub ρ fun b ρ' => QB (!b) ρ' := rfl
@[simp↓] theorem xAnd : dAnd ub uc ρ QB = ub ρ fun b ρ1 => if b = true then uc ρ1 QB else QB false ρ1 := rfl
@[simp↓] theorem xOr : dOr ub uc ρ QB = ub ρ fun b ρ1 => if b = true then QB true ρ1 else uc ρ1 QB := rfl
@[simp↓] theorem xIfV : dIfV ub ta tb ρ Q = ub ρ fun c ρ1 => if c = true then ta ρ1 Q else tb ρ1 Q := rfl
@[simp↓] theorem xAndV : dAndV ta tb ρ Q = ta ρ fun x ρ1 => match x.2 with
    | .bl c => if c = true then tb ρ1 Q else Q (0, .bl false) ρ1
    | _ => False := by
  unfold dAndV
  congr
  funext x ρ1
  apply propext
  constructor
  · intro ⟨b, h, q⟩
    rw [h]
    exact q
  · intro q
    cases h : x.2 with
    | bl b => rw [h] at q; exact ⟨b, rfl, q⟩
    | _ => rw [h] at q; exact q.elim
@[simp↓] theorem xOrV : dOrV ta tb ρ Q = ta ρ fun x ρ1 => match x.2 with
    | .bl c => if c = true then Q (0, .bl true) ρ1 else tb ρ1 Q
    | _ => False := by
  unfold dOrV
  congr
  funext x ρ1
  apply propext
  constructor
  · intro ⟨b, h, q⟩
    rw [h]
    exact q
  · intro q
    cases h : x.2 with
    | bl b => rw [h] at q; exact ⟨b, rfl, q⟩
    | _ => rw [h] at q; exact q.elim
@[simp↓] theorem xNotV : dNotV ta ρ Q = ta ρ fun x ρ1 => match x.2 with
    | .bl c => Q (0, .bl (!c)) ρ1
    | _ => False := by
  unfold dNotV
  congr
  funext x ρ1
  apply propext
  constructor
  · intro ⟨b, h, q⟩
    rw [h]
    exact q
  · intro q
    cases h : x.2 with
    | bl b => rw [h] at q; exact ⟨b, rfl, q⟩
    | _ => rw [h] at q; exact q.elim
@[simp↓] theorem xFlat : dFlat ta ρ Q = ta (frz ρ) fun s _ => flatD s.2 = true ∧ Q (0, s.2) ρ := rfl
@[simp↓] theorem xFlatB : dFlatB ub ρ QB = ub (frz ρ) fun b _ => QB b ρ := rfl
@[simp] theorem xfrzNil : frz [] = [] := rfl
@[simp] theorem xfrzCons {s : Sl} {r : DSt} : frz (some s :: r) = some (0, s.2) :: frz r := rfl
@[simp] theorem xfrzNone {r : DSt} : frz (none :: r) = none :: frz r := rfl
theorem xfrzOpt {o : Option Sl} {r : DSt} : frz (o :: r) = (o.map fun s => (0, s.2)) :: frz r := by cases o <;> rfl
@[simp] theorem flat_non : flatD .non = true := rfl
@[simp] theorem flat_bl {b : Bool} : flatD (.bl b) = true := rfl
@[simp] theorem flat_int {b : Int} : flatD (.int b) = true := rfl
@[simp] theorem flat_str {b : Str} : flatD (.str b) = true := rfl
@[simp↓] theorem xgN {d : D} {K : DSt → Prop} : gN i d ρ K = K (ρ.set i (some (0, d))) := rfl
@[simp↓] theorem xgNil {K : DSt → Prop} : gNil [] ρ K = K ρ := by simp [gNil]
@[simp↓] theorem xgCons {g : TGd} {gs : TGsd} {d : D} {ds : List D} {K : DSt → Prop} : gCons g gs (d :: ds) ρ K = g d ρ fun ρ' => gs ds ρ' K := by
  apply propext
  constructor
  · intro ⟨d', r, e, h⟩
    cases e
    exact h
  · exact fun h => ⟨d, ds, rfl, h⟩
@[simp↓] theorem xgTup {n : Nat} {gs : TGsd} {ds : List D} {K : DSt → Prop} : dTup n gs (.tup ds) ρ K = (ds.length = n ∧ gs ds ρ K) := by
  apply propext
  constructor
  · intro ⟨d', e, h⟩
    cases e
    exact h
  · exact fun h => ⟨ds, rfl, h⟩
@[simp↓] theorem xSeqI : dSeqI te ρ QL = te ρ fun s ρ1 => match seqD s.2 with
    | some xs => QL xs ρ1
    | none => False := by
  unfold dSeqI
  congr
  funext s ρ1
  apply propext
  constructor
  · intro ⟨xs, h, q⟩
    rw [h]
    exact q
  · intro q
    cases h : seqD s.2 with
    | some b => rw [h] at q; exact ⟨b, rfl, q⟩
    | none => rw [h] at q; exact q.elim
@[simp] theorem seq_lst {xs : List D} : seqD (.lst xs) = some xs := rfl
@[simp] theorem seq_tup {xs : List D} : seqD (.tup xs) = some xs := rfl
@[simp↓] theorem xRange1 : dRange1 tl ρ QL = tl ρ fun ds ρ1 => ∃ j : Int, ds = [.int j] ∧ -(2 ^ 62) ≤ j ∧ j < 2 ^ 62 ∧ QL (rangeD 0 j.toNat) ρ1 := rfl
@[simp↓] theorem xWalk {w : List (Key × D) → List D} : dWalk w te ρ QL = te ρ fun s ρ1 => match s.2 with
    | .dic kvs => QL (w kvs) ρ1
    | _ => False := by
  unfold dWalk
  congr
  funext s ρ1
  apply propext
  constructor
  · intro ⟨xs, h, q⟩
    rw [h]
    exact q
  · intro q
    cases h : s.2 with
    | dic b => rw [h] at q; exact ⟨b, rfl, q⟩
    | _ => rw [h] at q; exact q.elim
@[simp↓] theorem xLc {vs : List Nat} {ti : TDs} {g : TGd} : dLc vs ti g ub te ρ Q = ti ρ fun xs ρ1 => xs.length ≤ sizeLine ∧ dLcL vs g ub te (fun acc ρ' => Q (1, .lst acc) ρ') xs [] (wipeD ρ1 vs) := rfl
@[simp↓] theorem xDc {vs : List Nat} {ti : TDs} {g : TGd} : dDc m vs ti g ub tk tv ρ Q = ti ρ fun xs ρ1 => xs.length ≤ sizeLine ∧ dDcL m vs g ub tk tv (fun acc ρ' => Q (m + 1, .dic acc) ρ') xs [] (wipeD ρ1 vs) := rfl
@[simp↓] theorem xYes : dYes ρ QB = QB true ρ := rfl
@[simp] theorem xwipeNil : wipeD ρ [] = ρ := rfl
@[simp] theorem xwipeCons {v : Nat} {vs : List Nat} : wipeD ρ (v :: vs) = (wipeD ρ vs).set v none := rfl
@[simp] theorem fzNil : fz [] = [] := rfl
@[simp] theorem fzCons {d : D} {ds : List D} : fz (d :: ds) = (0, d) :: fz ds := rfl
/-! operators -/
@[simp↓] theorem xAddI {a b : Int} : wAdd (.int a) (.int b) k = k (0, .int (a + b)) := rfl
@[simp↓] theorem xAddL {a b : List D} : wAdd (.lst a) (.lst b) k = (a.length + b.length ≤ sizeLine ∧ k (1, .lst (a ++ b))) := rfl
@[simp↓] theorem xAddS {a b : Str} : wAdd (.str a) (.str b) k = (a.length + b.length ≤ sizeLine ∧ k (0, .str (a ++ b))) := rfl
@[simp↓] theorem xI {C : Int → Int → Prop} {g : Int → Int → D} {a b : Int} : wI C g (.int a) (.int b) k = (C a b ∧ k (0, g a b)) := rfl
@[simp↓] theorem xI0 {g : Int → Int → D} {a b : Int} : wI0 g (.int a) (.int b) k = k (0, g a b) := rfl
@[simp↓] theorem xNeg {a : Int} : wNeg (.int a) k = k (0, .int (-a)) := rfl
@[simp↓] theorem xOrdI {pi : Int → Int → Bool} {ps : Str → Str → Bool} {a b : Int} : wOrd pi ps (.int a) (.int b) k = k (0, .bl (pi a b)) := rfl
@[simp↓] theorem xOrdS {pi : Int → Int → Bool} {ps : Str → Str → Bool} {a b : Str} : wOrd pi ps (.str a) (.str b) k = k (0, .bl (ps a b)) := rfl
@[simp↓] theorem xIxL {xs : List D} {a : Int} : wIx (.lst xs) (.int a) k = match atI xs a with
    | some d => k (0, d)
    | none => False := by
  apply propext
  constructor
  · intro ⟨i, d, e, h, q⟩
    cases e
    rw [h]
    exact q
  · intro q
    cases h : atI xs a with
    | some d => rw [h] at q; exact ⟨a, d, rfl, h, q⟩
    | none => rw [h] at q; exact q.elim
@[simp↓] theorem xIxT {xs : List D} {a : Int} : wIx (.tup xs) (.int a) k = match atI xs a with
    | some d => k (0, d)
    | none => False := by
  apply propext
  constructor
  · intro ⟨i, d, e, h, q⟩
    cases e
    rw [h]
    exact q
  · intro q
    cases h : atI xs a with
    | some d => rw [h] at q; exact ⟨a, d, rfl, h, q⟩
    | none => rw [h] at q; exact q.elim
@[simp↓] theorem xIxDS {kvs : List (Key × D)} {a : Str} : wIx (.dic kvs) (.str a) k = match valD kvs (.inr a) with
    | some d => k (0, d)
    | none => False := by
  apply propext
  constructor
  · intro ⟨q, d, e, h, r⟩
    cases e
    rw [h]
    exact r
  · intro q
    cases h : valD kvs (.inr a) with
    | some d => rw [h] at q; exact ⟨_, d, rfl, h, q⟩
    | none => rw [h] at q; exact q.elim
theorem atI_nat {α : Type} {xs : List α} {n : Nat} (h : n < xs.length) : atI xs ((n : Nat) : Int) = xs[n]? := by
  unfold atI ixN
  simp [h]
@[simp] theorem atI0 {α : Type} {x : α} {xs : List α} : atI (x :: xs) 0 = some x := by simp [atI, ixN]
@[simp] theorem atI1 {α : Type} {x y : α} {xs : List α} : atI (x :: y :: xs) 1 = some y := by
  have := atI_nat (xs := x :: y :: xs) (n := 1) (by simp)
  simpa using this
@[simp] theorem atI2 {α : Type} {x y z : α} {xs : List α} : atI (x :: y :: z :: xs) 2 = some z := by
  have := atI_nat (xs := x :: y :: z :: xs) (n := 2) (by simp)
  simpa using this
@[simp] theorem atI3 {α : Type} {x y z w : α} {xs : List α} : atI (x :: y :: z :: w :: xs) 3 = some w := by
  have := atI_nat (xs := x :: y :: z :: w :: xs) (n := 3) (by simp)
  simpa using this
/-! methods, stores -/
@[simp↓] theorem xPutIx : dPutIx i j te A ρ = match ρ[i]? with
    | some (some (m + 1, .lst ds)) => (match ds[j]? with
      | some d0 => flatD d0 = true ∧ te (frz ρ) fun s _ => flatD s.2 = true ∧ A.nx (ρ.set i (some (m + 1, .lst (ds.set j s.2))))
      | none => False)
    | _ => False := by
  unfold dPutIx
  apply propext
  constructor
  · intro ⟨m, ds, d0, h1, h2, h3, h4⟩
    rw [h1]
    simp only [h2]
    exact ⟨h3, h4⟩
  · intro q
    split at q
    · rename_i m ds h1
      cases h2 : ds[j]? with
      | none => rw [h2] at q; exact q.elim
      | some d0 => rw [h2] at q; exact ⟨m, ds, d0, h1, h2, q.1, q.2⟩
    · exact q.elim
@[simp↓] theorem xMake {C : Addr} {sp : SpD} {R : RX} : dMake C sp tl R ρ Q = tl ρ fun ds ρ1 => sp ((1, .ins C []) :: fz ds) (fun r out => r.2 = .non ∧ Q out ρ1) fun x => R x ρ1 := rfl
@[simp↓] theorem xCall {sp : SpD} {R : RX} : dCall sp tl R ρ Q = tl ρ fun ds ρ1 => sp (fz ds) (fun r _ => Q r ρ1) fun x => R x ρ1 := rfl
@[simp↓] theorem xCallI {sp : SpD} {R : RX} {p : Nat} : dCallI sp i p tl R ρ Q = tl ρ fun ds ρ1 => match ρ1[i]? with
    | some (some s) => sp ((fz ds).set p s) (fun r out => Q r (ρ1.set i (some out))) fun x => R x (ρ1.set i none)
    | _ => False := by
  unfold dCallI
  congr
  funext ds ρ1
  apply propext
  constructor
  · intro ⟨s, h, q⟩
    rw [h]
    exact q
  · intro q
    cases h : ρ1[i]? with
    | none => rw [h] at q; exact q.elim
    | some o =>
      cases o with
      | none => rw [h] at q; exact q.elim
      | some s => rw [h] at q; exact ⟨s, rfl, q⟩
@[simp↓] theorem xHere : dHere i tl ρ QL = ((∃ s, ρ[i]? = some (some s)) ∧ tl ρ fun ds ρ' => QL (.non :: ds) ρ') := rfl
@[simp↓] theorem xFld {C : Addr} {f : Str} : dFld C f ta ρ Q = ta ρ fun s ρ1 => ∃ fs d, s.2 = .ins C fs ∧ fs.lookup f = some d ∧ Q (0, d) ρ1 := rfl
@[simp↓] theorem xRev2 : dRev2 te ρ Q = te ρ fun s ρ1 => ∃ a b, s.2 = .tup [a, b] ∧ Q (0, .tup [b, a]) ρ1 := rfl
/-! comparisons -/
section
variable {n : Bool}
@[simp↓] theorem xEqI {a b : Int} : wEqB n (.int a) (.int b) k = k (0, .bl (n ^^ decide (a = b))) := by simp [wEqB, scalD, eqSc]
@[simp↓] theorem xEqS {a b : Str} : wEqB n (.str a) (.str b) k = k (0, .bl (n ^^ decide (a = b))) := by simp [wEqB, scalD, eqSc]
@[simp↓] theorem xEqB {a b : Bool} : wEqB n (.bl a) (.bl b) k = k (0, .bl (n ^^ decide (a = b))) := by simp [wEqB, scalD, eqSc]
@[simp↓] theorem xEqNil {xs : List D} : wEqB n (.lst xs) (.lst []) k = k (0, .bl (n ^^ xs.isEmpty)) := by
  have e : (xs.length == 0) = xs.isEmpty := by cases xs <;> rfl
  simp [wEqB, scalD, okL, eqL, e]
/-- lists of texts -/
theorem eqFl_str {a b : Str} : eqFl (.str a) (.str b) = (a == b) := rfl
theorem beq_eq_decide (x y : Str) : (x == y) = decide (x = y) := by
  by_cases e : x = y
  · subst e; simp
  · rw [decide_eq_false e]
    exact beq_eq_false_iff_ne.mpr e
theorem xEqLS {xs ys : List Str} : wEqB n (.lst (xs.map D.str)) (.lst (ys.map D.str)) k = k (0, .bl (n ^^ decide (xs = ys))) := by
  have ok : okL (.lst (xs.map D.str)) (.lst (ys.map D.str)) = true := by
    simp only [okL, Bool.or_eq_true]
    right
    rw [List.all_eq_true]
    intro p hp
    obtain ⟨h1, h2⟩ := List.of_mem_zip (a := p.1) (b := p.2) hp
    obtain ⟨a, _, e⟩ := List.mem_map.mp h1
    obtain ⟨b, _, e'⟩ := List.mem_map.mp h2
    rw [← e, ← e']
    rfl
  have e : eqL (.lst (xs.map D.str)) (.lst (ys.map D.str)) = decide (xs = ys) := by
    simp only [eqL]
    clear ok
    induction xs generalizing ys with
    | nil => cases ys <;> simp
    | cons x xs ih =>
      cases ys with
      | nil => simp
      | cons y ys =>
        have := ih (ys := ys)
        simp only [List.map_cons, List.length_cons, List.zip_cons_cons, List.all_cons, List.cons.injEq]
        have e1 : (xs.length + 1 == ys.length + 1) = (xs.length == ys.length) := by simp
        simp only [List.length_map] at this ⊢
        rw [e1]
        have e2 : ((xs.length == ys.length) && (eqFl (.str x) (.str y) && ((xs.map D.str).zip (ys.map D.str)).all fun p => eqFl p.1 p.2)) = (eqFl (.str x) (.str y) && ((xs.length == ys.length) && ((xs.map D.str).zip (ys.map D.str)).all fun p => eqFl p.1 p.2)) := by
          cases (xs.length == ys.length) <;> cases eqFl (.str x) (.str y) <;> rfl
        rw [e2, this]
        show ((x == y) && decide (xs = ys)) = _
        rw [Bool.decide_and]
        congr 1
  simp only [wEqB, scalD, ok, e]
  rfl
@[simp↓] theorem xInD {x : Str} {kvs : List (Key × D)} : wInB n (.str x) (.dic kvs) k = k (0, .bl (n ^^ (valD kvs (.inr x)).isSome)) := by
  apply propext
  constructor
  · intro ⟨q, h, h2⟩
    cases h
    exact h2
  · exact fun h => ⟨_, rfl, h⟩
theorem xInLS {x : Str} {xs : List Str} : wInB n (.str x) (.lst (xs.map D.str)) k = k (0, .bl (n ^^ decide (x ∈ xs))) := by
  have h1 : (pyFlat (.str x) && (xs.map D.str).all pyFlat) = true := by
    simp only [Bool.and_eq_true, List.all_eq_true]
    refine ⟨rfl, fun d hd => ?_⟩
    obtain ⟨y, _, e⟩ := List.mem_map.mp hd
    subst e
    rfl
  have h2 : ((xs.map D.str).any fun z => eqFl z (.str x)) = decide (x ∈ xs) := by
    rw [List.any_map]
    have : (fun z => eqFl z (D.str x)) ∘ D.str = fun y => y == x := rfl
    rw [this]
    clear h1 this
    induction xs with
    | nil => simp
    | cons y ys ih =>
      rw [List.any_cons, ih, show (y == x) = decide (x = y) from by rw [beq_eq_decide]; simp [eq_comm]]
      simp
  simp only [wInB, h1, h2]
  rfl
@[simp↓] theorem xInStr {c : Nat} {z : Str} : wInB n (.str ⟨#[c]⟩) (.str z) k = k (0, .bl (n ^^ decide (c ∈ z.cps.toList))) := by
  apply propext
  constructor
  · intro ⟨q, h, h2⟩
    cases h
    exact h2
  · exact fun h => ⟨_, rfl, h⟩
@[simp↓] theorem xIsN {d : D} : wIsN n d k = match isNonD d with
    | some b => k (0, .bl (n ^^ b))
    | none => False := by
  unfold wIsN
  apply propext
  constructor
  · intro ⟨b, h, q⟩
    rw [h]
    exact q
  · intro q
    cases h : isNonD d with
    | some b => rw [h] at q; exact ⟨b, rfl, q⟩
    | none => rw [h] at q; exact q.elim
@[simp] theorem isN_non : isNonD .non = some true := rfl
@[simp] theorem isN_str {a : Str} : isNonD (.str a) = some false := rfl
@[simp] theorem isN_int {a : Int} : isNonD (.int a) = some false := rfl
@[simp↓] theorem xIsB {a b : Bool} : wIsB n (.bl a) (.bl b) k = k (0, .bl (n ^^ decide (a = b))) := by
  apply propext
  constructor
  · intro ⟨a', b', h, h', q⟩
    cases h
    cases h'
    exact q
  · exact fun h => ⟨a, b, rfl, rfl, h⟩
end
/-! what is built in -/
theorem pex {α : Type} {P : α → Prop} {a : α} {f : α → D} (hf : ∀ x, f x = f a → x = a) : (∃ x, f x = f a ∧ P x) = P a := by
  apply propext
  constructor
  · intro ⟨x, h, p⟩
    rw [hf x h] at p
    exact p
  · exact fun p => ⟨a, rfl, p⟩
@[simp↓] theorem xInt1 {a : Int} : wInt1 [.int a] k = k (0, .int a) := by
  apply propext
  constructor
  · rintro (⟨i, h, q⟩ | ⟨i, h, q⟩)
    · cases h; exact q
    · cases h
  · exact fun h => .inl ⟨a, rfl, h⟩
@[simp↓] theorem xInt1B {a : Bool} : wInt1 [.bl a] k = k (0, .int (if a then 1 else 0)) := by
  apply propext
  constructor
  · rintro (⟨i, h, q⟩ | ⟨i, h, q⟩)
    · cases h
    · cases h; exact q
  · exact fun h => .inr ⟨a, rfl, h⟩
@[simp↓] theorem xLenL {xs : List D} : wLen [.lst xs] k = k (0, .int xs.length) := by
  apply propext
  constructor
  · intro ⟨d, n, h, h2, _, q⟩
    cases h
    cases h2
    exact q
  · exact fun h => ⟨_, _, rfl, rfl, (fun _ e => by cases e), h⟩
@[simp↓] theorem xLenT {xs : List D} : wLen [.tup xs] k = k (0, .int xs.length) := by
  apply propext
  constructor
  · intro ⟨d, n, h, h2, _, q⟩
    cases h
    cases h2
    exact q
  · exact fun h => ⟨_, _, rfl, rfl, (fun _ e => by cases e), h⟩
@[simp↓] theorem xLenD {xs : List (Key × D)} : wLen [.dic xs] k = k (0, .int xs.length) := by
  apply propext
  constructor
  · intro ⟨d, n, h, h2, _, q⟩
    cases h
    cases h2
    exact q
  · exact fun h => ⟨_, _, rfl, rfl, (fun _ e => by cases e), h⟩
@[simp↓] theorem xLenS {x : Str} : wLen [.str x] k = (x.length ≤ sizeLine ∧ k (0, .int x.length)) := by
  apply propext
  constructor
  · intro ⟨d, n, h, h2, h3, q⟩
    cases h
    cases h2
    exact ⟨h3 _ rfl, q⟩
  · exact fun h => ⟨_, _, rfl, rfl, (fun _ e => by cases e; exact h.1), h.2⟩
@[simp↓] theorem xListL {xs : List D} : wList [.lst xs] k = k (1, .lst xs) := by
  apply propext
  constructor
  · intro ⟨d, n, h, h2, q⟩
    cases h
    cases h2
    exact q
  · exact fun h => ⟨_, _, rfl, rfl, h⟩
@[simp↓] theorem xLst {xs : List D} : wLst xs k = (xs.length ≤ sizeLine ∧ k (1, .lst xs)) := rfl
@[simp↓] theorem xTup {xs : List D} : wTup xs k = (xs.length ≤ sizeLine ∧ k (0, .tup xs)) := rfl
@[simp↓] theorem xMax2 {a b : Int} : wMax2 [.int a, .int b] k = k (0, .int (if b > a then b else a)) := by
  apply propext
  constructor
  · intro ⟨i, j, h, q⟩
    cases h
    exact q
  · exact fun h => ⟨a, b, rfl, h⟩
@[simp↓] theorem xAppend {ds : List D} {d : D} {K : Sl → List D → Prop} : opAppend ds [d] K = (ds.length < sizeLine ∧ K (0, .non) (ds ++ [d])) := by
  apply propext
  constructor
  · intro ⟨d', h, h2⟩
    cases h
    exact h2
  · exact fun h => ⟨d, rfl, h⟩
@[simp↓] theorem xMutL {op : List D → List D → (Sl → List D → Prop) → Prop} : dMutL i tl op ρ Q = match ρ[i]? with
    | some (some (n + 1, .lst ds)) => tl ρ fun as ρ1 => (match ρ1[i]? with
      | some (some (1, .lst ds)) => op ds as fun s ds' => Q s (ρ1.set i (some (1, .lst ds')))
      | _ => False)
    | _ => False := by
  unfold dMutL
  have e : (fun (as : List D) (ρ1 : DSt) => ∃ ds, ρ1[i]? = some (some (1, D.lst ds)) ∧ op ds as fun s ds' => Q s (ρ1.set i (some (1, .lst ds')))) = fun as ρ1 => match ρ1[i]? with
      | some (some (1, .lst ds)) => op ds as fun s ds' => Q s (ρ1.set i (some (1, .lst ds')))
      | _ => False := by
    funext as ρ1
    apply propext
    constructor
    · intro ⟨ds, h1, h2⟩
      rw [h1]
      exact h2
    · intro q
      split at q
      · rename_i ds h1
        exact ⟨ds, h1, q⟩
      · exact q.elim
  rw [e]
  apply propext
  constructor
  · intro ⟨n, ds, h1, h2⟩
    rw [h1]
    exact h2
  · intro q
    split at q
    · rename_i n ds h1
      exact ⟨n, ds, h1, q⟩
    · exact q.elim
@[simp↓] theorem xPopIx : dPopIx i j ρ Q = match ρ[i]? with
    | some (some (2, .lst ds)) => (match ds[j]? with
      | some (.lst (d :: cs)) => Q (0, d) (ρ.set i (some (2, .lst (ds.set j (.lst cs)))))
      | _ => False)
    | _ => False := by
  unfold dPopIx
  apply propext
  constructor
  · intro ⟨ds, d, cs, h1, h2, h3⟩
    rw [h1]
    simp only [h2]
    exact h3
  · intro q
    split at q
    · rename_i ds h1
      split at q
      · rename_i d cs h2
        exact ⟨ds, d, cs, h1, h2, q⟩
      · exact q.elim
    · exact q.elim
theorem xLcNil {vs : List Nat} {g : TGd} {K : List D → DSt → Prop} {acc : List D} : dLcL vs g ub te K [] acc ρ = K acc ρ := rfl
theorem xLcCons {vs : List Nat} {g : TGd} {K : List D → DSt → Prop} {acc xs : List D} {x : D} : dLcL vs g ub te K (x :: xs) acc ρ = g x ρ fun ρ1 => ub ρ1 fun b ρ2 => if b = true then te ρ2 fun s ρ3 => dLcL vs g ub te K xs (acc ++ [s.2]) (wipeD ρ3 vs) else dLcL vs g ub te K xs acc (wipeD ρ2 vs) := rfl
theorem xDcNil {vs : List Nat} {g : TGd} {K : List (Key × D) → DSt → Prop} {acc : List (Key × D)} : dDcL m vs g ub tk tv K [] acc ρ = K acc ρ := rfl
theorem xDcCons {vs : List Nat} {g : TGd} {K : List (Key × D) → DSt → Prop} {acc : List (Key × D)} {xs : List D} {x : D} : dDcL m vs g ub tk tv K (x :: xs) acc ρ = g x ρ fun ρ1 => ub ρ1 fun b ρ2 =>
    if b = true then tk ρ2 fun sk ρ3 => tv ρ3 fun sv ρ4 => ∃ q, keyD sk.2 = some q ∧ (m = 0 ∨ (sv.1 = m ∧ valD acc q = none)) ∧ dDcL m vs g ub tk tv K xs (putD acc q sv.2) (wipeD ρ4 vs) else dDcL m vs g ub tk tv K xs acc (wipeD ρ2 vs) := rfl
theorem rangeD_len {i : Int} {n : Nat} : (rangeD i n).length = n := by simp [rangeD]
/-- pop at a place within -/
theorem xPopAt {ds : List D} {i : Nat} {K : Sl → List D → Prop} (h : i < ds.length) (hs : ds.length < 2 ^ 63) (k : K (0, ds[i]) (ds.eraseIdx i)) : opPopAt ds [.int ((i : Nat) : Int)] K :=
  ⟨(i : Nat), rfl, by omega, by omega, i, ds[i], by rw [seqIndex_of (by omega) (by omega)]; simp, List.getElem?_eq_getElem h, k⟩
@[simp↓] theorem xSlice {tl th : DSt → (Option Int → DSt → Prop) → Prop} : dSlice ta tl th ρ Q = ta ρ fun x ρ1 => tl ρ1 fun lo ρ2 => th ρ2 fun hi ρ3 => match x.2 with
    | .lst xs => Q (1, .lst (cutD xs lo hi)) ρ3
    | _ => False := by
  unfold dSlice
  congr
  funext x ρ1
  congr
  funext lo ρ2
  congr
  funext hi ρ3
  apply propext
  constructor
  · intro ⟨b, h, q⟩
    rw [h]
    exact q
  · intro q
    cases h : x.2 with
    | lst b => rw [h] at q; exact ⟨b, rfl, q⟩
    | _ => rw [h] at q; exact q.elim
@[simp↓] theorem xNoPart {K : Option Int → DSt → Prop} : dNoPart ρ K = K none ρ := rfl
@[simp↓] theorem xPart {K : Option Int → DSt → Prop} : dPart ta ρ K = ta ρ fun s ρ' => match s.2 with
    | .int i => K (some i) ρ'
    | _ => False := by
  unfold dPart
  congr
  funext s ρ'
  apply propext
  constructor
  · intro ⟨b, h, q⟩
    rw [h]
    exact q
  · intro q
    cases h : s.2 with
    | int b => rw [h] at q; exact ⟨b, rfl, q⟩
    | _ => rw [h] at q; exact q.elim
theorem cut_to {xs : List D} {n : Nat} : cutD xs none (some ((n : Nat) : Int)) = xs.take n := by
  unfold cutD
  rw [HT.sIx_none, HT.sIx_nat, List.drop_zero, Nat.sub_zero]
  rcases Nat.le_total n xs.length with h | h
  · rw [Nat.min_eq_left h]
  · rw [Nat.min_eq_right h, List.take_length, List.take_of_length_le h]
theorem cut_from {xs : List D} {n : Nat} : cutD xs (some ((n : Nat) : Int)) none = (xs.drop n) := by
  unfold cutD
  rw [HT.sIx_none, HT.sIx_nat]
  rcases Nat.le_total n xs.length with h | h
  · rw [Nat.min_eq_left h, List.take_of_length_le (by simp)]
  · rw [Nat.min_eq_right h, List.drop_eq_nil_of_le h, List.drop_length]
    simp
@[simp↓] theorem xRange2 : dRange2 tl ρ QL = tl ρ fun ds ρ1 => ∃ i j : Int, ds = [.int i, .int j] ∧ (-(2 ^ 62) ≤ i ∧ i < 2 ^ 62 ∧ -(2 ^ 62) ≤ j ∧ j < 2 ^ 62) ∧ QL (rangeD i (j - i).toNat) ρ1 := rfl
theorem perm_map {α β : Type} {f : α → β} : ∀ {ys zs : List β}, ys.Perm zs → ∀ {l : List α}, zs = l.map f → ∃ l' : List α, l'.Perm l ∧ ys = l'.map f := by
  intro ys zs p
  induction p with
  | nil => intro l h; exact ⟨[], by rw [List.map_eq_nil_iff.mp h.symm], rfl⟩
  | cons x _ ih =>
    intro l h
    obtain ⟨a, l1, rfl, ea, el⟩ := List.map_eq_cons_iff.mp h.symm
    obtain ⟨l', h1, h2⟩ := ih el.symm
    exact ⟨a :: l', h1.cons a, by rw [h2, ← ea]; rfl⟩
  | swap x y l =>
    intro l0 h
    obtain ⟨a, l1, rfl, ea, el⟩ := List.map_eq_cons_iff.mp h.symm
    obtain ⟨b, l2, rfl, eb, el2⟩ := List.map_eq_cons_iff.mp el
    exact ⟨b :: a :: l2, List.Perm.swap _ _ _, by rw [← ea, ← eb, ← el2]; rfl⟩
  | trans _ _ ih1 ih2 =>
    intro l h
    obtain ⟨l', h1, h2⟩ := ih2 h
    obtain ⟨l'', h3, h4⟩ := ih1 h2
    exact ⟨l'', h3.trans h1, h4⟩
@[simp↓] theorem xIsi {d : D} {b : String} : wIsi [d, .opq (.ty b)] k = match tyD d with
    | some a => b ∈ tysB ∧ k (0, .bl (isTy a b))
    | none => False := by
  apply propext
  constructor
  · intro ⟨d', b', a, h, h1, h2, q⟩
    simp only [List.cons.injEq, D.opq.injEq, V.ty.injEq, and_true] at h
    obtain ⟨e1, e2⟩ := h
    subst e1 e2
    rw [h2]
    exact ⟨h1, q⟩
  · intro q
    cases h : tyD d with
    | some a => rw [h] at q; exact ⟨d, b, a, rfl, q.1, h, q.2⟩
    | none => rw [h] at q; exact q.elim
@[simp↓] theorem xIsiT2 {d : D} {b c : String} : wIsiT [d, .tup [.opq (.ty b), .opq (.ty c)]] k = match tyD d with
    | some a => b ∈ tysB ∧ c ∈ tysB ∧ k (0, .bl (isTy a b || isTy a c))
    | none => False := by
  apply propext
  constructor
  · intro ⟨d', bs, a, h, h1, h2, q⟩
    simp only [List.cons.injEq, D.tup.injEq, and_true] at h
    obtain ⟨e1, e2⟩ := h
    subst e1
    obtain ⟨b', r, rfl, hb, hr⟩ := List.map_eq_cons_iff.mp e2.symm
    obtain ⟨c', r', rfl, hc, hr'⟩ := List.map_eq_cons_iff.mp hr
    have er := List.map_eq_nil_iff.mp hr'
    subst er
    cases hb
    cases hc
    rw [h2]
    exact ⟨h1 b (by simp), h1 c (by simp), by simpa using q⟩
  · intro q
    cases h : tyD d with
    | some a => rw [h] at q; exact ⟨d, [b, c], a, rfl, fun x hx => by
        rcases List.mem_cons.mp hx with e | hx
        · rw [e]; exact q.1
        · rw [List.mem_singleton.mp hx]; exact q.2.1, h, by simpa using q.2.2⟩
    | none => rw [h] at q; exact q.elim
theorem map_inj {α : Type} {f : α → D} (hf : ∀ x y, f x = f y → x = y) : ∀ {xs ys : List α}, xs.map f = ys.map f → xs = ys
  | [], [], _ => rfl
  | [], _ :: _, h => by cases h
  | _ :: _, [], h => by cases h
  | x :: xs, y :: ys, h => by
    rw [List.map_cons, List.map_cons] at h
    obtain ⟨h1, h2⟩ := List.cons.inj h
    rw [hf x y h1, map_inj hf h2]
theorem xAllAny {f : List Bool → Bool} {bs : List Bool} : wAllAny f [.lst (bs.map D.bl)] k = k (0, .bl (f bs)) := by
  apply propext
  constructor
  · intro ⟨b', h, q⟩
    simp only [List.cons.injEq, D.lst.injEq, and_true] at h
    rw [map_inj (fun x y e => D.bl.inj e) h]
    exact q
  · exact fun h => ⟨bs, rfl, h⟩
theorem xSum {ns : List Int} : wSum [.lst (ns.map D.int)] k = k (0, .int ns.sum) := by
  apply propext
  constructor
  · intro ⟨b', h, q⟩
    simp only [List.cons.injEq, D.lst.injEq, and_true] at h
    rw [map_inj (fun x y e => D.int.inj e) h]
    exact q
  · exact fun h => ⟨ns, rfl, h⟩
@[simp↓] theorem xStrI : dStrI te ρ QL = te ρ fun s ρ1 => match s.2 with
    | .str x => QL (strD x) ρ1
    | _ => False := by
  unfold dStrI
  congr
  funext s ρ1
  apply propext
  constructor
  · intro ⟨xs, h, q⟩
    rw [h]
    exact q
  · intro q
    cases h : s.2 with
    | str b => rw [h] at q; exact ⟨b, rfl, q⟩
    | _ => rw [h] at q; exact q.elim
@[simp↓] theorem xChain {g g' : W2} : dChain g g' ta tb tc ρ Q = ta ρ fun x ρ1 => tb ρ1 fun y ρ2 => g x.2 y.2 fun s => match s.2 with
    | .bl c => if c = true then tc ρ2 fun z ρ3 => g' y.2 z.2 fun s' => Q s' ρ3 else Q (0, .bl false) ρ2
    | _ => False := by
  unfold dChain
  congr
  funext x ρ1
  congr
  funext y ρ2
  congr
  funext s
  apply propext
  constructor
  · intro ⟨b, h, q⟩
    rw [h]
    exact q
  · intro q
    cases h : s.2 with
    | bl b => rw [h] at q; exact ⟨b, rfl, q⟩
    | _ => rw [h] at q; exact q.elim
theorem xIxS {z : Str} {a : Int} {c : Nat} (hz : z.length ≤ sizeLine) (h : atI z.cps.toList a = some c) (q : k (0, .str ⟨#[c]⟩)) : wIx (.str z) (.int a) k := ⟨a, c, rfl, hz, h, q⟩
@[simp↓] theorem xEnumL : dEnum tl ρ QL = tl ρ fun ds ρ1 => match ds with
    | [.lst xs] => QL (enumD 0 xs) ρ1
    | _ => False := by
  unfold dEnum
  congr
  funext ds ρ1
  apply propext
  constructor
  · intro ⟨xs, h, q⟩
    rw [h]
    exact q
  · intro q
    split at q
    · rename_i xs
      exact ⟨xs, rfl, q⟩
    · exact q.elim
@[simp↓] theorem xSetF {C : Addr} {f : Str} : dSetF i C f te A ρ = te ρ fun s ρ1 => ∃ fs, ρ1[i]? = some (some (1, .ins C fs)) ∧ fs.length < 1000 ∧ A.nx (ρ1.set i (some (1, .ins C (putFD f s.2 fs)))) := rfl
@[simp↓] theorem xFldO {C : Addr} {f : Str} : dFldO i C f ρ Q = ∃ fs d, ρ[i]? = some (some (1, .ins C fs)) ∧ fs.lookup f = some d ∧ Q (0, d) ρ := rfl
theorem xSortS {xs : List Str} (h : xs.length < 64) (q : ∀ ys : List Str, ys.Perm xs → sortedS ys = true → k (1, .lst (ys.map D.str))) : wSortS [.lst (xs.map D.str)] k := ⟨_, xs, rfl, rfl, h, q⟩
/-! ### comprehensions whose parts leave the slots as they were -/
theorem lc_filter {vs : List Nat} {g : TGd} {K : List D → DSt → Prop} {p : D → Bool} {f : D → D} : ∀ {xs acc : List D},
    (∀ x ∈ xs, ∀ (K1 : D → DSt → Prop) (K0 : DSt → Prop), (p x = true → K1 (f x) ρ) → (p x = false → K0 ρ) → g x ρ fun ρ1 => ub ρ1 fun b ρ2 => if b = true then te ρ2 fun s ρ3 => K1 s.2 (wipeD ρ3 vs) else K0 (wipeD ρ2 vs)) →
    K (acc ++ (xs.filter p).map f) ρ → dLcL vs g ub te K xs acc ρ
  | [], acc, _, h => by
    rw [xLcNil]
    simpa using h
  | x :: xs, acc, hs, h => by
    rw [xLcCons]
    refine hs x List.mem_cons_self (fun d ρ' => dLcL vs g ub te K xs (acc ++ [d]) ρ') (fun ρ' => dLcL vs g ub te K xs acc ρ') (fun hp => ?_) fun hp => ?_
    · refine lc_filter (fun y hy => hs y (List.mem_cons_of_mem _ hy)) ?_
      rw [List.filter_cons_of_pos hp] at h
      simpa using h
    · refine lc_filter (fun y hy => hs y (List.mem_cons_of_mem _ hy)) ?_
      rw [List.filter_cons_of_neg (by simp [hp])] at h
      exact h
theorem lc_map {vs : List Nat} {g : TGd} {K : List D → DSt → Prop} {f : D → D} {xs acc : List D}
    (hs : ∀ x ∈ xs, ∀ (K1 : D → DSt → Prop) (K0 : DSt → Prop), K1 (f x) ρ → g x ρ fun ρ1 => ub ρ1 fun b ρ2 => if b = true then te ρ2 fun s ρ3 => K1 s.2 (wipeD ρ3 vs) else K0 (wipeD ρ2 vs))
    (h : K (acc ++ xs.map f) ρ) : dLcL vs g ub te K xs acc ρ :=
  lc_filter (p := fun _ => true) (f := f) (fun x hx K1 K0 h1 _ => hs x hx K1 K0 (h1 rfl)) (by rw [List.filter_eq_self.mpr fun _ _ => rfl]; exact h)
@[simp] theorem key_str {x : Str} : keyD (.str x) = some (.inr x) := rfl
@[simp] theorem key_int {x : Int} : keyD (.int x) = some (.inl x) := rfl
@[simp↓] theorem xAppIx : dAppIx i tk te ρ Q = match ρ[i]? with
    | some (some (2, .dic kvs)) => tk (frz ρ) fun sk _ => flatD sk.2 = true ∧ (match keyD sk.2 with
      | some q => (match valD kvs q with
        | some (.lst ds) => te (frz ρ) fun sv _ => flatD sv.2 = true ∧ ds.length < sizeLine ∧ Q (0, .non) (ρ.set i (some (2, .dic (setD kvs q (.lst (ds ++ [sv.2]))))))
        | _ => False)
      | none => False)
    | _ => False := by
  unfold dAppIx
  have e : ∀ kvs : List (Key × D), (fun (sk : Sl) (_ : DSt) => flatD sk.2 = true ∧ ∃ q ds, keyD sk.2 = some q ∧ valD kvs q = some (.lst ds) ∧ te (frz ρ) fun sv _ => flatD sv.2 = true ∧ ds.length < sizeLine ∧
      Q (0, .non) (ρ.set i (some (2, .dic (setD kvs q (.lst (ds ++ [sv.2]))))))) = fun sk _ => flatD sk.2 = true ∧ (match keyD sk.2 with
      | some q => (match valD kvs q with
        | some (.lst ds) => te (frz ρ) fun sv _ => flatD sv.2 = true ∧ ds.length < sizeLine ∧ Q (0, .non) (ρ.set i (some (2, .dic (setD kvs q (.lst (ds ++ [sv.2]))))))
        | _ => False)
      | none => False) := fun kvs => by
    funext sk _
    apply propext
    constructor
    · intro ⟨h0, q, ds, h1, h2, h3⟩
      refine ⟨h0, ?_⟩
      rw [h1]
      simp only [h2]
      exact h3
    · intro ⟨h0, h⟩
      refine ⟨h0, ?_⟩
      split at h
      · rename_i q h1
        split at h
        · rename_i ds h2
          exact ⟨q, ds, h1, h2, h⟩
        · exact h.elim
      · exact h.elim
  apply propext
  constructor
  · intro ⟨kvs, h1, h2⟩
    rw [h1]
    rw [e kvs] at h2
    exact h2
  · intro h
    split at h
    · rename_i kvs h1
      refine ⟨kvs, h1, ?_⟩
      rw [e kvs]
      exact h
    · exact h.elim
@[simp↓] theorem xIxO : dIxO i tk ρ Q = match ρ[i]? with
    | some (some (1, t)) => tk (frz ρ) fun sk _ => flatD sk.2 = true ∧ (match itemD t sk.2 with
      | some d => Q (0, d) ρ
      | none => False)
    | _ => False := by
  unfold dIxO
  have e : ∀ t : D, (fun (sk : Sl) (_ : DSt) => flatD sk.2 = true ∧ ∃ d, itemD t sk.2 = some d ∧ Q (0, d) ρ) = fun sk _ => flatD sk.2 = true ∧ (match itemD t sk.2 with
      | some d => Q (0, d) ρ
      | none => False) := fun t => by
    funext sk _
    apply propext
    constructor
    · intro ⟨h0, d, h1, h2⟩
      refine ⟨h0, ?_⟩
      rw [h1]
      exact h2
    · intro ⟨h0, h⟩
      refine ⟨h0, ?_⟩
      split at h
      · rename_i d h1
        exact ⟨d, h1, h⟩
      · exact h.elim
  apply propext
  constructor
  · intro ⟨t, h1, h2⟩
    rw [h1]
    rw [e t] at h2
    exact h2
  · intro h
    split at h
    · rename_i t h1
      refine ⟨t, h1, ?_⟩
      rw [e t]
      exact h
    · exact h.elim
@[simp] theorem item_dicS {kvs : List (Key × D)} {x : Str} : itemD (.dic kvs) (.str x) = valD kvs (.inr x) := rfl
/-- .. whose parts may freeze slots: Inv holds of the slots all the way -/
theorem lc_filterI {vs : List Nat} {g : TGd} {K : List D → DSt → Prop} {p : D → Bool} {f : D → D} {Inv : DSt → Prop} : ∀ {xs acc : List D} {ρ : DSt},
    (∀ x ∈ xs, ∀ ρ, Inv ρ → ∀ (K1 : D → DSt → Prop) (K0 : DSt → Prop), (p x = true → ∀ ρ', Inv ρ' → K1 (f x) ρ') → (p x = false → ∀ ρ', Inv ρ' → K0 ρ') → g x ρ fun ρ1 => ub ρ1 fun b ρ2 => if b = true then te ρ2 fun s ρ3 => K1 s.2 (wipeD ρ3 vs) else K0 (wipeD ρ2 vs)) →
    Inv ρ → (∀ ρ', Inv ρ' → K (acc ++ (xs.filter p).map f) ρ') → dLcL vs g ub te K xs acc ρ
  | [], acc, ρ, _, hi, h => by
    rw [xLcNil]
    simpa using h ρ hi
  | x :: xs, acc, ρ, hs, hi, h => by
    rw [xLcCons]
    refine hs x List.mem_cons_self ρ hi (fun d ρ' => dLcL vs g ub te K xs (acc ++ [d]) ρ') (fun ρ' => dLcL vs g ub te K xs acc ρ') (fun hp ρ' hi' => ?_) fun hp ρ' hi' => ?_
    · refine lc_filterI (fun y hy => hs y (List.mem_cons_of_mem _ hy)) hi' ?_
      rw [List.filter_cons_of_pos hp] at h
      simpa using h
    · refine lc_filterI (fun y hy => hs y (List.mem_cons_of_mem _ hy)) hi' ?_
      rw [List.filter_cons_of_neg (by simp [hp])] at h
      exact h
end
end DL

/-! DY: dicts by a function of their keys; trees of doors. -/
namespace DL
open PySem PySem.Spec PyProof.Rows L2

/-- a dict: each room and what the function tells of it -/
def dicF (rooms : List Str) (f : Str → D) : List (Key × D) := rooms.map fun r => ((.inr r : Key), f r)
theorem dicF_len {rooms : List Str} {f : Str → D} : (dicF rooms f).length = rooms.length := by simp [dicF]
theorem dicF_val {rooms : List Str} {f : Str → D} {x : Str} (h : x ∈ rooms) : valD (dicF rooms f) (.inr x) = some (f x) := by
  unfold dicF valD
  induction rooms with
  | nil => exact absurd h (by simp)
  | cons r rs ih =>
    rw [List.map_cons, List.find?_cons]
    by_cases e : r = x
    · subst e
      simp
    · have : decide ((Sum.inr r : Key) = .inr x) = false := decide_eq_false fun z => e (Sum.inr.inj z)
      simp only [this]
      exact ih (by rcases List.mem_cons.mp h with z | z; exact absurd z.symm e; exact z)
theorem dicF_none {rooms : List Str} {f : Str → D} {x : Str} (h : x ∉ rooms) : valD (dicF rooms f) (.inr x) = none := by
  unfold dicF valD
  induction rooms with
  | nil => rfl
  | cons r rs ih =>
    rw [List.map_cons, List.find?_cons]
    have e : ¬ r = x := fun e => h (by rw [e]; simp)
    have : decide ((Sum.inr r : Key) = .inr x) = false := decide_eq_false fun z => e (Sum.inr.inj z)
    simp only [this]
    exact ih fun z => h (List.mem_cons_of_mem _ z)
theorem dicF_put {rooms : List Str} {f : Str → D} {x : Str} {d : D} (h : x ∈ rooms) : putD (dicF rooms f) (.inr x) d = dicF rooms fun r => if r = x then d else f r := by
  unfold putD
  rw [valD_any, dicF_val h]
  simp only [Option.isSome_some, if_true]
  unfold dicF
  rw [List.map_map]
  apply List.map_congr_left
  intro r _
  by_cases e : r = x
  · subst e; simp
  · have : ¬ ((Sum.inr r : Key) = .inr x) := fun z => e (Sum.inr.inj z)
    simp [e, this]
theorem dicF_snoc {rooms : List Str} {f : Str → D} {x : Str} (h : x ∉ rooms) : putD (dicF rooms f) (.inr x) (f x) = dicF (rooms ++ [x]) f := by
  unfold putD
  rw [valD_any, dicF_none h]
  simp [dicF]
theorem dicF_congr {rooms : List Str} {f g : Str → D} (h : ∀ r ∈ rooms, f r = g r) : dicF rooms f = dicF rooms g := by
  unfold dicF
  exact List.map_congr_left fun r hr => by rw [h r hr]
theorem dicF_set {rooms : List Str} {f : Str → D} {x : Str} {d : D} (hn : rooms.Nodup) (h : x ∈ rooms) : setD (dicF rooms f) (.inr x) d = dicF rooms fun r => if r = x then d else f r := by
  induction rooms with
  | nil => exact absurd h (by simp)
  | cons r rs ih =>
    have hr := List.nodup_cons.mp hn
    show setD ((.inr r, f r) :: dicF rs f) (.inr x) d = (.inr r, if r = x then d else f r) :: dicF rs _
    by_cases e : r = x
    · subst e
      unfold setD
      rw [if_pos rfl, if_pos rfl]
      congr 1
      exact dicF_congr fun y hy => by
        have ne : y ≠ r := fun z => hr.1 (by rw [← z]; exact hy)
        rw [if_neg ne]
    · unfold setD
      rw [if_neg fun z => e (Sum.inr.inj z), if_neg e]
      congr 1
      exact ih hr.2 (by rcases List.mem_cons.mp h with z | z; exact absurd z.symm e; exact z)
theorem dicF_keys {rooms : List Str} {f : Str → D} : keysD (dicF rooms f) = rooms.map D.str := by
  unfold keysD dicF
  rw [List.map_map]
  rfl

/-- a dict comprehension over rooms: for each room some value of which V holds; Inv holds of the slots all the way -/
theorem dc_roomsI {vs : List Nat} {m i : Nat} {tv : DL.TO} {K : List (Key × D) → DSt → Prop} {V : Str → D → Prop} {Inv : DSt → Prop} {rooms : List Str} (hn : rooms.Nodup)
    (hs : ∀ r ∈ rooms, ∀ ρ, Inv ρ → ∀ (G : List (Key × D) → DSt → Prop) (acc : List (Key × D)), valD acc (.inr r) = none → (∀ d ρ', Inv ρ' → V r d → G (putD acc (.inr r) d) ρ') →
      gN i (.str r) ρ fun ρ1 => dYes ρ1 fun b ρ2 => if b = true then dVar i ρ2 fun sk ρ3 => tv ρ3 fun sv ρ4 => ∃ q, keyD sk.2 = some q ∧ (m = 0 ∨ (sv.1 = m ∧ valD acc q = none)) ∧ G (putD acc q sv.2) (wipeD ρ4 vs) else G acc (wipeD ρ2 vs))
    (h : ∀ (f : Str → D) ρ', Inv ρ' → (∀ r ∈ rooms, V r (f r)) → K (dicF rooms f) ρ') : ∀ (rest pre : List Str) (f : Str → D) (ρ : DSt), rooms = pre ++ rest → (∀ r ∈ pre, V r (f r)) → Inv ρ → dDcL m vs (gN i) dYes (dVar i) tv K (rest.map D.str) (dicF pre f) ρ
  | [], pre, f, ρ, e, hf, hi => by
    have e : rooms = pre := by simpa using e
    subst e
    exact h f ρ hi hf
  | x :: rest, pre, f, ρ, e, hf, hi => by
    have hx : x ∈ rooms := by rw [e]; simp
    have hxp : x ∉ pre := fun h => by
      rw [e] at hn
      exact (List.nodup_append.mp hn).2.2 x h x (by simp) rfl
    rw [List.map_cons, xDcCons]
    refine hs x hx ρ hi (fun acc ρ' => dDcL m vs (gN i) dYes (dVar i) tv K (rest.map D.str) acc ρ') (dicF pre f) (dicF_none hxp) fun d ρ' hi' hd => ?_
    have e1 : dicF pre f = dicF pre fun y => if y = x then d else f y := dicF_congr fun y hy => by
      have ne : y ≠ x := fun z => hxp (by rw [← z]; exact hy)
      rw [if_neg ne]
    have e2 := dicF_snoc (f := fun y => if y = x then d else f y) hxp
    simp only [if_true] at e2
    show dDcL m vs (gN i) dYes (dVar i) tv K (rest.map D.str) (putD (dicF pre f) (.inr x) d) ρ'
    rw [e1, e2]
    refine dc_roomsI hn hs h rest (pre ++ [x]) _ ρ' (by rw [e]; simp) (fun r hr => ?_) hi'
    rcases List.mem_append.mp hr with z | z
    · have ne : r ≠ x := fun w => hxp (by rw [← w]; exact z)
      simp only [ne, if_false]
      exact hf r z
    · rw [List.mem_singleton.mp z]
      simp only [if_true]
      exact hd
theorem dc_rooms {vs : List Nat} {ρ : DSt} {m i : Nat} {tv : DL.TO} {K : List (Key × D) → DSt → Prop} {V : Str → D → Prop} {rooms : List Str} (hn : rooms.Nodup)
    (hs : ∀ r ∈ rooms, ∀ (G : List (Key × D) → DSt → Prop) (acc : List (Key × D)), valD acc (.inr r) = none → (∀ d, V r d → G (putD acc (.inr r) d) ρ) →
      gN i (.str r) ρ fun ρ1 => dYes ρ1 fun b ρ2 => if b = true then dVar i ρ2 fun sk ρ3 => tv ρ3 fun sv ρ4 => ∃ q, keyD sk.2 = some q ∧ (m = 0 ∨ (sv.1 = m ∧ valD acc q = none)) ∧ G (putD acc q sv.2) (wipeD ρ4 vs) else G acc (wipeD ρ2 vs))
    (h : ∀ f : Str → D, (∀ r ∈ rooms, V r (f r)) → K (dicF rooms f) ρ) (rest pre : List Str) (f : Str → D) (e : rooms = pre ++ rest) (hf : ∀ r ∈ pre, V r (f r)) : dDcL m vs (gN i) dYes (dVar i) tv K (rest.map D.str) (dicF pre f) ρ :=
  dc_roomsI (Inv := fun ρ' => ρ' = ρ) hn (fun r hr ρ' e' G acc ha hG => by
    subst e'
    exact hs r hr G acc ha fun d hd => hG d _ rfl hd) (fun f ρ' e' hf => by
    subst e'
    exact h f hf) rest pre f ρ e hf rfl
/-! ### trees -/
/-- rooms, newest first, each by a door to an older one -/
inductive Tr : List Str → List (Str × Str) → Prop
  | one (r : Str) : Tr [r] []
  | grow {R : List Str} {E : List (Str × Str)} {p r : Str} {e : Str × Str} : Tr R E → p ∈ R → r ∉ R → (e = (p, r) ∨ e = (r, p)) → Tr (r :: R) (e :: E)
theorem Tr.ends {R : List Str} {E : List (Str × Str)} (t : Tr R E) : ∀ e ∈ E, e.1 ∈ R ∧ e.2 ∈ R ∧ e.1 ≠ e.2 := by
  induction t with
  | one r => intro e h; exact absurd h (by simp)
  | @grow R E p r e t hp hr he ih =>
    intro f hf
    rcases List.mem_cons.mp hf with z | z
    · have pr : p ≠ r := fun z => hr (z ▸ hp)
      rw [z]
      rcases he with he | he
      · rw [he]; exact ⟨List.mem_cons_of_mem _ hp, List.mem_cons_self, pr⟩
      · rw [he]; exact ⟨List.mem_cons_self, List.mem_cons_of_mem _ hp, pr.symm⟩
    · have := ih f z
      exact ⟨List.mem_cons_of_mem _ this.1, List.mem_cons_of_mem _ this.2.1, this.2.2⟩
theorem Tr.nodup {R : List Str} {E : List (Str × Str)} (t : Tr R E) : R.Nodup := by
  induction t with
  | one r => simp
  | grow t hp hr he ih => exact List.nodup_cons.mpr ⟨hr, ih⟩
theorem Tr.ne {R : List Str} {E : List (Str × Str)} (t : Tr R E) : R ≠ [] := by
  cases t <;> simp
/-- without one of its doors a tree falls into two -/
theorem Tr.cut {R : List Str} {E : List (Str × Str)} (t : Tr R E) : ∀ (e : Str × Str) (E' : List (Str × Str)), E.Perm (e :: E') → ∃ S : Str → Prop, (S e.1 ↔ ¬ S e.2) ∧ ∀ f ∈ E', (S f.1 ↔ S f.2) := by
  induction t with
  | one r =>
    intro e E' h
    exact absurd h.length_eq (by simp)
  | @grow R E p r e0 t hp hr he ih =>
    intro e E' h
    have pr : p ≠ r := fun z => hr (z ▸ hp)
    by_cases hee : e = e0
    · subst hee
      have hE : E.Perm E' := h.cons_inv
      refine ⟨fun x => x = r, ?_, fun f hf => ?_⟩
      · rcases he with he | he
        · rw [he]; simp [pr]
        · rw [he]; simp [pr]
      · have := t.ends f (hE.mem_iff.mpr hf)
        have h1 : f.1 ≠ r := fun z => hr (z ▸ this.1)
        have h2 : f.2 ≠ r := fun z => hr (z ▸ this.2.1)
        simp [h1, h2]
    · have hm : e ∈ E := by
        have : e ∈ e0 :: E := h.mem_iff.mpr List.mem_cons_self
        rcases List.mem_cons.mp this with z | z
        · exact absurd z hee
        · exact z
      have p1 : E.Perm (e :: E.erase e) := List.perm_cons_erase hm
      obtain ⟨S, h1, h2⟩ := ih e (E.erase e) p1
      have p2 : (e0 :: E.erase e).Perm E' := by
        have q1 : (e0 :: E).Perm (e0 :: e :: E.erase e) := p1.cons e0
        have q2 : (e0 :: e :: E.erase e).Perm (e :: e0 :: E.erase e) := List.Perm.swap _ _ _
        exact ((q1.trans q2).symm.trans h).cons_inv
      have ends := t.ends e hm
      refine ⟨fun x => if x = r then S p else S x, ?_, fun f hf => ?_⟩
      · have z1 : e.1 ≠ r := fun z => hr (z ▸ ends.1)
        have z2 : e.2 ≠ r := fun z => hr (z ▸ ends.2.1)
        simp only [z1, z2, if_false]
        exact h1
      · have hf' := p2.mem_iff.mpr hf
        rcases List.mem_cons.mp hf' with z | z
        · rw [z]
          rcases he with he | he
          · rw [he]; simp [pr]
          · rw [he]; simp [pr]
        · have hfE := List.mem_of_mem_erase z
          have e2 := t.ends f hfE
          have z1 : f.1 ≠ r := fun z => hr (z ▸ e2.1)
          have z2 : f.2 ≠ r := fun z => hr (z ▸ e2.2.1)
          simp only [z1, z2, if_false]
          exact h2 f z
/-- what is the same at both ends of all doors is the same everywhere -/
theorem Tr.conn {R : List Str} {E : List (Str × Str)} {α : Type} (t : Tr R E) (F : Str → α) (h : ∀ e ∈ E, F e.1 = F e.2) : ∀ x ∈ R, ∀ y ∈ R, F x = F y := by
  induction t with
  | one r =>
    intro x hx y hy
    rw [List.mem_singleton.mp hx, List.mem_singleton.mp hy]
  | @grow R E p r e t hp hr he ih =>
    have ih := ih fun f hf => h f (List.mem_cons_of_mem _ hf)
    have er : F r = F p := by
      have := h e List.mem_cons_self
      rcases he with he | he
      · rw [he] at this; exact this.symm
      · rw [he] at this; exact this
    have key : ∀ x ∈ r :: R, F x = F p := fun x hx => by
      rcases List.mem_cons.mp hx with z | z
      · rw [z]; exact er
      · exact ih x z p hp
    intro x hx y hy
    rw [key x hx, key y hy]
theorem Tr.len {R : List Str} {E : List (Str × Str)} (t : Tr R E) : R.length = E.length + 1 := by
  induction t with
  | one r => rfl
  | grow t hp hr he ih => simp [ih]
/-- a tree of rooms and doors, in any order -/
def Tree (R : List Str) (E : List (Str × Str)) : Prop := ∃ R0 E0, Tr R0 E0 ∧ R0.Perm R ∧ E0.Perm E
end DL

/-! K06a: the draws. -/
namespace K06
open PySem PySem.Spec PyProof.Rows L2 DL
def sp_draw : SpD := fun args ret exc => ∃ (n : Nat) (many : Int), args = [(1, .spr (n + 1)), (0, .int many)] ∧ 0 < many ∧ many < 1073741824 ∧ ∀ d : Int, 0 ≤ d → d < many → ret (0, .int d) (1, .spr n)
theorem mono_draw : MonoSp sp_draw := fun args ret ret' exc exc' k _ ⟨n, many, e, h0, h1, h⟩ => ⟨n, many, e, h0, h1, fun d a b => k _ _ (h d a b)⟩
theorem plain_draw {args : List Sl} {ret : Sl → Sl → Prop} {exc : Exc → Prop} (h : sp_draw args ret exc) : t__law_draw (fnE (some 0) ret) (start0 5 args) := by
  obtain ⟨n, many, rfl, h0, h1, hr⟩ := h
  refine ⟨0, n + 1, rfl, fun is k j r ok => ?_⟩
  have hj : j + 1 + n ≤ 2 ^ 40 ∧ 0 ≤ j := ⟨by have := ok.jk; omega, ok.j0⟩
  simp [start0, sprD]
  refine ⟨fun m ρ => ∃ (is : List Int) (k r : Int) (c : Option Sl), m = is.length ∧ ρ = [some (2, sprD is k (j + 1) r), some (0, .int many), c, none, none] ∧ SprOk n is k (j + 1) r,
    ⟨is.length, is, k, r, none, rfl, rfl, ⟨ok.cells, ok.few, ok.i0, ok.iB, by omega, by omega, ok.r0, ok.rB⟩⟩, ?_⟩
  rintro m ρ ⟨is, k, r, c, rfl, rfl, ok⟩
  have m1 : ∀ x : Int, 0 ≤ x % many ∧ x % many < many := fun x => ⟨Int.emod_nonneg _ (by omega), Int.emod_lt_of_pos _ h0⟩
  have okd : ∀ (is : List Int), SprOk n is k (j + 1) r → SprOk n is (k / many) (j + 1) r := fun is ok => by
    refine ⟨ok.cells, ok.few, Int.ediv_nonneg ok.i0 (by omega), ?_, ok.j0, ok.jk, ok.r0, ok.rB⟩
    have := ok.iB
    have h2 : k / many ≤ k := Int.ediv_le_self _ ok.i0
    have h3 : 0 ≤ k / many := Int.ediv_nonneg ok.i0 (by omega)
    omega
  have a1 := ok.r0
  have a2 := ok.rB
  have b1 : 0 ≤ (r + 7919 * (j + 1) + 104729) ^ 5 % 2147483629 := Int.emod_nonneg _ (by omega)
  have b2 : (r + 7919 * (j + 1) + 104729) ^ 5 % 2147483629 < 2147483629 := Int.emod_lt_of_pos _ (by omega)
  have c1 : CMul 7919 (j + 1) := .inl (by omega)
  have c2 : CPow (r + 7919 * (j + 1) + 104729) 5 := ⟨by omega, by omega, by omega⟩
  have c3 : CMul ((r + 7919 * (j + 1) + 104729) ^ 5 % 2147483629) 48271 := .inr (by omega)
  have c4 : CMul 30011 (j + 1) := .inl (by omega)
  have c5 : CPow ((r + 7919 * (j + 1) + 104729) ^ 5 % 2147483629 * 48271 + 30011 * (j + 1) + 29) 3 := by
    refine ⟨by omega, by omega, ?_⟩
    generalize (r + 7919 * (j + 1) + 104729) ^ 5 % 2147483629 = z at *
    omega
  cases is with
  | nil =>
    simp [xfrzOpt, sprD]
    split
    · exact ⟨h0, ⟨h0, h1⟩, n, [], _, _, _, ⟨rfl, rfl, rfl, rfl⟩, okd _ ok, (1, .spr n), rfl, hr _ (m1 _).1 (m1 _).2⟩
    · exact ⟨c1, c2, c3, c4, c5, h0, n, [], _, _, _, ⟨rfl, rfl, rfl, rfl⟩, ok, (1, .spr n), rfl, hr _ (m1 _).1 (m1 _).2⟩
  | cons x is =>
    simp [xfrzOpt, sprD]
    have f : is.length ≤ 63 := by have := ok.few; rw [List.length_cons] at this; omega
    have cx : ∀ y ∈ is, y.natAbs < bigB := fun y hy => ok.cells y (List.mem_cons_of_mem _ hy)
    have d1 : 0 ≤ (r * 8191 + x + 3) % 2147483647 := Int.emod_nonneg _ (by omega)
    have d2 : (r * 8191 + x + 3) % 2147483647 < 2147483647 := Int.emod_lt_of_pos _ (by omega)
    split
    · refine ⟨.inr (by omega), ⟨by omega, by omega, by omega⟩, ?_⟩
      split
      · exact ⟨is.length, by omega, is, rfl, _, _, ⟨rfl, rfl, rfl⟩, ⟨cx, f, by omega, ok.cells x List.mem_cons_self, ok.j0, ok.jk, d1, d2⟩⟩
      · refine ⟨is.length, by omega, is, rfl, _, _, ⟨rfl, rfl, rfl⟩, ⟨cx, f, by omega, ?_, ok.j0, ok.jk, d1, d2⟩⟩
        have := ok.cells x List.mem_cons_self
        omega
    · split
      · exact ⟨h0, ⟨h0, h1⟩, n, x :: is, _, _, _, ⟨rfl, rfl, rfl, rfl⟩, okd _ ok, (1, .spr n), rfl, hr _ (m1 _).1 (m1 _).2⟩
      · exact ⟨c1, c2, c3, c4, c5, h0, n, x :: is, _, _, _, ⟨rfl, rfl, rfl, rfl⟩, ok, (1, .spr n), rfl, hr _ (m1 _).1 (m1 _).2⟩

/-! ### _law_start -/
def sp_start (K : PySem.W.Frag) : SpD := fun args ret exc => ∃ is : List Int, args = [(0, .scr K is)] ∧ (∀ x ∈ is, x.natAbs < bigB) ∧ is.length ≤ 63 ∧ ∀ o, ret (1, .spr 1000000) o
theorem mono_start {K : PySem.W.Frag} : MonoSp (sp_start K) := fun args ret ret' exc exc' k _ ⟨is, e, h0, h1, h⟩ => ⟨is, e, h0, h1, fun o => k _ _ (h o)⟩
theorem plain_start {K : PySem.W.Frag} {args : List Sl} {ret : Sl → Sl → Prop} {exc : Exc → Prop} (h : sp_start K args ret exc) : t__law_start K (fnE none ret) (start0 1 args) := by
  obtain ⟨is, rfl, h0, h1, hr⟩ := h
  exact ⟨is, rfl, h0, h1, hr _⟩

/-! ### _law_pick -/
def sp_pick : SpD := fun args ret exc => ∃ (n : Nat) (xs : List D), args = [(1, .spr (n + 1)), (0, .lst xs)] ∧ xs ≠ [] ∧ xs.length ≤ 1000000 ∧ ∀ d, d ∈ xs → ret (0, d) (1, .spr n)
theorem mono_pick : MonoSp sp_pick := fun args ret ret' exc exc' k _ ⟨n, xs, e, h0, h1, h⟩ => ⟨n, xs, e, h0, h1, fun d a => k _ _ (h d a)⟩
theorem plain_pick {args : List Sl} {ret : Sl → Sl → Prop} {exc : Exc → Prop} (h : sp_pick args ret exc) : t__law_pick sp_draw (fnE (some 0) ret) (start0 2 args) := by
  obtain ⟨n, xs, rfl, h0, h1, hr⟩ := h
  have hl : 0 < xs.length := List.length_pos_iff.mpr h0
  simp [t__law_pick, start0]
  refine ⟨n, xs.length, rfl, by omega, by omega, fun d d0 d1 => ?_⟩
  obtain ⟨i, rfl⟩ := Int.eq_ofNat_of_zero_le d0
  have hi : i < xs.length := by omega
  have e : atI xs ((i : Nat) : Int) = some xs[i] := by rw [atI_nat hi, List.getElem?_eq_getElem hi]
  simp [e]
  exact ⟨(1, .spr n), rfl, hr _ (List.getElem_mem hi)⟩

/-! ### _law_mixed -/
def sp_mixed : SpD := fun args ret exc => ∃ (n : Nat) (xs : List D), args = [(1, .spr n), (0, .lst xs)] ∧ xs.length ≤ n ∧ xs.length ≤ 1000000 ∧ ∀ ys : List D, ys.Perm xs → ret (1, .lst ys) (1, .spr (n - xs.length))
theorem mono_mixed : MonoSp sp_mixed := fun args ret ret' exc exc' k _ ⟨n, xs, e, h0, h1, h⟩ => ⟨n, xs, e, h0, h1, fun d a => k _ _ (h d a)⟩
theorem erase_perm {α : Type} : ∀ {xs : List α} {i : Nat} (h : i < xs.length), (xs[i] :: xs.eraseIdx i).Perm xs
  | x :: xs, 0, _ => List.Perm.refl _
  | x :: xs, i + 1, h => by
    have ih := erase_perm (xs := xs) (i := i) (by simpa using h)
    show (xs[i]'(by simpa using h) :: x :: xs.eraseIdx i).Perm (x :: xs)
    exact (List.Perm.swap _ _ _).trans (ih.cons x)
theorem mixed_loop {xs : List D} {K : List D → DSt → Prop} : ∀ (ks left acc : List D) (n : Nat), ks.length = left.length → left.length ≤ n → left.length ≤ 1000000 → (acc ++ left).Perm xs →
    (∀ ys, ys.Perm xs → K ys [some (1, .spr (n - left.length)), some (0, .lst xs), some (1, .lst []), none]) →
    dLcL [3] (gN 3) dYes (dMutL 2 (dCons (dCallI sp_draw 0 0 (dHere 0 (dCons (dFlat (dL wLen (dCons (dVar 2) dNil))) dNil)) R0) dNil) opPopAt) K ks acc [some (1, .spr n), some (0, .lst xs), some (1, .lst left), none]
  | [], left, acc, n, hl, hn, hm, hp, hk => by
    have e : left = [] := List.eq_nil_of_length_eq_zero hl.symm
    subst e
    rw [xLcNil]
    simp at hp hk
    exact hk _ hp
  | k :: ks, left, acc, n, hl, hn, hm, hp, hk => by
    have h0 : 0 < left.length := by rw [← hl]; simp
    obtain ⟨n, rfl⟩ : ∃ n', n = n' + 1 := ⟨n - 1, by omega⟩
    rw [xLcCons]
    simp
    refine ⟨n, left.length, rfl, by omega, by omega, fun d d0 d1 => ?_⟩
    obtain ⟨i, rfl⟩ := Int.eq_ofNat_of_zero_le d0
    have hi : i < left.length := by omega
    simp
    refine xPopAt hi (by omega) ?_
    have el : (left.eraseIdx i).length + 1 = left.length := by rw [List.length_eraseIdx]; simp [hi]; omega
    refine mixed_loop ks _ _ n (by rw [List.length_cons] at hl; omega) (by omega) (by omega) ?_ fun ys hy => ?_
    · rw [List.append_assoc]
      exact (List.Perm.append_left acc (erase_perm hi)).trans hp
    · have := hk ys hy
      have e : n - (left.eraseIdx i).length = n + 1 - left.length := by omega
      rw [e]
      exact this
theorem plain_mixed {args : List Sl} {ret : Sl → Sl → Prop} {exc : Exc → Prop} (h : sp_mixed args ret exc) : t__law_mixed sp_draw (fnE (some 0) ret) (start0 4 args) := by
  obtain ⟨n, xs, rfl, h0, h1, hr⟩ := h
  simp [t__law_mixed, start0]
  refine ⟨by omega, by rw [rangeD_len, sizeLine_eq]; omega, ?_⟩
  refine mixed_loop _ xs [] n (by rw [rangeD_len]) h0 h1 (List.Perm.refl _) fun ys hy => ?_
  exact ⟨(1, .spr (n - xs.length)), rfl, hr ys hy⟩
end K06

/-! K06b: names, doors, houses drawn. -/
namespace K06
open PySem PySem.Spec PyProof.Rows L2 DL

def NAMES : List Str := ["b", "aa", "c1", "hall", "z9", "a", "m3", "abcdefghijk1", "attic", "no", "q7", "cellar"]
theorem names_nd : NAMES.Nodup := by decide +kernel
def sL (xs : List Str) : D := .lst (xs.map D.str)
def sp_names : SpD := fun args ret exc => ∃ (n many : Nat), args = [(1, .spr n), (0, .int (many : Nat))] ∧ 12 ≤ n ∧ many ≤ 12 ∧ ∀ xs : List Str, xs.Nodup → xs.length = many → (∀ x ∈ xs, x ∈ NAMES) → ret (1, sL xs) (1, .spr (n - 12))
theorem mono_names : MonoSp sp_names := fun args ret ret' exc exc' k _ ⟨n, many, e, h0, h1, h⟩ => ⟨n, many, e, h0, h1, fun d a b c => k _ _ (h d a b c)⟩
theorem plain_names {args : List Sl} {ret : Sl → Sl → Prop} {exc : Exc → Prop} (h : sp_names args ret exc) : t__law_h_names sp_mixed (fnE (some 0) ret) (start0 3 args) := by
  obtain ⟨n, many, rfl, h0, h1, hr⟩ := h
  simp [t__law_h_names, start0]
  refine ⟨by rw [sizeLine_eq]; omega, n, NAMES.map D.str, rfl, h0, by decide, fun ys hy => ?_⟩
  obtain ⟨l, hl, rfl⟩ := perm_map hy rfl
  simp [cut_to]
  refine ⟨(1, .spr (n - 12)), rfl, ?_⟩
  rw [← List.map_take]
  have hlen : l.length = 12 := hl.length_eq
  refine hr _ ?_ ?_ fun x hx => hl.mem_iff.mp (List.mem_of_mem_take hx)
  · exact (hl.nodup_iff.mpr names_nd).sublist (List.take_sublist _ _)
  · rw [List.length_take]
    omega

/-! ### doors -/
def pairD (p : Str × Str) : D := .tup [.str p.1, .str p.2]
/-- each room but the first one by a door to an earlier one -/
def EdgesOf (rooms : List Str) (es : List (Str × Str)) : Prop := es.length + 1 = rooms.length ∧
  ∀ k, k < es.length → ∃ i a b, i ≤ k ∧ rooms[i]? = some a ∧ rooms[k + 1]? = some b ∧ (es[k]? = some (a, b) ∨ es[k]? = some (b, a))
def sp_doors : SpD := fun args ret exc => ∃ (n : Nat) (rooms : List Str), args = [(1, .spr n), (0, sL rooms)] ∧ rooms ≠ [] ∧ 4 * rooms.length ≤ n ∧ rooms.length ≤ 1000 ∧
  ∀ (es doors : List (Str × Str)), EdgesOf rooms es → doors.Perm es → ret (1, .lst (doors.map pairD)) (1, .spr (n - (4 * rooms.length - 3)))
theorem mono_doors : MonoSp sp_doors := fun args ret ret' exc exc' k _ ⟨n, many, e, h0, h1, h2, h⟩ => ⟨n, many, e, h0, h1, h2, fun d a b c => k _ _ (h d a b c)⟩
theorem rangeD_cons {lo : Int} {n : Nat} : rangeD lo (n + 1) = .int lo :: rangeD (lo + 1) n := by
  unfold rangeD
  rw [List.range_succ_eq_map, List.map_cons, List.map_map]
  congr 1
  · simp
  · apply List.map_congr_left
    intro i _
    show D.int (lo + ((i + 1 : Nat) : Int)) = D.int (lo + 1 + (i : Nat))
    congr 1
    omega
/-- the edges of the first rooms -/
def PreEdges (rooms : List Str) (es : List (Str × Str)) : Prop := ∀ k, k < es.length → ∃ i a b, i ≤ k ∧ rooms[i]? = some a ∧ rooms[k + 1]? = some b ∧ (es[k]? = some (a, b) ∨ es[k]? = some (b, a))
theorem pre_snoc {rooms : List Str} {es : List (Str × Str)} {i : Nat} {a b : Str} {e : Str × Str} (h : PreEdges rooms es) (hi : i ≤ es.length) (ha : rooms[i]? = some a) (hb : rooms[es.length + 1]? = some b) (he : e = (a, b) ∨ e = (b, a)) : PreEdges rooms (es ++ [e]) := fun k hk => by
  rw [List.length_append, List.length_singleton] at hk
  by_cases hk' : k < es.length
  · rw [List.getElem?_append_left hk']
    exact h k hk'
  · have ek : k = es.length := by omega
    subst ek
    refine ⟨i, a, b, hi, ha, hb, ?_⟩
    rw [List.getElem?_append_right (Nat.le_refl _), Nat.sub_self]
    rcases he with he | he
    · exact .inl (by rw [he]; rfl)
    · exact .inr (by rw [he]; rfl)
def bDoors : TSd := (dSeq (dSet 5 (dB wIx (dL wLst (dCons (dB wSub (dVar 4) (dC (.int 1))) (dCons (dC (.int 0)) (dCons (dCallI sp_draw 0 0 (dHere 0 (dCons (dVar 4) dNil)) R0) (dCons (dL wMax2 (dCons (dC (.int 0)) (dCons (dB wSub (dB wSub (dVar 4) (dC (.int 1))) (dCallI sp_draw 0 0 (dHere 0 (dCons (dC (.int 2)) dNil)) R0)) dNil))) dNil))))) (dVar 2)))
  (dSeq (dSet 6 (dL wTup (dCons (dB wIx (dVar 1) (dVar 5)) (dCons (dB wIx (dVar 1) (dVar 4)) dNil))))
  (dExpr (dMutL 3 (dCons (dIfV (dT (dB wEq (dCallI sp_draw 0 0 (dHere 0 (dCons (dC (.int 2)) dNil)) R0) (dC (.int 0)))) (dVar 6) (dRev2 (dVar 6))) dNil) opAppend))))
theorem ix_sL {rooms : List Str} {n : Nat} {a : Str} {K : Sl → Prop} (h : rooms[n]? = some a) (k : K (0, .str a)) : wIx (sL rooms) (.int (n : Nat)) K := by
  have hl : n < rooms.length := (List.getElem?_eq_some_iff.mp h).1
  unfold sL
  rw [xIxL, atI_nat (by simpa using hl), List.getElem?_map, h]
  exact k
theorem doors_loop {rooms : List Str} {shape : Int} {A : DE} (s0 : 0 ≤ shape) (s4 : shape < 4) (hr : rooms.length ≤ 1000) : ∀ (r i : Nat) (es : List (Str × Str)) (n : Nat) (h4 h5 h6 : Option Sl), i + r + 1 = rooms.length → es.length = i → PreEdges rooms es → 3 * r ≤ n →
    (∀ es' h4 h5 h6, es'.length + 1 = rooms.length → PreEdges rooms es' → A.nx [some (1, .spr (n - 3 * r)), some (0, sL rooms), some (0, .int shape), some (1, .lst (es'.map pairD)), h4, h5, h6]) →
    dForL (gN 4) bDoors A (rangeD (1 + (i : Nat)) r) [some (1, .spr n), some (0, sL rooms), some (0, .int shape), some (1, .lst (es.map pairD)), h4, h5, h6]
  | 0, i, es, n, h4, h5, h6, hl, he, hp, hn, k => by
    have := k es h4 h5 h6 (by omega) hp
    simpa [rangeD] using this
  | r + 1, i, es, n, h4, h5, h6, hl, he, hp, hn, k => by
    obtain ⟨n, rfl⟩ : ∃ m, n = m + 3 := ⟨n - 3, by omega⟩
    have IH := fun es' h4 h5 h6 he' hp' => doors_loop s0 s4 hr (A := A) r (i + 1) es' n h4 h5 h6 (by omega) he' hp' (by omega) fun es2 g4 g5 g6 q1 q2 => by
      have := k es2 g4 g5 g6 q1 q2
      have e : n + 3 - 3 * (r + 1) = n - 3 * r := by omega
      rwa [e] at this
    have e1 : (1 : Int) + ((i + 1 : Nat) : Int) = 1 + (i : Nat) + 1 := by omega
    rw [e1] at IH
    obtain ⟨b, hb⟩ : ∃ b, rooms[i + 1]? = some b := ⟨rooms[i + 1]'(by omega), List.getElem?_eq_getElem _⟩
    rw [rangeD_cons, xForCons]
    generalize dForL (gN 4) bDoors A (rangeD (1 + (i : Nat) + 1) r) = G at IH ⊢
    simp [bDoors]
    refine ⟨n + 2, 1 + (i : Nat), rfl, by omega, by omega, fun d1 d1a d1b => ?_⟩
    refine ⟨n + 1, 2, rfl, by omega, by omega, fun d2 d2a d2b => ?_⟩
    simp
    refine ⟨by rw [sizeLine_eq]; omega, ?_⟩
    have hat : ∃ t : Nat, t ≤ i ∧ atI [D.int (1 + (i : Nat) - 1), D.int 0, D.int d1, D.int (if d2 < 1 + ((i : Nat) : Int) - 1 then 1 + (i : Nat) - 1 - d2 else 0)] shape = some (.int (t : Nat)) := by
      have hs : shape = 0 ∨ shape = 1 ∨ shape = 2 ∨ shape = 3 := by omega
      rcases hs with rfl | rfl | rfl | rfl
      · exact ⟨i, Nat.le_refl _, by rw [atI0]; congr 2; omega⟩
      · exact ⟨0, Nat.zero_le _, by rw [atI1]; rfl⟩
      · obtain ⟨t, rfl⟩ := Int.eq_ofNat_of_zero_le d1a
        exact ⟨t, by omega, by rw [atI2]⟩
      · split
        · exact ⟨i - d2.toNat, by omega, by rw [atI3]; congr 2; omega⟩
        · exact ⟨0, Nat.zero_le _, by rw [atI3]; rfl⟩
    obtain ⟨t, ht, hat⟩ := hat
    obtain ⟨a, ha⟩ : ∃ a, rooms[t]? = some a := ⟨rooms[t]'(by omega), List.getElem?_eq_getElem _⟩
    rw [hat]
    simp
    refine ix_sL ha ?_
    have e2 : (1 : Int) + (i : Nat) = ((i + 1 : Nat) : Int) := by omega
    rw [e2]
    refine ix_sL hb ?_
    simp
    refine ⟨by rw [sizeLine_eq]; omega, n, 2, rfl, by omega, by omega, fun d3 d3a d3b => ?_⟩
    simp
    split
    · refine ⟨by rw [sizeLine_eq]; omega, ?_⟩
      have := IH (es ++ [(a, b)]) (some (0, .int ((i + 1 : Nat) : Int))) (some (0, .int (t : Nat))) (some (0, pairD (a, b))) (by simp [he]) (pre_snoc hp (by omega) ha (by rw [he]; exact hb) (.inl rfl))
      simpa [pairD] using this
    · refine ⟨_, _, ⟨rfl, rfl⟩, by rw [sizeLine_eq]; omega, ?_⟩
      have := IH (es ++ [(b, a)]) (some (0, .int ((i + 1 : Nat) : Int))) (some (0, .int (t : Nat))) (some (0, pairD (a, b))) (by simp [he]) (pre_snoc hp (by omega) ha (by rw [he]; exact hb) (.inr rfl))
      simpa [pairD] using this
theorem plain_doors {args : List Sl} {ret : Sl → Sl → Prop} {exc : Exc → Prop} (h : sp_doors args ret exc) : t__law_h_doors sp_draw sp_mixed (fnE (some 0) ret) (start0 7 args) := by
  obtain ⟨n, rooms, rfl, h0, h1, h2, hr⟩ := h
  have hl : 0 < rooms.length := List.length_pos_iff.mpr h0
  show t__law_h_doors sp_draw sp_mixed (fnE (some 0) ret) (start0 7 [(1, .spr n), (0, sL rooms)])
  have e : t__law_h_doors sp_draw sp_mixed = (dSeq (dPar2 2 3 (dCallI sp_draw 0 0 (dHere 0 (dCons (dC (.int 4)) dNil)) R0) (dL wLst dNil)) (dSeq (dFor (dRange2 (dCons (dC (.int 1)) (dCons (dL wLen (dCons (dVar 1) dNil)) dNil))) (gN 4) bDoors) (dRet (dCallI sp_mixed 0 0 (dHere 0 (dCons (dVar 3) dNil)) R0)))) := rfl
  rw [e]
  simp [start0]
  refine ⟨n - 1, 4, ?_, by omega, by omega, fun d d0 d4 => ?_⟩
  · congr 3
    omega
  simp [sL]
  refine ⟨1, rooms.length, ⟨rfl, rfl⟩, ⟨by omega, by omega, by omega, by omega⟩, ?_⟩
  have er : ((rooms.length : Nat) : Int) - 1 = ((rooms.length - 1 : Nat) : Int) := by omega
  rw [er, Int.toNat_natCast]
  have := doors_loop d0 d4 h2 (A := { nx := dRet (dCallI sp_mixed 0 0 (dHere 0 (dCons (dVar 3) dNil)) R0) (fnE (some 0) ret), rt := (fnE (some 0) ret).rt, bk := (fnE (some 0) ret).bk, ct := (fnE (some 0) ret).ct }) (rooms.length - 1) 0 [] (n - 1) none none none (by omega) rfl (fun k hk => absurd hk (by simp)) (by omega) fun es h4 h5 h6 el ep => by
    simp
    refine ⟨_, _, rfl, ?_, ?_, fun ys hy => ?_⟩
    · simp
      omega
    · simp
      omega
    · obtain ⟨l, hl2, rfl⟩ := perm_map hy rfl
      refine ⟨_, rfl, ?_⟩
      have := hr es l ⟨el, fun k hk => ep k hk⟩ hl2
      have e3 : n - 1 - 3 * (rooms.length - 1) - (es.map pairD).length = n - (4 * rooms.length - 3) := by rw [List.length_map]; omega
      rw [e3]
      exact this
  simpa [sL] using this

/-! ### a house drawn -/
def sp_house0 : SpD := fun args ret exc => ∃ (n most : Nat), args = [(1, .spr n), (0, .int (most : Nat))] ∧ 100 ≤ n ∧ 1 ≤ most ∧ most ≤ 11 ∧
  ∀ (rooms rooms' : List Str) (es doors : List (Str × Str)) (n' : Nat), n ≤ n' + 100 → rooms.Nodup → rooms ≠ [] → rooms.length ≤ most → (∀ x ∈ rooms, x ∈ NAMES) → rooms'.Perm rooms → EdgesOf rooms es → doors.Perm es →
    ret (0, .tup [sL rooms', .lst (doors.map pairD)]) (1, .spr n')
theorem mono_house0 : MonoSp sp_house0 := fun args ret ret' exc exc' k _ ⟨n, many, e, h0, h1, h2, h⟩ => ⟨n, many, e, h0, h1, h2, fun a b c d e f g h' i j l m o => k _ _ (h a b c d e f g h' i j l m o)⟩
theorem plain_house0 {args : List Sl} {ret : Sl → Sl → Prop} {exc : Exc → Prop} (h : sp_house0 args ret exc) : t__law_h_house sp_names sp_draw sp_mixed sp_doors (fnE (some 0) ret) (start0 3 args) := by
  obtain ⟨n, most, rfl, h0, h1, h2, hr⟩ := h
  simp [t__law_h_house, start0]
  refine ⟨n - 1, most, by congr 3; omega, by omega, by omega, fun d d0 d1 => ?_⟩
  obtain ⟨i, rfl⟩ := Int.eq_ofNat_of_zero_le d0
  simp
  refine ⟨n - 1, 1 + i, by simp, by omega, by omega, fun rooms nd hl hm => ?_⟩
  simp [sL]
  refine ⟨n - 1 - 12, rooms.map D.str, rfl, by simp; omega, by simp; omega, fun ys hy => ?_⟩
  obtain ⟨rooms', hp, rfl⟩ := perm_map hy rfl
  simp
  have hne : rooms ≠ [] := fun e => by rw [e] at hl; simp at hl; omega
  refine ⟨_, rooms, rfl, hne, by omega, by omega, fun es doors he hd => ?_⟩
  simp
  refine ⟨by rw [sizeLine_eq]; omega, _, rfl, ?_⟩
  exact hr rooms rooms' es doors _ (by omega) nd hne (by omega) hm hp he hd
end K06

/-! K06c: names, pairs, rooms looked at. -/
namespace K06
open PySem PySem.Spec PyProof.Rows L2 DL

abbrev N0 : Sl := (0, .non)
def sp_is_list : SpD := fun args ret exc => ∃ xs, (args = [(0, .lst xs)] ∨ args = [(0, .tup xs)]) ∧ ret (0, .bl true) N0
theorem mono_is_list : MonoSp sp_is_list := fun args ret ret' exc exc' k _ ⟨xs, e, h⟩ => ⟨xs, e, k _ _ h⟩
theorem plain_is_list {args : List Sl} {ret : Sl → Sl → Prop} {exc : Exc → Prop} (h : sp_is_list args ret exc) : t_is_list (fnE none ret) (start0 1 args) := by
  obtain ⟨xs, e, h⟩ := h
  have hs : 2 ≤ sizeLine := by rw [sizeLine_eq]; omega
  rcases e with rfl | rfl
  · simp [t_is_list, start0, tyD, isTy, tysB, hs]
    exact h
  · simp [t_is_list, start0, tyD, isTy, tysB, hs]
    exact h
def sp_is_integer : SpD := fun args ret exc => ∃ i : Int, args = [(0, .int i)] ∧ ret (0, .bl true) N0
theorem mono_is_integer : MonoSp sp_is_integer := fun args ret ret' exc exc' k _ ⟨xs, e, h⟩ => ⟨xs, e, k _ _ h⟩
theorem plain_is_integer {args : List Sl} {ret : Sl → Sl → Prop} {exc : Exc → Prop} (h : sp_is_integer args ret exc) : t_is_integer (fnE none ret) (start0 1 args) := by
  obtain ⟨i, rfl, h⟩ := h
  simp [t_is_integer, start0, tyD, isTy, tysB]
  exact h

/-! ### names -/
def SMALL : Str := "abcdefghijklmnopqrstuvwxyz"
def FIGS : Str := "0123456789"
def okName (x : Str) : Bool := decide (0 < x.length ∧ x.length ≤ 12) && ((match x.cps.toList[0]? with
  | some c => decide (c ∈ SMALL.cps.toList)
  | none => false) && x.cps.toList.all fun c => decide (c ∈ (SMALL ++ FIGS).cps.toList))
theorem names_ok : ∀ x ∈ NAMES, okName x = true := by decide +kernel
def sp_is_name : SpD := fun args ret exc => ∃ x : Str, args = [(0, .str x)] ∧ x ∈ NAMES ∧ ret (0, .bl true) N0
theorem mono_is_name : MonoSp sp_is_name := fun args ret ret' exc exc' k _ ⟨xs, e, h0, h⟩ => ⟨xs, e, h0, k _ _ h⟩
theorem plain_is_name {args : List Sl} {ret : Sl → Sl → Prop} {exc : Exc → Prop} (h : sp_is_name args ret exc) : t_is_name (fnE none ret) (start0 2 args) := by
  obtain ⟨x, rfl, hx, h⟩ := h
  have ok := names_ok x hx
  unfold okName at ok
  simp only [Bool.and_eq_true, decide_eq_true_eq] at ok
  obtain ⟨⟨l0, l12⟩, hc, hall⟩ := ok
  have hs : x.length ≤ sizeLine := by rw [sizeLine_eq]; omega
  obtain ⟨c, e0⟩ : ∃ c, x.cps.toList[0]? = some c := by
    cases e : x.cps.toList[0]? with
    | none => rw [e] at hc; cases hc
    | some c => exact ⟨c, rfl⟩
  rw [e0] at hc
  have hc : c ∈ SMALL.cps.toList := of_decide_eq_true hc
  have hl : 0 < x.cps.toList.length := (List.getElem?_eq_some_iff.mp e0).1
  have e1 : atI x.cps.toList 0 = some c := by
    have := atI_nat (xs := x.cps.toList) (n := 0) hl
    rw [e0] at this
    simpa using this
  have z1 : (0 : Int) < ((x.length : Nat) : Int) := by omega
  have z2 : ((x.length : Nat) : Int) ≤ 12 := by omega
  have ix : ∀ {k : Sl → Prop}, k (0, .str ⟨#[c]⟩) → wIx (.str x) (.int 0) k := fun q => xIxS hs e1 q
  simp [t_is_name, start0, tyD, isTy, tysB, hs, z1, z2]
  rw [if_pos l0]
  refine ix ?_
  have hc' : decide (c ∈ ("abcdefghijklmnopqrstuvwxyz" : Str).cps.toList) = true := decide_eq_true hc
  simp only [xInStr, hc', Bool.true_xor, Bool.not_true]
  rw [if_neg Bool.false_ne_true]
  refine ⟨?_, lc_map (f := fun _ => .bl true) (fun d hd K1 K0 hk => ?_) ?_⟩
  · show (strD x).length ≤ sizeLine
    have : (strD x).length = x.length := by simp [strD]; rfl
    omega
  · obtain ⟨c', hc1, rfl⟩ := List.mem_map.mp hd
    have hin : decide (c' ∈ (("abcdefghijklmnopqrstuvwxyz" : Str) ++ ("0123456789" : Str)).cps.toList) = true := by
      have := List.all_eq_true.mp hall c' hc1
      exact this
    have hz : ("abcdefghijklmnopqrstuvwxyz" : Str).length + ("0123456789" : Str).length ≤ sizeLine := by
      rw [sizeLine_eq]
      decide +kernel
    simp [hz]
    have hin2 : c' ∈ (("abcdefghijklmnopqrstuvwxyz" : Str) ++ ("0123456789" : Str)).cps := Array.mem_toList_iff.mp (of_decide_eq_true hin)
    rw [decide_eq_true hin2]
    exact hk
  · have e : (strD x).map (fun _ => D.bl true) = (List.replicate x.length true).map D.bl := by
      unfold strD
      rw [List.map_map, List.map_replicate]
      refine List.eq_replicate_iff.mpr ⟨by simp; rfl, fun d hd => ?_⟩
      obtain ⟨_, _, e⟩ := List.mem_map.mp hd
      exact e.symm
    rw [List.nil_append, e, xAllAny]
    have : (List.replicate x.length true).all id = true := by simp
    rw [this]
    exact h

/-! ### pairs -/
def sp_is_pair_of : SpD := fun args ret exc => ∃ (a b : Str) (kvs : List (Key × D)), args = [(0, pairD (a, b)), (0, .dic kvs)] ∧ a ≠ b ∧ (valD kvs (.inr a)).isSome = true ∧ (valD kvs (.inr b)).isSome = true ∧ ret (0, .bl true) N0
theorem mono_is_pair_of : MonoSp sp_is_pair_of := fun args ret ret' exc exc' k _ ⟨a, b, kvs, e, h0, h1, h2, h⟩ => ⟨a, b, kvs, e, h0, h1, h2, k _ _ h⟩
theorem plain_is_pair_of {args : List Sl} {ret : Sl → Sl → Prop} {exc : Exc → Prop} (h : sp_is_pair_of args ret exc) : t_is_pair_of sp_is_list (fnE none ret) (start0 3 args) := by
  obtain ⟨a, b, kvs, rfl, h0, h1, h2, h⟩ := h
  simp [t_is_pair_of, start0, pairD]
  refine ⟨_, .inr rfl, ?_⟩
  have hs : 2 ≤ sizeLine := by rw [sizeLine_eq]; omega
  simp [hs]
  refine lc_map (f := fun _ => .bl true) (fun d hd K1 K0 hk => ?_) ?_
  · have hd' : d = .str a ∨ d = .str b := by simpa using hd
    rcases hd' with rfl | rfl
    · simp [tyD, isTy, tysB, h1]
      exact hk
    · simp [tyD, isTy, tysB, h2]
      exact hk
  · show wAllAny (fun bs => bs.all id) [.lst ([true, true].map D.bl)] _
    rw [xAllAny]
    simp [h0]
    exact h

/-! ### the rooms looked at -/
def sp_checked_rooms : SpD := fun args ret exc => ∃ rooms : List Str, args = [(0, sL rooms)] ∧ rooms.Nodup ∧ rooms ≠ [] ∧ rooms.length < 64 ∧ (∀ x ∈ rooms, x ∈ NAMES) ∧ ∀ ys : List Str, ys.Perm rooms → sortedS ys = true → ret (1, sL ys) N0
theorem mono_checked_rooms : MonoSp sp_checked_rooms := fun args ret ret' exc exc' k _ ⟨a, e, h0, h1, h2, h3, h⟩ => ⟨a, e, h0, h1, h2, h3, fun ys b c => k _ _ (h ys b c)⟩
theorem rooms_loop {rooms : List Str} {A : DE} (hN : ∀ x ∈ rooms, x ∈ NAMES) (hd : rooms.Nodup) : ∀ (rest pre : List Str) (h1 h2 : Option Sl), rooms = pre ++ rest → (∀ h1 h2, A.nx [some (0, sL rooms), h1, h2]) →
    dForL (dTup 2 (gCons (gN 1) (gCons (gN 2) gNil))) (dIf (dOr (dNot (dT (dCall sp_is_name (dCons (dVar 2) dNil) R0))) (dT (dB wIn (dVar 2) (dSlice (dVar 0) dNoPart (dPart (dVar 1)))))) dNever dNext) A (enumD pre.length (rest.map D.str)) [some (0, sL rooms), h1, h2]
  | [], pre, h1, h2, e, k => k _ _
  | x :: rest, pre, h1, h2, e, k => by
    have IH := fun h1 h2 => rooms_loop hN hd (A := A) rest (pre ++ [x]) h1 h2 (by rw [e]; simp) k
    rw [List.map_cons, enumD, xForCons]
    rw [List.length_append, List.length_singleton] at IH
    have hx : x ∈ rooms := by rw [e]; simp
    have hxp : x ∉ pre := fun h => by
      rw [e] at hd
      exact (List.nodup_append.mp hd).2.2 x h x (by simp) rfl
    generalize dForL (dTup 2 (gCons (gN 1) (gCons (gN 2) gNil))) (dIf (dOr (dNot (dT (dCall sp_is_name (dCons (dVar 2) dNil) R0))) (dT (dB wIn (dVar 2) (dSlice (dVar 0) dNoPart (dPart (dVar 1)))))) dNever dNext) A (enumD (pre.length + 1) (rest.map D.str)) = G at IH ⊢
    simp
    refine ⟨x, rfl, hN x hx, ?_⟩
    simp [sL]
    rw [cut_to, ← List.map_take]
    have et : rooms.take pre.length = pre := by rw [e]; simp
    rw [et, show wIn = wInB false from rfl, xInLS]
    simp [hxp]
    exact IH _ _
theorem plain_checked_rooms {args : List Sl} {ret : Sl → Sl → Prop} {exc : Exc → Prop} (h : sp_checked_rooms args ret exc) : t_checked_rooms sp_is_list sp_is_name (fnE none ret) (start0 3 args) := by
  obtain ⟨rooms, rfl, h0, h1, h2, h3, h⟩ := h
  simp [t_checked_rooms, start0, sL]
  refine ⟨_, .inl rfl, ?_⟩
  simp [h1]
  refine rooms_loop h3 h0 rooms [] none none rfl fun g1 g2 => ?_
  simp [sL]
  exact xSortS h2 fun ys hp hs => h ys hp hs
def sp_len (C : Addr) : SpD := fun args ret exc => ∃ (fs : List (Str × D)) (xs : List D), args = [(0, .ins C fs)] ∧ fs.lookup ("own_rooms" : Str) = some (.lst xs) ∧ ret (0, .int xs.length) N0
theorem mono_len' {C : Addr} : MonoSp (sp_len C) := fun args ret ret' exc exc' k _ ⟨a, b, e, h0, h⟩ => ⟨a, b, e, h0, k _ _ h⟩
theorem plain_len {C : Addr} {args : List Sl} {ret : Sl → Sl → Prop} {exc : Exc → Prop} (h : sp_len C args ret exc) : t_House_len C (fnE none ret) (start0 1 args) := by
  obtain ⟨fs, xs, rfl, h0, h⟩ := h
  simp [t_House_len, start0]
  refine ⟨_, h0, ?_⟩
  simp
  exact h
end K06

/-! K06e: the doors looked at. -/
namespace K06
open PySem PySem.Spec PyProof.Rows L2 DL

/-- the rooms beside a room, as the doors come -/
def nb (E : List (Str × Str)) (r : Str) : List Str := E.flatMap fun e => (if e.1 = r then [e.2] else []) ++ (if e.2 = r then [e.1] else [])
theorem nb_len (E : List (Str × Str)) (r : Str) : (nb E r).length ≤ 2 * E.length := by
  induction E with
  | nil => simp [nb]
  | cons e E ih =>
    have : nb (e :: E) r = ((if e.1 = r then [e.2] else []) ++ (if e.2 = r then [e.1] else [])) ++ nb E r := by simp [nb]
    rw [this, List.length_append, List.length_append, List.length_cons]
    have h1 : (if e.1 = r then [e.2] else []).length ≤ 1 := by split <;> simp
    have h2 : (if e.2 = r then [e.1] else []).length ≤ 1 := by split <;> simp
    omega
theorem nb_snoc (E : List (Str × Str)) (e : Str × Str) (r : Str) : nb (E ++ [e]) r = nb E r ++ ((if e.1 = r then [e.2] else []) ++ (if e.2 = r then [e.1] else [])) := by
  simp [nb]
/-- lots: which rooms hang together by the doors done -/
structure Lots (rooms : List Str) (done : List (Str × Str)) (L : Str → List Str) : Prop where
  self : ∀ x ∈ rooms, x ∈ L x
  sub : ∀ x ∈ rooms, ∀ y ∈ L x, y ∈ rooms
  cut : ∀ S : Str → Prop, (∀ f ∈ done, (S f.1 ↔ S f.2)) → ∀ x ∈ rooms, ∀ y ∈ L x, (S y ↔ S x)
  same : ∀ x ∈ rooms, ∀ y ∈ L x, L y = L x
  ends : ∀ f ∈ done, L f.1 = L f.2
  len : ∀ x ∈ rooms, (L x).length ≤ 2 ^ done.length
theorem lots0 (rooms : List Str) : Lots rooms [] fun r => [r] :=
  ⟨fun _ _ => by simp, fun x hx y hy => by rw [List.mem_singleton.mp hy]; exact hx, fun S _ x _ y hy => by rw [List.mem_singleton.mp hy], fun x _ y hy => by rw [List.mem_singleton.mp hy], fun f hf => absurd hf (by simp), fun x _ => by simp⟩
theorem Lots.step {rooms : List Str} {done : List (Str × Str)} {L : Str → List Str} (I : Lots rooms done L) {a b : Str} (ha : a ∈ rooms) (hb : b ∈ rooms) (hd : ∀ f ∈ done, f.1 ∈ rooms ∧ f.2 ∈ rooms) :
    Lots rooms (done ++ [(a, b)]) fun x => if x ∈ L a ++ L b then L a ++ L b else L x := by
  have inlot : ∀ x ∈ rooms, ∀ y ∈ L x, (y ∈ L a ++ L b ↔ x ∈ L a ++ L b) := fun x hx y hy => by
    have e := I.same x hx y hy
    constructor
    · intro h
      rcases List.mem_append.mp h with h | h
      · have e2 := I.same a ha y h
        exact List.mem_append_left _ (by have := I.self x hx; rw [← e, e2] at this; exact this)
      · have e2 := I.same b hb y h
        exact List.mem_append_right _ (by have := I.self x hx; rw [← e, e2] at this; exact this)
    · intro h
      rcases List.mem_append.mp h with h | h
      · have e2 := I.same a ha x h
        exact List.mem_append_left _ (by rw [e2] at hy; exact hy)
      · have e2 := I.same b hb x h
        exact List.mem_append_right _ (by rw [e2] at hy; exact hy)
  refine ⟨fun x hx => ?_, fun x hx y hy => ?_, fun S hS x hx y hy => ?_, fun x hx y hy => ?_, fun f hf => ?_, fun x hx => ?_⟩
  · split
    · assumption
    · exact I.self x hx
  · split at hy
    · rcases List.mem_append.mp hy with h | h
      · exact I.sub a ha y h
      · exact I.sub b hb y h
    · exact I.sub x hx y hy
  · have hS' : ∀ f ∈ done, (S f.1 ↔ S f.2) := fun f hf => hS f (List.mem_append_left _ hf)
    have hab : S a ↔ S b := hS (a, b) (by simp)
    have key : ∀ z ∈ L a ++ L b, (S z ↔ S a) := fun z hz => by
      rcases List.mem_append.mp hz with h | h
      · exact I.cut S hS' a ha z h
      · exact (I.cut S hS' b hb z h).trans hab.symm
    split at hy
    · rename_i hx'
      exact (key y hy).trans (key x hx').symm
    · exact I.cut S hS' x hx y hy
  · split at hy
    · rename_i hx'
      rw [if_pos hy, if_pos hx']
    · rename_i hx'
      have h := inlot x hx y hy
      rw [if_neg fun z => hx' (h.mp z), if_neg hx']
      exact I.same x hx y hy
  · rcases List.mem_append.mp hf with h | h
    · obtain ⟨h1, h2⟩ := hd f h
      have e := I.ends f h
      have m : f.2 ∈ L f.1 := by rw [e]; exact I.self _ h2
      have q := inlot f.1 h1 f.2 m
      by_cases z : f.1 ∈ L a ++ L b
      · rw [if_pos z, if_pos (q.mpr z)]
      · rw [if_neg z, if_neg fun w => z (q.mp w)]
        exact e
    · have e : f = (a, b) := by simpa using h
      rw [e]
      rw [if_pos (List.mem_append_left _ (I.self a ha)), if_pos (List.mem_append_right _ (I.self b hb))]
  · have l1 := I.len a ha
    have l2 := I.len b hb
    have l3 := I.len x hx
    rw [List.length_append, List.length_singleton, Nat.pow_succ]
    split
    · rw [List.length_append]
      omega
    · omega

/-! ### the walk -/
def sp_checked_doors : SpD := fun args ret exc => ∃ (rooms : List Str) (doors : List (Str × Str)), args = [(0, .lst (doors.map pairD)), (0, sL rooms)] ∧ rooms.Nodup ∧ rooms.length < 20 ∧ Tree rooms doors ∧
  ∀ f : Str → List Str, (∀ r ∈ rooms, (f r).Perm (nb doors r) ∧ sortedS (f r) = true) → ret (1, .dic (dicF rooms fun r => sL (f r))) N0
theorem mono_checked_doors : MonoSp sp_checked_doors := fun args ret ret' exc exc' k _ ⟨a, b, e, h0, h1, h2, h⟩ => ⟨a, b, e, h0, h1, h2, fun f hf => k _ _ (h f hf)⟩
/-- the last loop of a door: lots[room] = lot -/
theorem lot_loop {rooms lot : List Str} {L : Str → List Str} {A : DE} {s0 s1 s3 s4 s5 s6 s7 s10 : Option Sl} (hl : rooms.length < 20) : ∀ (todo done : List Str) (h9 : Option Sl), (∀ x ∈ todo, x ∈ rooms) →
    (∀ h9, A.nx [s0, s1, some (1, .dic (dicF rooms fun r => if r ∈ done ++ todo then sL lot else sL (L r))), s3, s4, s5, s6, s7, some (0, sL lot), h9, s10]) →
    dForL (gN 9) (dPut 2 (dVar 9) (dVar 8)) A (todo.map D.str) [s0, s1, some (1, .dic (dicF rooms fun r => if r ∈ done then sL lot else sL (L r))), s3, s4, s5, s6, s7, some (0, sL lot), h9, s10]
  | [], done, h9, hm, k => by
    have := k h9
    simpa using this
  | x :: todo, done, h9, hm, k => by
    rw [List.map_cons, xForCons]
    have IH := fun h9 => lot_loop hl (A := A) (s0 := s0) (s1 := s1) (s3 := s3) (s4 := s4) (s5 := s5) (s6 := s6) (s7 := s7) (s10 := s10) (L := L) todo (done ++ [x]) h9 (fun y hy => hm y (List.mem_cons_of_mem _ hy)) (by simpa using k)
    generalize dForL (gN 9) (dPut 2 (dVar 9) (dVar 8)) A (todo.map D.str) = G at IH ⊢
    have hx := hm x List.mem_cons_self
    simp [dPut]
    refine ⟨by rw [dicF_len, sizeLine_eq]; omega, ?_⟩
    rw [dicF_put hx]
    have e : (dicF rooms fun r => if r = x then sL lot else if r ∈ done then sL lot else sL (L r)) = dicF rooms fun r => if r ∈ done ++ [x] then sL lot else sL (L r) := dicF_congr fun r _ => by
      by_cases h1 : r = x
      · simp [h1]
      · simp [h1]
    rw [e]
    exact IH _
def bDo : TSd := (dSeq (dIf (dFlatB (dOr (dNot (dT (dCall sp_is_pair_of (dCons (dVar 5) (dCons (dVar 3) dNil)) R0))) (dT (dB wIn (dB wIx (dVar 5) (dC (.int 1))) (dB wIx (dVar 2) (dB wIx (dVar 5) (dC (.int 0)))))))) dNever dNext)
  (dSeq (dAsg (dVar 5) (dTup 2 (gCons (gN 6) (gCons (gN 7) gNil))))
  (dSeq (dExpr (dAppIx 3 (dVar 6) (dVar 7)))
  (dSeq (dExpr (dAppIx 3 (dVar 7) (dVar 6)))
  (dSeq (dSet 8 (dB wAdd (dIxO 2 (dVar 6)) (dIxO 2 (dVar 7))))
  (dFor (dSeqI (dVar 8)) (gN 9) (dPut 2 (dVar 9) (dVar 8))))))))
theorem doors_walk {rooms : List Str} {doors : List (Str × Str)} {A : DE} {s0 s1 : Sl} {s10 : Option Sl} (hl : rooms.length < 20) (hn : rooms.Nodup) (hT : Tree rooms doors) : ∀ (rest done : List (Str × Str)) (L : Str → List Str) (h4 h5 h6 h7 h8 h9 : Option Sl), doors = done ++ rest → Lots rooms done L →
    (∀ L h4 h5 h6 h7 h8 h9, Lots rooms doors L → A.nx [some s0, some s1, some (1, .dic (dicF rooms fun r => sL (L r))), some (2, .dic (dicF rooms fun r => sL (nb doors r))), h4, h5, h6, h7, h8, h9, s10]) →
    dForL (dTup 2 (gCons (gN 4) (gCons (gN 5) gNil))) bDo A (enumD done.length (rest.map pairD)) [some s0, some s1, some (1, .dic (dicF rooms fun r => sL (L r))), some (2, .dic (dicF rooms fun r => sL (nb done r))), h4, h5, h6, h7, h8, h9, s10]
  | [], done, L, h4, h5, h6, h7, h8, h9, e, I, k => by
    have ed : doors = done := by simpa using e
    subst ed
    exact k L h4 h5 h6 h7 h8 h9 I
  | (a, b) :: rest, done, L, h4, h5, h6, h7, h8, h9, e, I, k => by
    have IH := fun L h4 h5 h6 h7 h8 h9 I => doors_walk hl hn hT (A := A) (s0 := s0) (s1 := s1) (s10 := s10) rest (done ++ [(a, b)]) L h4 h5 h6 h7 h8 h9 (by rw [e]; simp) I k
    rw [List.length_append, List.length_singleton] at IH
    obtain ⟨R0, E0, t, pR, pE⟩ := hT
    have hends : ∀ f ∈ doors, f.1 ∈ rooms ∧ f.2 ∈ rooms ∧ f.1 ≠ f.2 := fun f hf => by
      have := t.ends f (pE.mem_iff.mpr hf)
      exact ⟨pR.mem_iff.mp this.1, pR.mem_iff.mp this.2.1, this.2.2⟩
    have hab := hends (a, b) (by rw [e]; simp)
    have ha : a ∈ rooms := hab.1
    have hb : b ∈ rooms := hab.2.1
    have ne : a ≠ b := hab.2.2
    have hdl : done.length < 20 := by
      have h1 := t.len
      have h2 := pR.length_eq
      have h3 := pE.length_eq
      rw [e] at h3
      simp at h3
      omega
    -- the door joins two lots
    have cut : b ∉ L a := fun hbl => by
      have p : E0.Perm ((a, b) :: (done ++ rest)) := pE.trans (by rw [e]; exact List.perm_middle)
      obtain ⟨S, h1, h2⟩ := t.cut (a, b) (done ++ rest) p
      have := I.cut S (fun f hf => h2 f (List.mem_append_left _ hf)) a ha b hbl
      have h1 : S a ↔ ¬ S b := h1
      have : S b ↔ S a := this
      by_cases z : S b
      · exact (h1.mp (this.mp z)) z
      · exact z (this.mpr (h1.mpr z))
    have I2 := I.step ha hb (fun f hf => ⟨(hends f (by rw [e]; exact List.mem_append_left _ hf)).1, (hends f (by rw [e]; exact List.mem_append_left _ hf)).2.1⟩)
    rw [List.map_cons, enumD, xForCons]
    generalize dForL (dTup 2 (gCons (gN 4) (gCons (gN 5) gNil))) bDo A (enumD (done.length + 1) (rest.map pairD)) = G at IH ⊢
    have va := dicF_val (f := fun r => sL (nb done r)) ha
    have vb := dicF_val (f := fun r => sL (nb done r)) hb
    have la := dicF_val (f := fun r => sL (L r)) ha
    have lb := dicF_val (f := fun r => sL (L r)) hb
    simp [bDo, xfrzOpt]
    refine ⟨a, b, _, rfl, ne, by rw [va]; rfl, by rw [vb]; rfl, ?_⟩
    have na : ∀ x, (nb done x).length < sizeLine := fun x => by
      have := nb_len done x
      rw [sizeLine_eq]
      omega
    simp [pairD, la]
    have hin : (wIn (.str b) (sL (L a)) = wInB false (.str b) (.lst ((L a).map D.str))) := rfl
    rw [hin, xInLS]
    simp [cut, va]
    dsimp only [sL]
    refine ⟨by rw [List.length_map]; exact na a, ?_⟩
    rw [dicF_set hn ha, dicF_val hb]
    simp only [if_neg (Ne.symm ne)]
    refine ⟨by rw [List.length_map]; exact na b, ?_⟩
    rw [dicF_set hn hb, dicF_val hb]
    have l1 := I.len a ha
    have l2 := I.len b hb
    have l3 : 2 ^ done.length ≤ 2 ^ 19 := Nat.pow_le_pow_right (by omega) (by omega)
    dsimp only
    rw [xAddL]
    refine ⟨by rw [List.length_map, List.length_map, sizeLine_eq]; omega, ?_⟩
    dsimp only [seqD]
    have ef : (dicF rooms fun r => if r = b then D.lst ((nb done b).map D.str ++ [D.str a]) else if r = a then D.lst ((nb done a).map D.str ++ [D.str b]) else D.lst ((nb done r).map D.str)) = dicF rooms fun r => sL (nb (done ++ [(a, b)]) r) := dicF_congr fun r _ => by
      rw [nb_snoc]
      unfold sL
      by_cases h1 : r = a
      · subst h1
        simp [ne, Ne.symm ne]
      · by_cases h2 : r = b
        · subst h2
          simp [ne, Ne.symm ne]
        · simp [h1, h2, Ne.symm h1, Ne.symm h2]
    rw [ef]
    have mm : ∀ x ∈ L a ++ L b, x ∈ rooms := fun x hx => (List.mem_append.mp hx).elim (I.sub a ha x) (I.sub b hb x)
    have := lot_loop (A := { nx := G, rt := A.rt, bk := A.nx, ct := G }) (s0 := some s0) (s1 := some s1) (s3 := some (2, .dic (dicF rooms fun r => sL (nb (done ++ [(a, b)]) r)))) (s4 := some (0, .int ((done.length : Nat) : Int))) (s5 := some (0, .tup [.str a, .str b])) (s6 := some (0, .str a)) (s7 := some (0, .str b)) (s10 := s10) (L := L) (lot := L a ++ L b) hl (L a ++ L b) [] h9 mm fun g9 => by
      have := IH _ (some (0, .int ((done.length : Nat) : Int))) (some (0, .tup [.str a, .str b])) (some (0, .str a)) (some (0, .str b)) (some (0, sL (L a ++ L b))) g9 I2
      have eL : (dicF rooms fun r => if r ∈ [] ++ (L a ++ L b) then sL (L a ++ L b) else sL (L r)) = dicF rooms fun r => sL (if r ∈ L a ++ L b then L a ++ L b else L r) := dicF_congr fun r _ => by
        rw [List.nil_append]
        split <;> rfl
      rw [eL]
      exact this
    simpa [sL] using this
theorem pair_seq {doors : List (Str × Str)} : (doors.map pairD).length = doors.length := by simp
theorem plain_checked_doors {args : List Sl} {ret : Sl → Sl → Prop} {exc : Exc → Prop} (h : sp_checked_doors args ret exc) : t_checked_doors sp_is_list sp_is_pair_of (fnE none ret) (start0 11 args) := by
  obtain ⟨rooms, doors, rfl, hn, hl, hT, h⟩ := h
  have hz : rooms.length ≤ sizeLine := by rw [sizeLine_eq]; omega
  have e0 : t_checked_doors sp_is_list sp_is_pair_of = (dSeq (dIf (dNot (dT (dCall sp_is_list (dCons (dVar 0) dNil) R0))) dNever dNext)
  (dSeq (dPar2 2 3 (dDc 0 [9] (dSeqI (dVar 1)) (gN 9) dYes (dVar 9) (dL wLst (dCons (dVar 9) dNil))) (dDc 1 [9] (dSeqI (dVar 1)) (gN 9) dYes (dVar 9) (dL wLst dNil)))
  (dSeq (dFor (dEnum (dCons (dVar 0) dNil)) (dTup 2 (gCons (gN 4) (gCons (gN 5) gNil))) bDo)
  (dSeq (dSet 10 (dLc [9] (dSeqI (dVar 1)) (gN 9) (dT (dB wNotIn (dVar 9) (dB wIx (dVar 2) (dB wIx (dVar 1) (dC (.int 0)))))) (dVar 9)))
  (dSeq (dIf (dT (dB wNe (dVar 10) (dL wLst dNil))) dNever dNext)
  (dRet (dDc 0 [9] (dSeqI (dVar 1)) (gN 9) dYes (dVar 9) (dL wSortS (dCons (dB wIx (dVar 3) (dVar 9)) dNil))))))))) := rfl
  rw [e0]
  simp [start0]
  refine ⟨_, .inl rfl, ?_⟩
  have o1 : 1 ≤ sizeLine := by rw [sizeLine_eq]; omega
  have o0 : 0 ≤ sizeLine := Nat.zero_le _
  simp [sL, hz]
  refine dc_rooms (V := fun r d => d = .lst [.str r]) hn (fun r hr G acc hac hG => ?_) (fun f hf => ?_) rooms [] (fun r => .non) rfl (fun r hr => absurd hr (by simp))
  · simp [o1]
    exact hG _ rfl
  simp [hz]
  refine dc_rooms (V := fun r d => d = .lst []) hn (fun r hr G acc hac hG => ?_) (fun g hg => ?_) rooms [] (fun r => .non) rfl (fun r hr => absurd hr (by simp))
  · simp [hac]
    exact hG _ rfl
  simp
  have ef : dicF rooms f = dicF rooms fun r => sL [r] := dicF_congr fun r hr => hf r hr
  have eg : dicF rooms g = dicF rooms fun r => sL (nb [] r) := dicF_congr fun r hr => hg r hr
  rw [ef, eg]
  have W := fun A => doors_walk (A := A) (s0 := (0, .lst (doors.map pairD))) (s1 := (0, .lst (rooms.map D.str))) (s10 := none) hl hn hT doors [] (fun r => [r]) none none none none none none rfl (lots0 rooms)
  refine W _ fun L h4 h5 h6 h7 h8 h9 I => ?_
  obtain ⟨R0, E0, t, pR, pE⟩ := id hT
  have hne : rooms ≠ [] := fun e => t.ne (by rw [e] at pR; exact pR.eq_nil)
  obtain ⟨r0, rs, er⟩ := List.exists_cons_of_ne_nil hne
  have h0 : r0 ∈ rooms := by rw [er]; simp
  have all0 : ∀ x ∈ rooms, x ∈ L r0 := fun x hx => by
    have := t.conn L (fun e he => I.ends e (pE.mem_iff.mp he)) x (pR.mem_iff.mpr hx) r0 (pR.mem_iff.mpr h0)
    rw [← this]
    exact I.self x hx
  have at0 : atI (rooms.map D.str) 0 = some (.str r0) := by rw [er, List.map_cons, atI0]
  have v0 := dicF_val (f := fun r => sL (L r)) h0
  simp [hz]
  refine lc_filterI (p := fun _ => false) (f := id) (Inv := fun ρ => ∃ m, ρ = [some (0, .lst (doors.map pairD)), some (0, .lst (rooms.map D.str)), some (m, .dic (dicF rooms fun r => sL (L r))), some (2, .dic (dicF rooms fun r => sL (nb doors r))), h4, h5, h6, h7, h8, none, none]) (fun x hx ρ hi K1 K0 k1 k0 => ?_) ⟨1, rfl⟩ fun ρ hi => ?_
  · obtain ⟨m, rfl⟩ := hi
    obtain ⟨y, hy, rfl⟩ := List.mem_map.mp hx
    simp [at0, v0]
    have hin : (wNotIn (.str y) (sL (L r0)) = wInB true (.str y) (.lst ((L r0).map D.str))) := rfl
    rw [hin, xInLS]
    simp [all0 y hy]
    exact k0 rfl _ ⟨0, rfl⟩
  · obtain ⟨m, rfl⟩ := hi
    have enil : ((rooms.map D.str).filter fun _ => false).map id = [] := by simp
    rw [enil]
    simp [hz]
    refine dc_roomsI (V := fun r d => ∃ ys : List Str, d = sL ys ∧ ys.Perm (nb doors r) ∧ sortedS ys = true) (Inv := fun ρ => ∃ m3, ρ = [some (0, .lst (doors.map pairD)), some (0, .lst (rooms.map D.str)), some (m, .dic (dicF rooms fun r => sL (L r))), some (m3, .dic (dicF rooms fun r => sL (nb doors r))), h4, h5, h6, h7, h8, none, some (0, .lst [])]) hn (fun r hr ρ hi G acc hac hG => ?_) (fun f ρ' hi hf => ?_) rooms [] (fun r => .non) _ rfl (fun r hr => absurd hr (by simp)) ⟨2, rfl⟩
    · obtain ⟨m3, rfl⟩ := hi
      have vr := dicF_val (f := fun r => sL (nb doors r)) hr
      have hd : doors.length < 20 := by
        have h1 := t.len
        have h2 := pR.length_eq
        have h3 := pE.length_eq
        omega
      have hb := nb_len doors r
      simp [vr]
      show wSortS [.lst ((nb doors r).map D.str)] _
      refine xSortS (by omega) fun ys hp hs => ?_
      exact hG _ _ ⟨0, rfl⟩ ⟨ys, rfl, hp, hs⟩
    · obtain ⟨m3, rfl⟩ := hi
      have hc : ∀ r, ∃ ys : List Str, r ∈ rooms → f r = sL ys ∧ ys.Perm (nb doors r) ∧ sortedS ys = true := fun r => by
        by_cases hr : r ∈ rooms
        · obtain ⟨ys, h1⟩ := hf r hr
          exact ⟨ys, fun _ => h1⟩
        · exact ⟨[], fun h => absurd h hr⟩
      have := h (fun r => Classical.choose (hc r)) fun r hr => ⟨(Classical.choose_spec (hc r) hr).2.1, (Classical.choose_spec (hc r) hr).2.2⟩
      rw [dicF_congr fun r hr => (Classical.choose_spec (hc r) hr).1]
      exact this
end K06

/-! K06f: houses, woods. -/
namespace K06
open PySem PySem.Spec PyProof.Rows L2 DL

theorem edges_tr {rooms : List Str} {es : List (Str × Str)} (nd : rooms.Nodup) (h : EdgesOf rooms es) : Tree rooms es := by
  have key : ∀ k, k ≤ es.length → Tr (rooms.take (k + 1)).reverse (es.take k).reverse := by
    intro k
    induction k with
    | zero =>
      intro _
      have hl := h.1
      obtain ⟨r, rs, e⟩ := List.exists_cons_of_ne_nil (show rooms ≠ [] from fun e => by rw [e] at hl; simp at hl)
      rw [e]
      exact Tr.one r
    | succ k ih =>
      intro hk
      have t := ih (by omega)
      obtain ⟨i, a, b, hi, ha, hb, he⟩ := h.2 k (by omega)
      have hlt : k < es.length := by omega
      have hlr : k + 1 < rooms.length := by have := h.1; omega
      have e1 : rooms.take (k + 1 + 1) = rooms.take (k + 1) ++ [b] := by
        rw [List.take_succ, hb]
        rfl
      have e2 : es.take (k + 1) = es.take k ++ [es[k]] := by rw [List.take_succ, List.getElem?_eq_getElem hlt]; rfl
      have e1' : (rooms.take (k + 1 + 1)).reverse = b :: (rooms.take (k + 1)).reverse := by rw [e1]; simp
      have e2' : (es.take (k + 1)).reverse = es[k] :: (es.take k).reverse := by rw [e2]; simp
      rw [e1', e2']
      refine Tr.grow (p := a) t ?_ ?_ ?_
      · rw [List.mem_reverse]
        refine List.mem_of_getElem? (i := i) ?_
        rw [List.getElem?_take, if_pos (by omega)]
        exact ha
      · rw [List.mem_reverse]
        intro hm
        obtain ⟨j, hj, ej⟩ := List.mem_iff_getElem.mp hm
        rw [List.length_take] at hj
        rw [List.getElem_take] at ej
        have e3 : rooms[k + 1] = b := by
          rw [List.getElem?_eq_getElem hlr] at hb
          exact Option.some.inj hb
        exact (List.pairwise_iff_getElem.mp nd) j (k + 1) (by omega) hlr (by omega) (ej.trans e3.symm)
      · rw [List.getElem?_eq_getElem hlt] at he
        rcases he with he | he
        · exact .inl (Option.some.inj he)
        · exact .inr (Option.some.inj he)
  have t := key es.length (Nat.le_refl _)
  have hl := h.1
  rw [List.take_of_length_le (by omega), List.take_of_length_le (Nat.le_refl _)] at t
  exact ⟨_, _, t, List.reverse_perm _, List.reverse_perm _⟩
theorem Tree.perm {R R' : List Str} {E E' : List (Str × Str)} (t : Tree R E) (p : R.Perm R') (q : E.Perm E') : Tree R' E' := by
  obtain ⟨R0, E0, t, h1, h2⟩ := t
  exact ⟨R0, E0, t, h1.trans p, h2.trans q⟩

/-! ### the house -/
def houseF (rooms : List Str) (f : Str → List Str) : List (Str × D) := [("own_rooms", sL rooms), ("own_beside", .dic (dicF rooms fun r => sL (f r)))]
def houseD (C : Addr) (rooms : List Str) (f : Str → List Str) : D := .ins C (houseF rooms f)
def sp_init (C : Addr) : SpD := fun args ret exc => ∃ (rooms : List Str) (doors : List (Str × Str)), args = [(1, .ins C []), (0, sL rooms), (0, .lst (doors.map pairD))] ∧ rooms.Nodup ∧ rooms.length < 20 ∧ (∀ x ∈ rooms, x ∈ NAMES) ∧ Tree rooms doors ∧
  ∀ (ys : List Str) (f : Str → List Str), ys.Perm rooms → sortedS ys = true → (∀ r ∈ ys, (f r).Perm (nb doors r) ∧ sortedS (f r) = true) → ret N0 (1, houseD C ys f)
theorem mono_init {C : Addr} : MonoSp (sp_init C) := fun args ret ret' exc exc' k _ ⟨a, b, e, h0, h1, h2, h3, h⟩ => ⟨a, b, e, h0, h1, h2, h3, fun ys f x y z => k _ _ (h ys f x y z)⟩
theorem plain_init {C : Addr} {args : List Sl} {ret : Sl → Sl → Prop} {exc : Exc → Prop} (h : sp_init C args ret exc) : t_House_init C sp_checked_rooms sp_checked_doors (fnE (some 0) ret) (start0 3 args) := by
  obtain ⟨rooms, doors, rfl, nd, hl, hN, hT, h⟩ := h
  have hne : rooms ≠ [] := by
    obtain ⟨R0, E0, t, pR, pE⟩ := hT
    exact fun e => t.ne (by rw [e] at pR; exact pR.eq_nil)
  simp [t_House_init, start0]
  refine ⟨rooms, rfl, nd, hne, by omega, hN, fun ys hp hs => ?_⟩
  simp [putFD]
  refine ⟨ys, doors, rfl, hp.nodup_iff.mpr nd, by rw [hp.length_eq]; exact hl, Tree.perm hT hp.symm (List.Perm.refl _), fun f hf => ?_⟩
  simp [putFD]
  have ne : ¬ (("own_rooms" : Str) = "own_beside") := by decide +kernel
  rw [if_neg ne]
  exact ⟨_, rfl, h ys f hp hs hf⟩
theorem look_rooms {rooms : List Str} {f : Str → List Str} : (houseF rooms f).lookup ("own_rooms" : Str) = some (sL rooms) := by
  unfold houseF
  rw [List.lookup_cons]
  simp
theorem look_beside {rooms : List Str} {f : Str → List Str} : (houseF rooms f).lookup ("own_beside" : Str) = some (.dic (dicF rooms fun r => sL (f r))) := by
  unfold houseF
  have ne : (("own_beside" : Str) == "own_rooms") = false := by decide +kernel
  rw [List.lookup_cons, ne]
  simp

/-! ### woods -/
def woodD (rooms : List Str) (w : Str → Int) : D := .dic (dicF rooms fun r => .int (w r))
def sp_is_woods (C : Addr) : SpD := fun args ret exc => ∃ (rooms rooms' : List Str) (f : Str → List Str) (w : Str → Int), args = [(0, houseD C rooms f), (0, woodD rooms' w)] ∧ rooms'.Perm rooms ∧ rooms.length < 1000 ∧ (∀ r ∈ rooms, 0 < w r) ∧ ret (0, .bl true) N0
theorem mono_is_woods {C : Addr} : MonoSp (sp_is_woods C) := fun args ret ret' exc exc' k _ ⟨a, b, c, d, e, h0, h1, h2, h⟩ => ⟨a, b, c, d, e, h0, h1, h2, k _ _ h⟩
theorem plain_is_woods {C : Addr} {args : List Sl} {ret : Sl → Sl → Prop} {exc : Exc → Prop} (h : sp_is_woods C args ret exc) : t_is_woods C (sp_len C) sp_is_integer (fnE none ret) (start0 3 args) := by
  obtain ⟨rooms, rooms', f, w, rfl, hp, hl, hw, h⟩ := h
  have hz : rooms.length ≤ sizeLine := by rw [sizeLine_eq]; omega
  simp [t_is_woods, start0, woodD, tyD, isTy, tysB, houseD, dicF_len, dLenO]
  refine ⟨_, rooms.map D.str, rfl, look_rooms, rooms.length, by simp, by omega, ?_⟩
  simp [hp.length_eq, sL]
  refine ⟨_, look_rooms, ?_⟩
  simp [sL, hz]
  refine lc_map (f := fun _ => .bl true) (fun d hd K1 K0 hk => ?_) ?_
  · obtain ⟨r, hr, rfl⟩ := List.mem_map.mp hd
    have v := dicF_val (f := fun r => D.int (w r)) (hp.mem_iff.mpr hr)
    simp [v]
    refine ⟨_, rfl, ?_⟩
    simp [v, hw r hr]
    exact hk
  · have e : (rooms.map D.str).map (fun _ => D.bl true) = (List.replicate rooms.length true).map D.bl := by
      rw [List.map_map, List.map_replicate]
      refine List.eq_replicate_iff.mpr ⟨by simp, fun d hd => ?_⟩
      obtain ⟨_, _, e⟩ := List.mem_map.mp hd
      exact e.symm
    rw [List.nil_append, e, xAllAny]
    have : (List.replicate rooms.length true).all id = true := by simp
    rw [this]
    exact h
def sp_checked_woods (C : Addr) : SpD := fun args ret exc => ∃ (rooms rooms' : List Str) (f : Str → List Str) (w : Str → Int), args = [(0, houseD C rooms f), (0, woodD rooms' w)] ∧ rooms'.Perm rooms ∧ rooms.Nodup ∧ rooms.length < 1000 ∧ (∀ r ∈ rooms, 0 < w r) ∧ ret (1, woodD rooms w) N0
theorem mono_checked_woods {C : Addr} : MonoSp (sp_checked_woods C) := fun args ret ret' exc exc' k _ ⟨a, b, c, d, e, h0, h1, h2, h3, h⟩ => ⟨a, b, c, d, e, h0, h1, h2, h3, k _ _ h⟩
end K06

/-! K06g: rooms beside, hours. -/
namespace K06
open PySem PySem.Spec PyProof.Rows L2 DL

def sp_checked_room (C : Addr) : SpD := fun args ret exc => ∃ (rooms : List Str) (f : Str → List Str) (r : Str), args = [(0, houseD C rooms f), (0, .str r)] ∧ r ∈ rooms ∧ ret (0, .str r) N0
theorem mono_checked_room {C : Addr} : MonoSp (sp_checked_room C) := fun args ret ret' exc exc' k _ ⟨a, b, c, e, h0, h⟩ => ⟨a, b, c, e, h0, k _ _ h⟩
/-- a list of texts gone through by a test -/
def pS (q : Str → Bool) : D → Bool
  | .str x => q x
  | _ => false
theorem filt_sL {q : Str → Bool} (xs : List Str) : ((xs.map D.str).filter (pS q)).map id = (xs.filter q).map D.str := by
  rw [List.map_id, List.filter_map]
  rfl
def hourD (rooms : List Str) (h : Str → Int) : D := .dic (dicF rooms fun r => .int (h r))
def sp_earlier (C : Addr) : SpD := fun args ret exc => ∃ (rooms rooms' : List Str) (f : Str → List Str) (h : Str → Int) (r : Str), args = [(0, houseD C rooms f), (0, hourD rooms' h), (0, .str r)] ∧ r ∈ rooms ∧ rooms'.Perm rooms ∧ (∀ o ∈ f r, o ∈ rooms) ∧ (f r).length < 1000 ∧
  ret (1, sL ((f r).filter fun o => decide (h o < h r))) N0
theorem mono_earlier {C : Addr} : MonoSp (sp_earlier C) := fun args ret ret' exc exc' k _ ⟨a, b, c, d, e, f, h0, h1, h2, h3, h⟩ => ⟨a, b, c, d, e, f, h0, h1, h2, h3, k _ _ h⟩
def sp_has_hours (C : Addr) : SpD := fun args ret exc => ∃ (rooms rooms' : List Str) (f : Str → List Str) (h : Str → Int), args = [(0, houseD C rooms f), (0, hourD rooms' h)] ∧ rooms'.Perm rooms ∧ rooms.length < 1000 ∧ ret (0, .bl true) N0
theorem mono_has_hours {C : Addr} : MonoSp (sp_has_hours C) := fun args ret ret' exc exc' k _ ⟨a, b, c, d, e, h0, h1, h⟩ => ⟨a, b, c, d, e, h0, h1, k _ _ h⟩
theorem all_true {K : Sl → Prop} {n : Nat} (h : K (0, .bl true)) : wAllAny (fun bs => bs.all id) [.lst (List.replicate n (.bl true))] K := by
  have e : List.replicate n (D.bl true) = (List.replicate n true).map D.bl := by rw [List.map_replicate]
  rw [e, xAllAny]
  have : (List.replicate n true).all id = true := by simp
  rw [this]
  exact h
/-! ### the law's own rooms beside -/
def nbL (E : List (Str × Str)) (r : Str) : List Str := ((E.filter fun e => e.1 == r).map (·.2)) ++ ((E.filter fun e => e.2 == r).map (·.1))
theorem nbL_perm (E : List (Str × Str)) (r : Str) : (nbL E r).Perm (nb E r) := by
  induction E with
  | nil => exact List.Perm.refl _
  | cons e E ih =>
    have e1 : nb (e :: E) r = ((if e.1 = r then [e.2] else []) ++ (if e.2 = r then [e.1] else [])) ++ nb E r := by simp [nb]
    rw [e1]
    unfold nbL at ih ⊢
    have f1 : ((e :: E).filter fun e => e.1 == r).map (·.2) = (if e.1 = r then [e.2] else []) ++ (E.filter fun e => e.1 == r).map (·.2) := by
      by_cases h : e.1 = r
      · simp [h]
      · simp [h]
    have f2 : ((e :: E).filter fun e => e.2 == r).map (·.1) = (if e.2 = r then [e.1] else []) ++ (E.filter fun e => e.2 == r).map (·.1) := by
      by_cases h : e.2 = r
      · simp [h]
      · simp [h]
    rw [f1, f2]
    generalize (if e.1 = r then [e.2] else []) = A
    generalize (if e.2 = r then [e.1] else []) = B
    generalize (E.filter fun e => e.1 == r).map (·.2) = X at *
    generalize (E.filter fun e => e.2 == r).map (·.1) = Y at *
    have p1 : ((A ++ X) ++ (B ++ Y)).Perm ((A ++ B) ++ (X ++ Y)) := by
      rw [List.append_assoc, List.append_assoc]
      refine List.Perm.append_left A ?_
      rw [← List.append_assoc, ← List.append_assoc]
      exact List.Perm.append_right Y List.perm_append_comm
    exact p1.trans (List.Perm.append_left _ ih)
def sp_beside : SpD := fun args ret exc => ∃ (doors : List (Str × Str)) (r : Str), args = [(0, .lst (doors.map pairD)), (0, .str r)] ∧ doors.length < 30 ∧ ∀ ys : List Str, ys.Perm (nb doors r) → sortedS ys = true → ret (1, sL ys) N0
theorem mono_beside : MonoSp sp_beside := fun args ret ret' exc exc' k _ ⟨a, b, e, h0, h⟩ => ⟨a, b, e, h0, fun ys x y => k _ _ (h ys x y)⟩
def pP (q : Str × Str → Bool) : D → Bool
  | .tup [.str a, .str b] => q (a, b)
  | _ => false
def fst' : D → D
  | .tup [a, _] => a
  | d => d
def snd' : D → D
  | .tup [_, b] => b
  | d => d
theorem filt_pairs {q : Str × Str → Bool} (E : List (Str × Str)) : (E.map pairD).filter (pP q) = (E.filter q).map pairD := by
  rw [List.filter_map]
  rfl
theorem plain_beside {args : List Sl} {ret : Sl → Sl → Prop} {exc : Exc → Prop} (h : sp_beside args ret exc) : t__law_h_beside (fnE none ret) (start0 5 args) := by
  obtain ⟨doors, r, rfl, hl, h⟩ := h
  have hz : doors.length ≤ sizeLine := by rw [sizeLine_eq]; omega
  simp [t__law_h_beside, start0, hz]
  refine lc_filter (p := pP fun e => e.1 == r) (f := snd') (fun d hd K1 K0 k1 k0 => ?_) ?_
  · obtain ⟨⟨a, b⟩, ho, rfl⟩ := List.mem_map.mp hd
    simp [pairD]
    by_cases q : a = r
    · simp [q]
      exact k1 (by simp [pP, pairD, q])
    · simp [q]
      exact k0 (by simp [pP, pairD, q])
  · simp [hz]
    refine lc_filter (p := pP fun e => e.2 == r) (f := fst') (fun d hd K1 K0 k1 k0 => ?_) ?_
    · obtain ⟨⟨a, b⟩, ho, rfl⟩ := List.mem_map.mp hd
      simp [pairD]
      by_cases q : b = r
      · simp [q]
        exact k1 (by simp [pP, pairD, q])
      · simp [q]
        exact k0 (by simp [pP, pairD, q])
    · rw [List.nil_append, filt_pairs, filt_pairs, List.map_map, List.map_map]
      have e1 : (doors.filter fun e => e.1 == r).map (snd' ∘ pairD) = ((doors.filter fun e => e.1 == r).map (·.2)).map D.str := by rw [List.map_map]; rfl
      have e2 : (doors.filter fun e => e.2 == r).map (fst' ∘ pairD) = ((doors.filter fun e => e.2 == r).map (·.1)).map D.str := by rw [List.map_map]; rfl
      have l1 := List.length_filter_le (fun e : Str × Str => e.1 == r) doors
      have l2 := List.length_filter_le (fun e : Str × Str => e.2 == r) doors
      rw [e1, e2]
      refine ⟨by simp; rw [sizeLine_eq]; omega, ?_⟩
      rw [← List.map_append]
      simp
      have := xSortS (k := fun s => (fnE none ret).rt s [some (0, .lst (doors.map pairD)), some (0, .str r), some (0, .lst ((nbL doors r).map D.str)), none, none]) (xs := nbL doors r) (by unfold nbL; simp; omega) fun ys hp hs => h ys (hp.trans (nbL_perm doors r)) hs
      simpa [nbL] using this
end K06

/-! K06h: each once; the law's rooms from which, woods. -/
namespace K06
open PySem PySem.Spec PyProof.Rows L2 DL

theorem xInLI {n : Bool} {k : Sl → Prop} {x : Int} {xs : List Int} : wInB n (.int x) (.lst (xs.map D.int)) k = k (0, .bl (n ^^ decide (x ∈ xs))) := by
  have h1 : (pyFlat (.int x) && (xs.map D.int).all pyFlat) = true := by
    simp only [Bool.and_eq_true, List.all_eq_true]
    refine ⟨rfl, fun d hd => ?_⟩
    obtain ⟨y, _, e⟩ := List.mem_map.mp hd
    subst e
    rfl
  have h2 : ((xs.map D.int).any fun z => eqFl z (.int x)) = decide (x ∈ xs) := by
    rw [List.any_map]
    have : (fun z => eqFl z (D.int x)) ∘ D.int = fun y => y == x := rfl
    rw [this]
    clear h1 this
    induction xs with
    | nil => simp
    | cons y ys ih =>
      rw [List.any_cons, ih]
      by_cases e : x = y
      · subst e; simp
      · simp [e, Ne.symm e]
  simp only [wInB, h1, h2]
  rfl
def sp_once : SpD := fun args ret exc => ∃ xs : List Int, args = [(0, .lst (xs.map D.int))] ∧ xs.length < 100000 ∧ ∀ ys : List Int, ys.Nodup → (∀ i, i ∈ ys ↔ i ∈ xs) → ys.length ≤ xs.length → ret (0, .lst (ys.map D.int)) N0
theorem mono_once : MonoSp sp_once := fun args ret ret' exc exc' k _ ⟨a, e, h0, h⟩ => ⟨a, e, h0, fun ys x y z => k _ _ (h ys x y z)⟩
theorem once_loop {xs : List Int} {A : DE} (hl : xs.length < 100000) : ∀ (rest pre ys : List Int) (h2 : Option Sl), xs = pre ++ rest → ys.Nodup → (∀ i, i ∈ ys ↔ i ∈ pre) → ys.length ≤ pre.length →
    (∀ (ys : List Int) (h2 : Option Sl), ys.Nodup → (∀ i, i ∈ ys ↔ i ∈ xs) → ys.length ≤ xs.length → A.nx [some (0, .lst (xs.map D.int)), some (1, .lst (ys.map D.int)), h2]) →
    dForL (gN 2) (dIf (dFlatB (dT (dB wNotIn (dVar 2) (dVar 1)))) (dExpr (dMutL 1 (dCons (dVar 2) dNil) opAppend)) dNext) A (rest.map D.int) [some (0, .lst (xs.map D.int)), some (1, .lst (ys.map D.int)), h2]
  | [], pre, ys, h2, e, nd, hm, hle, k => by
    have e : xs = pre := by simpa using e
    subst e
    exact k ys h2 nd hm hle
  | x :: rest, pre, ys, h2, e, nd, hm, hle, k => by
    have IH := fun ys h2 => once_loop hl (A := A) rest (pre ++ [x]) ys h2 (by rw [e]; simp)
    have lx : ys.length < sizeLine := by
      have := congrArg List.length e
      rw [List.length_append, List.length_cons] at this
      rw [sizeLine_eq]
      omega
    rw [List.map_cons, xForCons]
    generalize dForL (gN 2) (dIf (dFlatB (dT (dB wNotIn (dVar 2) (dVar 1)))) (dExpr (dMutL 1 (dCons (dVar 2) dNil) opAppend)) dNext) A (rest.map D.int) = G at IH ⊢
    simp
    rw [show wNotIn = wInB true from rfl, xInLI]
    by_cases hx : x ∈ ys
    · simp [hx]
      refine IH ys _ nd (fun i => ?_) (by simp; omega) k
      rw [hm i, List.mem_append, List.mem_singleton]
      constructor
      · exact .inl
      · rintro (z | z)
        · exact z
        · rw [z]; exact (hm x).mp hx
    · simp [hx, lx]
      have := IH (ys ++ [x]) (some (0, .int x)) (List.nodup_append.mpr ⟨nd, by simp, fun a ha b hb e => by
        rw [List.mem_singleton.mp hb] at e
        exact hx (e ▸ ha)⟩) (fun i => by rw [List.mem_append, List.mem_append, hm i]) (by simp; exact hle) k
      simpa using this
/-! ### woods drawn -/
def sp_woods : SpD := fun args ret exc => ∃ (n most : Nat) (rooms : List Str), args = [(1, .spr n), (0, sL rooms), (0, .int (most : Nat))] ∧ rooms.Nodup ∧ rooms.length < 60 ∧ rooms.length ≤ n ∧ 1 ≤ most ∧ most < 1000000000 ∧
  ∀ (ys : List Str) (w : Str → Int), ys.Perm rooms → sortedS ys = true → (∀ r ∈ rooms, 1 ≤ w r ∧ w r ≤ most) → ret (1, woodD ys w) (1, .spr (n - rooms.length))
theorem mono_woods : MonoSp sp_woods := fun args ret ret' exc exc' k _ ⟨a, b, c, e, h0, h1, h2, h3, h4, h⟩ => ⟨a, b, c, e, h0, h1, h2, h3, h4, fun ys w x y z => k _ _ (h ys w x y z)⟩
theorem merge_new : ∀ (rest pre : List Str) (w : Str → D), (pre ++ rest).Nodup → mergeD (dicF pre w) (dicF rest w) = dicF (pre ++ rest) w
  | [], pre, w, _ => by simp [mergeD, dicF]
  | x :: rest, pre, w, nd => by
    have hx : x ∉ pre := fun h => (List.nodup_append.mp nd).2.2 x h x (by simp) rfl
    have e : mergeD (dicF pre w) (dicF (x :: rest) w) = mergeD (putD (dicF pre w) (.inr x) (w x)) (dicF rest w) := rfl
    rw [e, dicF_snoc hx, merge_new rest (pre ++ [x]) w (by simpa using nd)]
    simp
theorem woods_loop {ys : List Str} {most : Nat} {K : List D → DSt → Prop} {s1 s2 : Sl} (hs2 : s2 = (0, .int (most : Nat))) (hm : 1 ≤ most) (hm2 : most < 1000000000) (nd : ys.Nodup) : ∀ (rest pre : List Str) (w : Str → Int) (n : Nat), ys = pre ++ rest → (∀ r ∈ pre, 1 ≤ w r ∧ w r ≤ most) → rest.length ≤ n →
    (∀ w : Str → Int, (∀ r ∈ ys, 1 ≤ w r ∧ w r ≤ most) → K (pairsD (dicF ys fun r => .int (w r))) [some (1, .spr (n - rest.length)), some s1, some s2, none]) →
    dLcL [3] (gN 3) dYes (dL wTup (dCons (dVar 3) (dCons (dB wAdd (dC (.int 1)) (dCallI sp_draw 0 0 (dHere 0 (dCons (dVar 2) dNil)) R0)) dNil))) K (rest.map D.str) (pairsD (dicF pre fun r => .int (w r))) [some (1, .spr n), some s1, some s2, none]
  | [], pre, w, n, e, hw, hn, k => by
    have e : ys = pre := by simpa using e
    subst e
    exact k w hw
  | x :: rest, pre, w, n, e, hw, hn, k => by
    subst hs2
    obtain ⟨n, rfl⟩ : ∃ m, n = m + 1 := ⟨n - 1, by simp at hn; omega⟩
    have hx : x ∉ pre := fun h => by
      rw [e] at nd
      exact (List.nodup_append.mp nd).2.2 x h x (by simp) rfl
    rw [List.map_cons, xLcCons]
    have o2 : 2 ≤ sizeLine := by rw [sizeLine_eq]; omega
    simp
    refine ⟨n, most, rfl, by omega, by omega, fun d d0 d1 => ?_⟩
    simp [o2]
    have ew : pairsD (dicF pre fun r => .int (w r)) ++ [.tup [.str x, .int (1 + d)]] = pairsD (dicF (pre ++ [x]) fun r => .int (if r = x then 1 + d else w r)) := by
      have e1 : dicF pre (fun r => D.int (w r)) = dicF pre fun r => .int (if r = x then 1 + d else w r) := dicF_congr fun r hr => by
        have ne : r ≠ x := fun z => hx (by rw [← z]; exact hr)
        rw [if_neg ne]
      rw [e1]
      simp [pairsD, dicF, kD]
    rw [ew]
    refine woods_loop rfl hm hm2 nd rest (pre ++ [x]) (fun r => if r = x then 1 + d else w r) n (by rw [e]; simp) (fun r hr => ?_) (by simp at hn; omega) fun w' hw' => ?_
    · by_cases z : r = x
      · simp [z]
        omega
      · simp [z]
        rcases List.mem_append.mp hr with h | h
        · exact hw r h
        · exact absurd (List.mem_singleton.mp h) z
    · have := k w' hw'
      have en : n + 1 - (x :: rest).length = n - rest.length := by rw [List.length_cons]; omega
      rw [en] at this
      exact this
theorem xDictP {kvs : List (Key × D)} {k : Sl → Prop} (h : k (1, .dic (mergeD [] kvs))) : wDictP [.lst (pairsD kvs)] k := ⟨kvs, rfl, h⟩
theorem plain_woods {args : List Sl} {ret : Sl → Sl → Prop} {exc : Exc → Prop} (h : sp_woods args ret exc) : t__law_h_woods sp_draw (fnE (some 0) ret) (start0 4 args) := by
  obtain ⟨n, most, rooms, rfl, nd, hl, hn, hm, hm2, h⟩ := h
  simp [t__law_h_woods, start0, sL]
  refine xSortS (by omega) fun ys hp hs => ?_
  have hz : ys.length ≤ sizeLine := by rw [hp.length_eq, sizeLine_eq]; omega
  simp [hz]
  refine woods_loop rfl hm hm2 (hp.nodup_iff.mpr nd) ys [] (fun _ => 0) n rfl (fun r hr => absurd hr (by simp)) (by rw [hp.length_eq]; exact hn) fun w hw => ?_
  refine xDictP ?_
  have e := merge_new ys [] (fun r => D.int (w r)) (by simpa using hp.nodup_iff.mpr nd)
  have e0 : (dicF [] fun r => D.int (w r)) = [] := rfl
  rw [e0, List.nil_append] at e
  rw [e]
  refine ⟨_, rfl, ?_⟩
  have := h ys w hp hs fun r hr => hw r (hp.mem_iff.mpr hr)
  rw [← hp.length_eq] at this
  exact this
end K06

/-! K06i: burns_so, checked_fire, is_fire. -/
namespace K06
open PySem PySem.Spec PyProof.Rows L2 DL

def aheadL (f : Str → List Str) (h : Str → Int) (r : Str) : List Str := (f r).filter fun o => decide (h o < h r)
def okR (f : Str → List Str) (w h : Str → Int) (r : Str) : Bool := !((f r).any fun o => decide (h o = h r)) && !((aheadL f h r).any fun o => decide (w o < h r - h o))
def burnsB (rooms : List Str) (f : Str → List Str) (w h : Str → Int) : Bool := rooms.all (okR f w h) && decide ((rooms.filter fun r => (aheadL f h r).isEmpty).length = 1)
def sp_burns (C : Addr) : SpD := fun args ret exc => ∃ (rooms rooms1 rooms2 : List Str) (f : Str → List Str) (w h : Str → Int), args = [(0, houseD C rooms f), (0, woodD rooms1 w), (0, hourD rooms2 h)] ∧ rooms1.Perm rooms ∧ rooms2.Perm rooms ∧ rooms.length < 1000 ∧
  (∀ r ∈ rooms, (∀ o ∈ f r, o ∈ rooms) ∧ (f r).length < 1000) ∧ ret (0, .bl (burnsB rooms f w h)) N0
theorem mono_burns {C : Addr} : MonoSp (sp_burns C) := fun args ret ret' exc exc' k _ ⟨a, b, c, d, e, f, g, h0, h1, h2, h3, h⟩ => ⟨a, b, c, d, e, f, g, h0, h1, h2, h3, k _ _ h⟩
def bBurns (C : Addr) : TSd := (dSeq (dSet 5 (dCall (sp_earlier C) (dCons (dVar 0) (dCons (dVar 2) (dCons (dVar 4) dNil))) R0))
  (dSeq (dIf (dT (dL (wAllAny fun bs => bs.any id) (dCons (dLc [6] (dSeqI (dB wIx (dFld C "own_beside" (dVar 0)) (dVar 4))) (gN 6) dYes (dB wEq (dB wIx (dVar 2) (dVar 6)) (dB wIx (dVar 2) (dVar 4)))) dNil))) (dRet (dC (.bl false))) dNext)
  (dSeq (dIf (dT (dL (wAllAny fun bs => bs.any id) (dCons (dLc [6] (dSeqI (dVar 5)) (gN 6) dYes (dB wGt (dB wSub (dB wIx (dVar 2) (dVar 4)) (dB wIx (dVar 2) (dVar 6))) (dB wIx (dVar 1) (dVar 6)))) dNil))) (dRet (dC (.bl false))) dNext)
  (dSet 3 (dB wAdd (dVar 3) (dL wInt1 (dCons (dB wEq (dVar 5) (dL wLst dNil)) dNil)))))))
theorem any_of {K : Sl → Prop} {q : Str → Bool} {xs : List Str} (h : K (0, .bl (xs.any q))) : wAllAny (fun bs => bs.any id) [.lst ((xs.map D.str).map fun d => .bl (pS q d))] K := by
  have e : (xs.map D.str).map (fun d => D.bl (pS q d)) = (xs.map q).map D.bl := by rw [List.map_map, List.map_map]; rfl
  rw [e, xAllAny]
  have : (xs.map q).any id = xs.any q := by rw [List.any_map]; rfl
  rw [this]
  exact h
theorem burns_loop {C : Addr} {rooms rooms1 rooms2 : List Str} {f : Str → List Str} {w h : Str → Int} {A : DE} (p1 : rooms1.Perm rooms) (p2 : rooms2.Perm rooms) (hf : ∀ r ∈ rooms, (∀ o ∈ f r, o ∈ rooms) ∧ (f r).length < 1000) (hfalse : burnsB rooms f w h = false → ∀ ρ, A.rt (0, .bl false) ρ) :
    ∀ (rest pre : List Str) (h4 h5 : Option Sl), rooms = pre ++ rest → pre.all (okR f w h) = true →
    (rooms.all (okR f w h) = true → ∀ h4 h5, A.nx [some (0, houseD C rooms f), some (0, woodD rooms1 w), some (0, hourD rooms2 h), some (0, .int ((rooms.filter fun r => (aheadL f h r).isEmpty).length : Nat)), h4, h5, none]) →
    dForL (gN 4) (bBurns C) A (rest.map D.str) [some (0, houseD C rooms f), some (0, woodD rooms1 w), some (0, hourD rooms2 h), some (0, .int ((pre.filter fun r => (aheadL f h r).isEmpty).length : Nat)), h4, h5, none]
  | [], pre, h4, h5, e, ok, k => by
    have e : rooms = pre := by simpa using e
    have := k (by rw [e]; exact ok) h4 h5
    rw [← e]
    exact this
  | x :: rest, pre, h4, h5, e, ok, k => by
    have IH := fun h4 h5 ok' => burns_loop (C := C) (A := A) p1 p2 hf hfalse rest (pre ++ [x]) h4 h5 (by rw [e]; simp) ok' k
    have hx : x ∈ rooms := by rw [e]; simp
    obtain ⟨hsub, hlen⟩ := hf x hx
    have o : ∀ o ∈ f x, valD (dicF rooms2 fun r => D.int (h r)) (.inr o) = some (.int (h o)) ∧ valD (dicF rooms1 fun r => D.int (w r)) (.inr o) = some (.int (w o)) := fun o ho =>
      ⟨dicF_val (f := fun r => D.int (h r)) (p2.mem_iff.mpr (hsub o ho)), dicF_val (f := fun r => D.int (w r)) (p1.mem_iff.mpr (hsub o ho))⟩
    have vx := dicF_val (f := fun r => D.int (h r)) (p2.mem_iff.mpr hx)
    have vb := dicF_val (f := fun r => sL (f r)) hx
    have hz : (f x).length ≤ sizeLine := by rw [sizeLine_eq]; omega
    have ha : (aheadL f h x).length ≤ (f x).length := List.length_filter_le _ _
    have hza : (aheadL f h x).length ≤ sizeLine := by omega
    have bad : okR f w h x = false → burnsB rooms f w h = false := fun hb => by
      unfold burnsB
      have : rooms.all (okR f w h) = false := by
        rw [Bool.eq_false_iff]
        intro z
        have := List.all_eq_true.mp z x hx
        rw [hb] at this
        cases this
      rw [this]
      rfl
    rw [List.map_cons, xForCons]
    generalize dForL (gN 4) (bBurns C) A (rest.map D.str) = G at IH ⊢
    simp [bBurns]
    refine ⟨rooms, rooms2, f, h, x, rfl, hx, p2, hsub, hlen, ?_⟩
    simp [houseD]
    refine ⟨_, look_beside, ?_⟩
    simp [vb]
    simp [sL, hz]
    refine lc_map (f := fun d => .bl (pS (fun o => decide (h o = h x)) d)) (fun d hd K1 K0 hk => ?_) ?_
    · obtain ⟨y, hy, rfl⟩ := List.mem_map.mp hd
      simp [hourD, (o y hy).1, vx]
      exact hk
    · rw [List.nil_append]
      refine any_of ?_
      cases c1 : (f x).any fun o => decide (h o = h x) with
      | true =>
        simp
        exact hfalse (bad (by unfold okR; rw [c1]; rfl)) _
      | false =>
        simp
        refine ⟨hza, lc_map (f := fun d => .bl (pS (fun o => decide (w o < h x - h o)) d)) (fun d hd K1 K0 hk => ?_) ?_⟩
        · obtain ⟨y, hy, rfl⟩ := List.mem_map.mp hd
          have hy' := (List.mem_filter.mp hy).1
          simp [hourD, woodD, (o y hy').1, (o y hy').2, vx]
          exact hk
        · rw [List.nil_append]
          refine any_of (xs := aheadL f h x) ?_
          cases c2 : (aheadL f h x).any fun o => decide (w o < h x - h o) with
          | true =>
            simp
            exact hfalse (bad (by unfold okR; rw [c1, c2]; rfl)) _
          | false =>
            simp
            have okx : okR f w h x = true := by unfold okR; rw [c1, c2]; rfl
            have ec : ((pre.filter fun r => (aheadL f h r).isEmpty).length : Int) + (if ∀ (a : Str), a ∈ f x → h x ≤ h a then 1 else 0) = (((pre ++ [x]).filter fun r => (aheadL f h r).isEmpty).length : Nat) := by
              rw [List.filter_append, List.length_append]
              by_cases q : ∀ (a : Str), a ∈ f x → h x ≤ h a
              · have : (aheadL f h x).isEmpty = true := by
                  rw [List.isEmpty_iff]
                  exact List.filter_eq_nil_iff.mpr fun a ha => by have := q a ha; simp; exact this
                rw [if_pos q]
                simp [this]
              · have : (aheadL f h x).isEmpty = false := by
                  rw [Bool.eq_false_iff]
                  intro z
                  rw [List.isEmpty_iff] at z
                  refine q fun a ha => ?_
                  have := List.filter_eq_nil_iff.mp z a ha
                  simpa using this
                rw [if_neg q]
                simp [this]
            rw [ec]
            exact IH _ _ (by rw [List.all_append, ok]; simp [okx])
/-! ### checked_fire, is_fire -/
def sp_checked_fire (C : Addr) : SpD := fun args ret exc => ∃ (rooms rooms1 rooms2 : List Str) (f : Str → List Str) (w h : Str → Int), args = [(0, houseD C rooms f), (0, woodD rooms1 w), (0, hourD rooms2 h)] ∧ rooms1.Perm rooms ∧ rooms2.Perm rooms ∧ rooms.Nodup ∧ rooms.length < 1000 ∧
  (∀ r ∈ rooms, (∀ o ∈ f r, o ∈ rooms) ∧ (f r).length < 1000) ∧ burnsB rooms f w h = true ∧ ret (1, hourD rooms h) N0
theorem mono_checked_fire {C : Addr} : MonoSp (sp_checked_fire C) := fun args ret ret' exc exc' k _ ⟨a, b, c, d, e, f, g, h0, h1, h2, h3, h4, h5, h⟩ => ⟨a, b, c, d, e, f, g, h0, h1, h2, h3, h4, h5, k _ _ h⟩
def sp_is_fire (C : Addr) : SpD := fun args ret exc => ∃ (rooms rooms1 rooms2 : List Str) (f : Str → List Str) (w h : Str → Int), args = [(0, houseD C rooms f), (0, woodD rooms1 w), (0, hourD rooms2 h)] ∧ rooms1.Perm rooms ∧ rooms2.Perm rooms ∧ rooms.Nodup ∧ rooms.length < 1000 ∧
  (∀ r ∈ rooms, (∀ o ∈ f r, o ∈ rooms) ∧ (f r).length < 1000) ∧ (∀ r ∈ rooms, 0 < w r) ∧ ret (0, .bl (burnsB rooms f w h)) N0
theorem mono_is_fire {C : Addr} : MonoSp (sp_is_fire C) := fun args ret ret' exc exc' k _ ⟨a, b, c, d, e, f, g, h0, h1, h2, h3, h4, h5, h⟩ => ⟨a, b, c, d, e, f, g, h0, h1, h2, h3, h4, h5, k _ _ h⟩
end K06

/-! K06j: the first room; from where each room was lit. -/
namespace K06
open PySem PySem.Spec PyProof.Rows L2 DL

theorem minOf_is {m : Int × Str} (hm : PySem.W.DatumOrd.lt m m = false) : ∀ (xs : List (Int × Str)) (a : Int × Str), m ∈ a :: xs → (∀ y ∈ a :: xs, y ≠ m → PySem.W.DatumOrd.lt m y = true ∧ PySem.W.DatumOrd.lt y m = false) → PySem.W.minOf a xs = m
  | [], a, h, _ => by
    rw [List.mem_singleton] at h
    rw [h]
    rfl
  | y :: ys, a, h, k => by
    have e : PySem.W.minOf a (y :: ys) = PySem.W.minOf (if PySem.W.DatumOrd.lt y a = true then y else a) ys := rfl
    rw [e]
    have ka : ∀ z ∈ (if PySem.W.DatumOrd.lt y a = true then y else a) :: ys, z ∈ a :: y :: ys := fun z hz => by
      rcases List.mem_cons.mp hz with q | q
      · rw [q]
        split
        · simp
        · simp
      · simp [q]
    refine minOf_is hm ys _ ?_ fun z hz => k z (ka z hz)
    by_cases ea : a = m
    · have : PySem.W.DatumOrd.lt y a = false := by
        rw [ea]
        by_cases ey : y = m
        · rw [ey]; exact hm
        · exact (k y (by simp) ey).2
      rw [this]
      simp [ea]
    · by_cases ey : y = m
      · have : PySem.W.DatumOrd.lt y a = true := by rw [ey]; exact (k a (by simp) ea).1
        rw [this]
        simp [ey]
      · have : m ∈ ys := by
          rcases List.mem_cons.mp h with q | q
          · exact absurd q.symm ea
          · rcases List.mem_cons.mp q with q | q
            · exact absurd q.symm ey
            · exact q
        exact List.mem_cons_of_mem _ this
def sp_first_in : SpD := fun args ret exc => ∃ (rooms : List Str) (h : Str → Int) (x : Str), args = [(0, hourD rooms h)] ∧ x ∈ rooms ∧ rooms.length < 1000 ∧ (∀ r ∈ rooms, r ≠ x → h x < h r) ∧ ret (0, .str x) N0
theorem mono_first_in : MonoSp sp_first_in := fun args ret ret' exc exc' k _ ⟨a, b, c, e, h0, h1, h2, h⟩ => ⟨a, b, c, e, h0, h1, h2, k _ _ h⟩
def sp_first_of (C : Addr) : SpD := fun args ret exc => ∃ (rooms rooms1 rooms2 : List Str) (f : Str → List Str) (w h : Str → Int) (x : Str), args = [(0, houseD C rooms f), (0, woodD rooms1 w), (0, hourD rooms2 h)] ∧ rooms1.Perm rooms ∧ rooms2.Perm rooms ∧ rooms.Nodup ∧ rooms.length < 1000 ∧
  (∀ r ∈ rooms, (∀ o ∈ f r, o ∈ rooms) ∧ (f r).length < 1000) ∧ (∀ r ∈ rooms, 0 < w r) ∧ burnsB rooms f w h = true ∧ x ∈ rooms ∧ (∀ r ∈ rooms, r ≠ x → h x < h r) ∧ ret (0, .str x) N0
theorem mono_first_of {C : Addr} : MonoSp (sp_first_of C) := fun args ret ret' exc exc' k _ ⟨a, b, c, d, e, f, x, g, h0, h1, h2, h3, h4, h5, h6, h7, h8, h⟩ => ⟨a, b, c, d, e, f, x, g, h0, h1, h2, h3, h4, h5, h6, h7, h8, k _ _ h⟩
/-! ### lit_from -/
def litD : List Str → D
  | [] => .non
  | o :: _ => .str o
def sp_lit_from (C : Addr) : SpD := fun args ret exc => ∃ (rooms rooms1 rooms2 : List Str) (f : Str → List Str) (w h : Str → Int), args = [(0, houseD C rooms f), (0, woodD rooms1 w), (0, hourD rooms2 h)] ∧ rooms1.Perm rooms ∧ rooms2.Perm rooms ∧ rooms.Nodup ∧ rooms.length < 1000 ∧
  (∀ r ∈ rooms, (∀ o ∈ f r, o ∈ rooms) ∧ (f r).length < 1000) ∧ (∀ r ∈ rooms, 0 < w r) ∧ burnsB rooms f w h = true ∧ ret (1, .dic (dicF rooms fun r => litD (aheadL f h r))) N0
theorem mono_lit_from {C : Addr} : MonoSp (sp_lit_from C) := fun args ret ret' exc exc' k _ ⟨a, b, c, d, e, f, g, h0, h1, h2, h3, h4, h5, h6, h⟩ => ⟨a, b, c, d, e, f, g, h0, h1, h2, h3, h4, h5, h6, k _ _ h⟩
/-! ### the law's rooms from which -/
def sp_from : SpD := fun args ret exc => ∃ (doors : List (Str × Str)) (ks : List Str) (g : Str → D) (r : Str), args = [(0, .lst (doors.map pairD)), (0, .dic (dicF ks g)), (0, .str r)] ∧ doors.length < 30 ∧
  ∀ ys : List Str, ys.Perm (nb doors r) → sortedS ys = true → ret (1, sL (ys.filter fun o => decide (o ∈ ks))) N0
theorem mono_from : MonoSp sp_from := fun args ret ret' exc exc' k _ ⟨a, b, c, d, e, h0, h⟩ => ⟨a, b, c, d, e, h0, fun ys x y => k _ _ (h ys x y)⟩
end K06

/-! K06k: the law's look by the doors. -/
namespace K06
open PySem PySem.Spec PyProof.Rows L2 DL

def okDoor (w h : Str → Int) (e : Str × Str) : Bool := if h e.1 < h e.2 then !decide (w e.1 < h e.2 - h e.1) else !(decide (h e.2 = h e.1) || decide (w e.2 < h e.1 - h e.2))
def firstB (doors : List (Str × Str)) (h : Str → Int) (r : Str) : Bool := (nb doors r).all fun o => decide (h r < h o)
def byB (doors : List (Str × Str)) (rooms : List Str) (w h : Str → Int) : Bool := doors.all (okDoor w h) && decide ((rooms.filter (firstB doors h)).length = 1)
def sp_by : SpD := fun args ret exc => ∃ (doors : List (Str × Str)) (rooms1 rooms2 : List Str) (w h : Str → Int), args = [(0, .lst (doors.map pairD)), (0, woodD rooms1 w), (0, hourD rooms2 h)] ∧ (∀ e ∈ doors, (e.1 ∈ rooms1 ∧ e.2 ∈ rooms1) ∧ e.1 ∈ rooms2 ∧ e.2 ∈ rooms2) ∧ doors.length < 30 ∧ rooms2.length < 1000 ∧
  ret (0, .bl (byB doors rooms2 w h)) N0
theorem mono_by : MonoSp sp_by := fun args ret ret' exc exc' k _ ⟨a, b, c, d, e, f, h0, h1, h2, h⟩ => ⟨a, b, c, d, e, f, h0, h1, h2, k _ _ h⟩
def bBy : TSd := (dSeq (dAsg (dIfV (dT (dB wLt (dB wIx (dVar 2) (dVar 3)) (dB wIx (dVar 2) (dVar 4)))) (dL wTup (dCons (dVar 3) (dCons (dVar 4) dNil))) (dL wTup (dCons (dVar 4) (dCons (dVar 3) dNil)))) (dTup 2 (gCons (gN 5) (gCons (gN 6) gNil))))
  (dIf (dOr (dT (dB wEq (dB wIx (dVar 2) (dVar 5)) (dB wIx (dVar 2) (dVar 6)))) (dT (dB wGt (dB wSub (dB wIx (dVar 2) (dVar 6)) (dB wIx (dVar 2) (dVar 5))) (dB wIx (dVar 1) (dVar 5))))) (dRet (dC (.bl false))) dNext))
theorem by_loop {doors : List (Str × Str)} {rooms1 rooms2 : List Str} {w h : Str → Int} {A : DE} (he : ∀ e ∈ doors, (e.1 ∈ rooms1 ∧ e.2 ∈ rooms1) ∧ e.1 ∈ rooms2 ∧ e.2 ∈ rooms2) (hfalse : byB doors rooms2 w h = false → ∀ ρ, A.rt (0, .bl false) ρ) :
    ∀ (rest pre : List (Str × Str)) (h3 h4 h5 h6 : Option Sl), doors = pre ++ rest → pre.all (okDoor w h) = true →
    (doors.all (okDoor w h) = true → ∀ h3 h4 h5 h6, A.nx [some (0, .lst (doors.map pairD)), some (0, woodD rooms1 w), some (0, hourD rooms2 h), h3, h4, h5, h6, none, none]) →
    dForL (dTup 2 (gCons (gN 3) (gCons (gN 4) gNil))) bBy A (rest.map pairD) [some (0, .lst (doors.map pairD)), some (0, woodD rooms1 w), some (0, hourD rooms2 h), h3, h4, h5, h6, none, none]
  | [], pre, h3, h4, h5, h6, e, ok, k => by
    have e : doors = pre := by simpa using e
    exact k (by rw [e]; exact ok) h3 h4 h5 h6
  | (a, b) :: rest, pre, h3, h4, h5, h6, e, ok, k => by
    have IH := fun h3 h4 h5 h6 ok' => by_loop (A := A) he hfalse rest (pre ++ [(a, b)]) h3 h4 h5 h6 (by rw [e]; simp) ok' k
    have hm : (a, b) ∈ doors := by rw [e]; simp
    obtain ⟨⟨a1, b1⟩, a2, b2⟩ := he _ hm
    have va := dicF_val (f := fun r => D.int (h r)) a2
    have vb := dicF_val (f := fun r => D.int (h r)) b2
    have wa := dicF_val (f := fun r => D.int (w r)) a1
    have wb := dicF_val (f := fun r => D.int (w r)) b1
    have o2 : 2 ≤ sizeLine := by rw [sizeLine_eq]; omega
    have bad : okDoor w h (a, b) = false → ∀ ρ, A.rt (0, .bl false) ρ := fun hb => hfalse (by
      unfold byB
      have : doors.all (okDoor w h) = false := by
        rw [Bool.eq_false_iff]
        intro z
        have := List.all_eq_true.mp z _ hm
        rw [hb] at this
        cases this
      rw [this]
      rfl)
    have good : okDoor w h (a, b) = true → (pre ++ [(a, b)]).all (okDoor w h) = true := fun q => by rw [List.all_append, ok]; simp [q]
    rw [List.map_cons, xForCons]
    generalize dForL (dTup 2 (gCons (gN 3) (gCons (gN 4) gNil))) bBy A (rest.map pairD) = G at IH ⊢
    by_cases c : h a < h b
    · have c2 : ¬ h a = h b := by omega
      simp [bBy, pairD, hourD, woodD, va, vb, wa, wb, c, c2, o2]
      by_cases q : w a < h b - h a
      · simp [q]
        exact bad (by unfold okDoor; simp [c, q]) _
      · simp [q]
        exact IH _ _ _ _ (good (by unfold okDoor; simp [c, q]))
    · simp [bBy, pairD, hourD, woodD, va, vb, wa, wb, c, o2]
      by_cases c2 : h b = h a
      · simp [c2]
        exact bad (by unfold okDoor; simp [c2]) _
      · simp [c2]
        by_cases q : w b < h a - h b
        · simp [q]
          exact bad (by unfold okDoor; simp [c, q]) _
        · simp [q]
          exact IH _ _ _ _ (good (by unfold okDoor; simp [c, c2, q]))
theorem all_of {K : Sl → Prop} {q : Str → Bool} {xs : List Str} (h : K (0, .bl (xs.all q))) : wAllAny (fun bs => bs.all id) [.lst ((xs.map D.str).map fun d => .bl (pS q d))] K := by
  have e : (xs.map D.str).map (fun d => D.bl (pS q d)) = (xs.map q).map D.bl := by rw [List.map_map, List.map_map]; rfl
  rw [e, xAllAny]
  have : (xs.map q).all id = xs.all q := by rw [List.all_map]; rfl
  rw [this]
  exact h
theorem all_perm {q : Str → Bool} {xs ys : List Str} (p : xs.Perm ys) : xs.all q = ys.all q := by
  rw [Bool.eq_iff_iff, List.all_eq_true, List.all_eq_true]
  exact ⟨fun h x hx => h x (p.mem_iff.mpr hx), fun h x hx => h x (p.mem_iff.mp hx)⟩
theorem nb_mem {E : List (Str × Str)} {r o : Str} (h : o ∈ nb E r) : ∃ e ∈ E, (e.1 = r ∧ e.2 = o) ∨ (e.2 = r ∧ e.1 = o) := by
  unfold nb at h
  obtain ⟨e, he, h⟩ := List.mem_flatMap.mp h
  refine ⟨e, he, ?_⟩
  rcases List.mem_append.mp h with h | h
  · split at h
    · exact .inl ⟨by assumption, (List.mem_singleton.mp h).symm⟩
    · exact absurd h (by simp)
  · split at h
    · exact .inr ⟨by assumption, (List.mem_singleton.mp h).symm⟩
    · exact absurd h (by simp)
end K06

/-! K06l: a sorted list is fixed by what it holds. -/
namespace K06
open PySem PySem.Spec PyProof.Rows L2 DL

def leS (a b : Str) : Prop := ¬ (b.cps.toList < a.cps.toList)
theorem leS_trans {a b c : Str} (h : leS a b) (k : leS b c) : leS a c := by
  have h' : a.cps.toList ≤ b.cps.toList := h
  have k' : b.cps.toList ≤ c.cps.toList := k
  exact List.le_trans h' k'
theorem leS_anti {a b : Str} (h : leS a b) (k : leS b a) : a = b := by
  have h' : a.cps.toList ≤ b.cps.toList := h
  have k' : b.cps.toList ≤ a.cps.toList := k
  exact Str.ext' (Array.toList_inj.mp (List.le_antisymm h' k'))
theorem rising_pw : ∀ (l : List Str) (p : Str), risingS p l = true → (p :: l).Pairwise leS
  | [], p, _ => List.pairwise_singleton _ _
  | x :: r, p, h => by
    have h' : (!ltCps x.cps.toList p.cps.toList && risingS x r) = true := h
    rw [Bool.and_eq_true, ltCps_eq] at h'
    have hx : leS p x := by
      have := h'.1
      unfold leS
      simpa using this
    have ih := rising_pw r x h'.2
    refine List.pairwise_cons.mpr ⟨fun y hy => ?_, ih⟩
    rcases List.mem_cons.mp hy with rfl | hy
    · exact hx
    · exact leS_trans hx ((List.pairwise_cons.mp ih).1 y hy)
theorem sorted_pw : ∀ {l : List Str}, sortedS l = true → l.Pairwise leS
  | [], _ => List.Pairwise.nil
  | x :: r, h => rising_pw r x h
theorem pw_uniq : ∀ {l m : List Str}, l.Pairwise leS → m.Pairwise leS → l.Perm m → l = m
  | [], m, _, _, p => (List.Perm.nil_eq p)
  | x :: r, [], _, _, p => absurd p.length_eq (by simp)
  | x :: r, y :: s, h, k, p => by
    have h1 := List.pairwise_cons.mp h
    have k1 := List.pairwise_cons.mp k
    have e : x = y := by
      rcases List.mem_cons.mp (p.mem_iff.mp (List.mem_cons_self ..)) with e | hx
      · exact e
      · rcases List.mem_cons.mp (p.mem_iff.mpr (List.mem_cons_self ..)) with e | hy
        · exact e.symm
        · exact leS_anti (h1.1 y hy) (k1.1 x hx)
    subst e
    rw [pw_uniq h1.2 k1.2 (List.Perm.cons_inv p)]
theorem sorted_uniq {l m : List Str} (h : sortedS l = true) (k : sortedS m = true) (p : l.Perm m) : l = m := pw_uniq (sorted_pw h) (sorted_pw k) p
end K06

/-! K06m: all rooms as they are come to from one. -/
namespace K06
open PySem PySem.Spec PyProof.Rows L2 DL

def opD : Option Str → D
  | none => .non
  | some p => .str p
/-- xs are come to from s, par is the room ahead -/
inductive Fd (f : Str → List Str) (s : Str) : List Str → (Str → Option Str) → Prop
  | one : Fd f s [s] fun _ => none
  | grow {xs : List Str} {par : Str → Option Str} {p o : Str} : Fd f s xs par → p ∈ xs → o ∉ xs → o ∈ f p → Fd f s (xs ++ [o]) fun r => if r = o then some p else par r
theorem Fd.nodup {f : Str → List Str} {s : Str} {xs : List Str} {par : Str → Option Str} (h : Fd f s xs par) : xs.Nodup := by
  induction h with
  | one => simp
  | grow h hp ho hf ih =>
    rw [List.nodup_append]
    refine ⟨ih, by simp, fun a ha b hb e => ?_⟩
    rw [List.mem_singleton] at hb
    rw [e, hb] at ha
    exact ho ha
theorem Fd.sub {f : Str → List Str} {s : Str} {rooms xs : List Str} {par : Str → Option Str} (hs : s ∈ rooms) (hf : ∀ r ∈ rooms, ∀ o ∈ f r, o ∈ rooms) (h : Fd f s xs par) : ∀ x ∈ xs, x ∈ rooms := by
  induction h with
  | one => simp [hs]
  | grow h hp ho hof ih =>
    intro x hx
    rcases List.mem_append.mp hx with hx | hx
    · exact ih x hx
    · rw [List.mem_singleton.mp hx]
      exact hf _ (ih _ hp) _ hof
theorem nodup_le : ∀ (xs ys : List Str), xs.Nodup → (∀ x ∈ xs, x ∈ ys) → xs.length ≤ ys.length
  | [], ys, _, _ => by simp
  | x :: xs, ys, h, k => by
    have h1 := List.nodup_cons.mp h
    have hx := k x (by simp)
    have := nodup_le xs (ys.erase x) h1.2 fun y hy => (List.mem_erase_of_ne (fun e : y = x => h1.1 (e ▸ hy))).mpr (k y (by simp [hy]))
    rw [List.length_erase_of_mem hx] at this
    have := List.length_pos_of_mem hx
    simp
    omega
theorem Fd.len {f : Str → List Str} {s : Str} {rooms xs : List Str} {par : Str → Option Str} (hs : s ∈ rooms) (hf : ∀ r ∈ rooms, ∀ o ∈ f r, o ∈ rooms) (h : Fd f s xs par) : xs.length ≤ rooms.length := by
  exact nodup_le _ _ h.nodup fun x hx => h.sub hs hf x hx
theorem Fd.dic {xs : List Str} {par : Str → Option Str} {p o : Str} (ho : o ∉ xs) : putD (dicF xs fun r => opD (par r)) (.inr o) (.str p) = dicF (xs ++ [o]) fun r => opD (if r = o then some p else par r) := by
  have e : dicF xs (fun r => opD (par r)) = dicF xs fun r => opD (if r = o then some p else par r) := dicF_congr fun r hr => by
    have : r ≠ o := fun e => ho (e ▸ hr)
    simp [this]
  rw [e]
  have := dicF_snoc (f := fun r => opD (if r = o then some p else par r)) ho
  simpa [opD] using this
def sp_walked (C : Addr) : SpD := fun args ret exc => ∃ (rooms : List Str) (f : Str → List Str) (s : Str), args = [(0, houseD C rooms f), (0, .str s), (1, .dic (dicF [s] fun _ => .non))] ∧ s ∈ rooms ∧ rooms.length < 1000 ∧
  (∀ r ∈ rooms, (∀ o ∈ f r, o ∈ rooms) ∧ (f r).length < 1000) ∧
  ∀ xs par, Fd f s xs par → (∀ x ∈ xs, ∀ o ∈ f x, o ∈ xs) → ret (0, sL xs) (1, .dic (dicF xs fun r => opD (par r)))
theorem mono_walked {C : Addr} : MonoSp (sp_walked C) := fun args ret ret' exc exc' k _ ⟨a, b, c, e, h0, h1, h2, h⟩ => ⟨a, b, c, e, h0, h1, h2, fun x y i j => k _ _ (h x y i j)⟩
def bWalk : TSd := (dIf (dFlatB (dT (dB wNotIn (dVar 6) (dVar 2)))) (dSeq (dPut 2 (dVar 6) (dVar 5)) (dExpr (dMutL 3 (dCons (dVar 6) dNil) opAppend))) dNext)
theorem walk_in {f : Str → List Str} {s p : Str} {rooms xs0 : List Str} {A : DE} {d0 d1 d4 : D} (hs : s ∈ rooms) (hf : ∀ r ∈ rooms, ∀ o ∈ f r, o ∈ rooms) (hl : rooms.length < 1000) (hp : p ∈ xs0)
    (k : ∀ t par c, Fd f s (xs0 ++ t) par → (∀ o ∈ f p, o ∈ xs0 ++ t) → A.nx [some (0, d0), some (0, d1), some (1, .dic (dicF (xs0 ++ t) fun r => opD (par r))), some (1, .lst ((xs0 ++ t).map D.str)), some (0, d4), some (0, .str p), c]) :
    ∀ (rest pre t : List Str) (par : Str → Option Str) (c : Option Sl), f p = pre ++ rest → Fd f s (xs0 ++ t) par → (∀ o ∈ pre, o ∈ xs0 ++ t) →
    dForL (gN 6) bWalk A (rest.map D.str) [some (0, d0), some (0, d1), some (1, .dic (dicF (xs0 ++ t) fun r => opD (par r))), some (1, .lst ((xs0 ++ t).map D.str)), some (0, d4), some (0, .str p), c]
  | [], pre, t, par, c, e, hd, hc => by
    have e : f p = pre := by simpa using e
    exact k t par c hd (by rw [e]; exact hc)
  | o :: rest, pre, t, par, c, e, hd, hc => by
    have ho : o ∈ f p := by rw [e]; simp
    have hlx := hd.len hs hf
    have hz : (xs0 ++ t).length < sizeLine := by rw [sizeLine_eq]; omega
    rw [List.map_cons, xForCons]
    by_cases q : o ∈ xs0 ++ t
    · have IH := walk_in hs hf hl hp k rest (pre ++ [o]) t par (some (0, .str o)) (by rw [e]; simp) hd fun x hx => by
        rcases List.mem_append.mp hx with hx | hx
        · exact hc x hx
        · rw [List.mem_singleton.mp hx]; exact q
      have v := dicF_val (f := fun r => opD (par r)) q
      generalize dForL (gN 6) bWalk A (rest.map D.str) = G at IH ⊢
      generalize xs0 ++ t = X at *
      simp [bWalk, show wNotIn = wInB true from rfl, v]
      exact IH
    · have hg : Fd f s (xs0 ++ (t ++ [o])) fun r => if r = o then some p else par r := by
        rw [← List.append_assoc]
        exact .grow hd (by simp [hp]) q ho
      have IH := walk_in hs hf hl hp k rest (pre ++ [o]) (t ++ [o]) (fun r => if r = o then some p else par r) (some (0, .str o)) (by rw [e]; simp) hg fun x hx => by
        rcases List.mem_append.mp hx with hx | hx
        · have := hc x hx
          rw [← List.append_assoc]
          simp only [List.mem_append] at this ⊢
          exact .inl this
        · rw [List.mem_singleton.mp hx]; simp
      have v := dicF_none (f := fun r => opD (par r)) q
      have ep := Fd.dic (par := par) (p := p) q
      rw [← List.append_assoc] at IH
      generalize dForL (gN 6) bWalk A (rest.map D.str) = G at IH ⊢
      generalize xs0 ++ t = X at *
      simp [bWalk, show wNotIn = wInB true from rfl, v, dPut, dicF_len, hz, keyD, ep, opAppend]
      simpa using IH
theorem plain_walked {C : Addr} {args : List Sl} {ret : Sl → Sl → Prop} {exc : Exc → Prop} (h : sp_walked C args ret exc) : t_walked C (fnE (some 2) ret) (start0 7 args) := by
  obtain ⟨rooms, f, s, rfl, hs, hl, hf, h⟩ := h
  have o1 : 1 ≤ sizeLine := by rw [sizeLine_eq]; omega
  simp [t_walked, start0]
  refine ⟨o1, fun m ρ => ∃ (xs : List Str) (par : Str → Option Str) (n : Nat) (a b : Option Sl), m + n = rooms.length ∧ n ≤ xs.length ∧ ρ = [some (0, houseD C rooms f), some (0, .str s), some (1, .dic (dicF xs fun r => opD (par r))), some (1, sL xs), some (0, .int n), a, b] ∧ Fd f s xs par ∧ ∀ x ∈ xs.take n, ∀ o ∈ f x, o ∈ xs, ⟨rooms.length, [s], fun _ => none, 0, none, none, rfl, by simp, rfl, .one, by simp⟩, ?_⟩
  rintro m ρ ⟨xs, par, n, a, b, hm, hn, rfl, hfd, hcl⟩
  have hlx := hfd.len hs fun r hr => (hf r hr).1
  have hz : xs.length ≤ sizeLine := by rw [sizeLine_eq]; omega
  by_cases hlt : n < xs.length
  · simp [sL, hz, hlt]
    have hat : atI (xs.map D.str) (n : Int) = some (.str xs[n]) := by
      rw [atI_nat (by simpa using hlt)]
      simp [hlt]
    have hx : xs[n] ∈ xs := List.getElem_mem hlt
    have hxr := hfd.sub hs (fun r hr => (hf r hr).1) _ hx
    have hfz : (f xs[n]).length ≤ sizeLine := by have := (hf _ hxr).2; rw [sizeLine_eq]; omega
    have v := dicF_val (f := fun r => sL (f r)) hxr
    rw [hat]
    simp [flatD, houseD]
    refine ⟨_, look_beside, ?_⟩
    simp [v]
    simp [sL, seqD, hfz]
    have W := fun A k => walk_in (d0 := houseD C rooms f) (d1 := .str s) (d4 := .int n) (A := A) hs (fun r hr => (hf r hr).1) hl hx k (f xs[n]) [] [] par b rfl (by simpa using hfd) (by simp)
    simp only [List.append_nil] at W
    refine W _ fun t par' c hd hc => ?_
    have hlt' := hd.len hs fun r hr => (hf r hr).1
    have hle : n + 1 ≤ (xs ++ t).length := by rw [List.length_append]; omega
    have hcl' : ∀ x ∈ (xs ++ t).take (n + 1), ∀ o ∈ f x, o ∈ xs ++ t := by
      rw [List.take_append_of_le_length (by omega), List.take_succ_eq_append_getElem hlt]
      intro x hx o ho
      rcases List.mem_append.mp hx with hx | hx
      · exact List.mem_append_left _ (hcl x hx o ho)
      · rw [List.mem_singleton.mp hx] at ho
        exact hc o ho
    generalize xs ++ t = X at *
    simp
    refine ⟨m - 1, by omega, X, par', n + 1, by omega, hle, ?_, hd, hcl'⟩
    simp [houseD]
  · have hn' : n = xs.length := by omega
    subst hn'
    simp [sL, hz]
    have := h xs par hfd (by simpa using hcl)
    simp only [fnE, outS]
    exact ⟨_, rfl, this⟩
end K06

/-! K06n: the rooms from one to other. -/
namespace K06
open PySem PySem.Spec PyProof.Rows L2 DL

theorem Fd.ahead {f : Str → List Str} {s : Str} {xs : List Str} {par : Str → Option Str} (h : Fd f s xs par) : ∀ us x vs, xs = us ++ x :: vs → par x = none ∨ ∃ p, p ∈ us ∧ par x = some p ∧ x ∈ f p := by
  induction h with
  | one => exact fun us x vs e => .inl rfl
  | @grow xs par p o h hp ho hf ih =>
    intro us x vs e
    by_cases q : x = o
    · refine .inr ⟨p, ?_, by simp [q], q ▸ hf⟩
      have hn : (xs ++ [o]).Nodup := (Fd.grow h hp ho hf).nodup
      rcases List.eq_nil_or_concat vs with rfl | ⟨vs', y, rfl⟩
      · have : xs = us := (List.append_inj' e rfl).1
        rw [← this]; exact hp
      · have e' : xs ++ [o] = (us ++ x :: vs') ++ [y] := by rw [e]; simp
        have := (List.append_inj' e' rfl).1
        exact absurd (by rw [this, ← q]; simp) ho
    · rcases List.eq_nil_or_concat vs with rfl | ⟨vs', y, rfl⟩
      · have := (List.append_inj' e rfl).2
        exact absurd (by simpa using this.symm) q
      · have e' : xs ++ [o] = (us ++ x :: vs') ++ [y] := by rw [e]; simp
        have := ih us x vs' (List.append_inj' e' rfl).1
        simpa [q] using this
theorem at_last {α : Type} {xs : List α} {y : α} : atI (xs ++ [y]) (-1) = some y := by
  have h1 : (1 : Int) ≤ (xs.length : Int) + 1 := by omega
  have h2 : (-1 + ((xs.length : Int) + 1)).toNat = xs.length := by omega
  simp [atI, ixN, h1, h2]
/-- the way up from one -/
inductive Wy (par : Str → Option Str) (one : Str) : List Str → Prop
  | base : Wy par one [one]
  | step {w : List Str} {x p : Str} : Wy par one (w ++ [x]) → par x = some p → Wy par one ((w ++ [x]) ++ [p])
def sp_way_of (C : Addr) : SpD := fun args ret exc => ∃ (rooms : List Str) (f : Str → List Str) (one s : Str), args = [(0, houseD C rooms f), (0, .str one), (0, .str s)] ∧ s ∈ rooms ∧ rooms.length < 1000 ∧
  (∀ r ∈ rooms, (∀ o ∈ f r, o ∈ rooms) ∧ (f r).length < 1000) ∧
  ∀ xs par, Fd f s xs par → (∀ x ∈ xs, ∀ o ∈ f x, o ∈ xs) → one ∈ xs ∧ ∀ w x, Wy par one (w ++ [x]) → par x = none → ret (0, sL (w ++ [x])) N0
theorem mono_way_of {C : Addr} : MonoSp (sp_way_of C) := fun args ret ret' exc exc' k _ ⟨a, b, c, d, e, h0, h1, h2, h⟩ => ⟨a, b, c, d, e, h0, h1, h2, fun x y i j => ⟨(h x y i j).1, fun w x h3 h4 => k _ _ ((h _ _ i j).2 w x h3 h4)⟩⟩
theorem plain_way_of {C : Addr} {args : List Sl} {ret : Sl → Sl → Prop} {exc : Exc → Prop} (h : sp_way_of C args ret exc) : t_way_of (sp_walked C) (fnE none ret) (start0 5 args) := by
  obtain ⟨rooms, f, one, s, rfl, hs, hl, hf, h⟩ := h
  have o1 : 1 ≤ sizeLine := by rw [sizeLine_eq]; omega
  simp [t_way_of, start0]
  simp [dDisp1, keyD]
  refine ⟨rooms, f, s, rfl, hs, hl, hf, fun xs par hd hc => ?_⟩
  obtain ⟨h1, h⟩ := h xs par hd hc
  have hlx := hd.len hs fun r hr => (hf r hr).1
  simp [sL, o1]
  refine ⟨fun m ρ => ∃ (w us vs : List Str) (x : Str), m = us.length ∧ xs = us ++ x :: vs ∧ w.length + us.length + 1 ≤ xs.length ∧ Wy par one (w ++ [x]) ∧ ρ = [some (0, houseD C rooms f), some (0, .str one), some (0, .str s), some (1, .dic (dicF xs fun r => opD (par r))), some (1, sL (w ++ [x]))], ?_, ?_⟩
  · obtain ⟨us, vs, e⟩ := List.append_of_mem h1
    exact ⟨_, [], us, vs, one, rfl, e, by rw [e]; simp, .base, rfl⟩
  · rintro m ρ ⟨w, us, vs, x, rfl, e, hw, hy, rfl⟩
    have hx : x ∈ xs := by rw [e]; simp
    have v := dicF_val (f := fun r => opD (par r)) hx
    have hz : (w ++ [x]).length < sizeLine := by rw [sizeLine_eq, List.length_append]; simp; omega
    have hz1 : w.length + 1 < sizeLine := by simpa using hz
    have hat' : atI (w.map D.str ++ [D.str x]) (-1) = some (.str x) := at_last
    cases hp : par x with
    | none =>
      have v : valD (dicF xs fun r => opD (par r)) (.inr x) = some .non := by rw [v, hp]; rfl
      simp [sL, hat', v, isNonD]
      have := h w x hy hp
      simp only [fnE, outS]
      simpa [sL] using this
    | some p =>
      have v : valD (dicF xs fun r => opD (par r)) (.inr x) = some (.str p) := by rw [v, hp]; rfl
      have hpu : p ∈ us := by
        rcases hd.ahead us x vs e with q | ⟨p', q1, q2, _⟩
        · rw [hp] at q; exact absurd q (by simp)
        · rw [hp] at q2; cases q2; exact q1
      obtain ⟨us', vs', e'⟩ := List.append_of_mem hpu
      simp [sL, hat', v, isNonD, flatD, hz1]
      refine ⟨us'.length, by rw [e']; simp, w ++ [x], us', rfl, vs' ++ x :: vs, p, by rw [e, e']; simp, ?_, .step hy hp, by simp [houseD]⟩
      rw [e'] at hw
      simp at hw ⊢
      omega
end K06

/-! K06o: least and most steps. -/
namespace K06
open PySem PySem.Spec PyProof.Rows L2 DL

theorem Wy.sub {f : Str → List Str} {s one : Str} {xs : List Str} {par : Str → Option Str} (h : Fd f s xs par) (h1 : one ∈ xs) {w : List Str} (hw : Wy par one w) : ∀ x ∈ w, x ∈ xs := by
  induction hw with
  | base => simp [h1]
  | @step w x p hw hp ih =>
    intro y hy
    rcases List.mem_append.mp hy with hy | hy
    · exact ih y hy
    · rw [List.mem_singleton.mp hy]
      obtain ⟨us, vs, e⟩ := List.append_of_mem (ih x (by simp))
      rcases h.ahead us x vs e with q | ⟨p', q1, q2, _⟩
      · rw [hp] at q; exact absurd q (by simp)
      · rw [hp] at q2; cases q2; rw [e]; simp [q1]
def sp_spread_of (C : Addr) : SpD := fun args ret exc => ∃ (rooms rooms1 : List Str) (f : Str → List Str) (wd : Str → Int) (one s : Str), args = [(0, houseD C rooms f), (0, woodD rooms1 wd), (0, .str one), (0, .str s)] ∧ rooms1.Perm rooms ∧ s ∈ rooms ∧ rooms.length < 1000 ∧
  (∀ r ∈ rooms, (∀ o ∈ f r, o ∈ rooms) ∧ (f r).length < 1000) ∧
  ∀ xs par, Fd f s xs par → (∀ x ∈ xs, ∀ o ∈ f x, o ∈ xs) → one ∈ xs ∧ ∀ w x, Wy par one (w ++ [x]) → par x = none → w.length < 1000 ∧ (∀ y ∈ w, y ∈ rooms) ∧ ret (0, .tup [.int w.length, .int (w.map wd).sum]) N0
theorem mono_spread_of {C : Addr} : MonoSp (sp_spread_of C) := fun args ret ret' exc exc' k _ ⟨a, a', b, b', c, d, e, h0, h1, h2, h3, h⟩ => ⟨a, a', b, b', c, d, e, h0, h1, h2, h3, fun x y i j => ⟨(h x y i j).1, fun w x h3 h4 => ⟨((h _ _ i j).2 w x h3 h4).1, ((h _ _ i j).2 w x h3 h4).2.1, k _ _ ((h _ _ i j).2 w x h3 h4).2.2⟩⟩⟩
theorem plain_spread_of {C : Addr} {args : List Sl} {ret : Sl → Sl → Prop} {exc : Exc → Prop} (h : sp_spread_of C args ret exc) : t_spread_of (sp_way_of C) (fnE none ret) (start0 6 args) := by
  obtain ⟨rooms, rooms1, f, wd, one, s, rfl, p1, hs, hl, hf, h⟩ := h
  simp [t_spread_of, start0]
  refine ⟨rooms, f, one, s, rfl, hs, hl, hf, fun xs par hd hc => ⟨(h xs par hd hc).1, fun w x hy hp => ?_⟩⟩
  obtain ⟨hw, hsub, h⟩ := (h xs par hd hc).2 w x hy hp
  have hz : w.length + 1 ≤ sizeLine := by rw [sizeLine_eq]; omega
  have hcut : DL.cutD ((w ++ [x]).map D.str) none (some (-1)) = w.map D.str := by
    have h1 : (1 : Int) ≤ (w.length : Int) + 1 := by omega
    have h2 : (-1 + ((w.length : Int) + 1)).toNat = w.length := by omega
    have e1 : HT.sIx (w.length + 1) (w.length + 1) (some (-1)) = w.length := by
      simp [HT.sIx]
      try omega
    simp [DL.cutD, HT.sIx_none, e1]
  have o2 : 2 ≤ sizeLine := by rw [sizeLine_eq]; omega
  have hz2 : w.length ≤ sizeLine := by omega
  simp [sL, hz]
  simp at hcut
  simp [hcut, hz2]
  refine lc_map (f := fun d => match d with
    | .str r => .int (wd r)
    | d => d) (fun d hd K1 K0 hk => ?_) ?_
  · obtain ⟨r, hr, rfl⟩ := List.mem_map.mp hd
    have v := dicF_val (f := fun r => D.int (wd r)) (p1.mem_iff.mpr (hsub r hr))
    simp [woodD, v]
    exact hk
  · have e : (w.map D.str).map (fun d => match d with
      | .str r => D.int (wd r)
      | d => d) = (w.map wd).map D.int := by rw [List.map_map, List.map_map]; rfl
    rw [List.nil_append, e, xSum]
    refine ⟨o2, ?_⟩
    simp only [fnE, outS]
    exact h
end K06

/-! K06p: spread. -/
namespace K06
open PySem PySem.Spec PyProof.Rows L2 DL

def sp_spread (C : Addr) : SpD := fun args ret exc => ∃ (rooms rooms1 : List Str) (f : Str → List Str) (wd : Str → Int) (one s : Str), args = [(0, houseD C rooms f), (0, woodD rooms1 wd), (0, .str one), (0, .str s)] ∧ rooms1.Perm rooms ∧ rooms.Nodup ∧ one ∈ rooms ∧ s ∈ rooms ∧ rooms.length < 1000 ∧ (∀ r ∈ rooms, 0 < wd r) ∧
  (∀ r ∈ rooms, (∀ o ∈ f r, o ∈ rooms) ∧ (f r).length < 1000) ∧
  ∀ xs par, Fd f s xs par → (∀ x ∈ xs, ∀ o ∈ f x, o ∈ xs) → one ∈ xs ∧ ∀ w x, Wy par one (w ++ [x]) → par x = none → w.length < 1000 ∧ (∀ y ∈ w, y ∈ rooms) ∧ ret (0, .tup [.int w.length, .int (w.map wd).sum]) N0
theorem mono_spread {C : Addr} : MonoSp (sp_spread C) := fun args ret ret' exc exc' k _ ⟨a, a', b, b', c, d, e, h0, h1, h2, h3, h4, h5, h6, h⟩ => ⟨a, a', b, b', c, d, e, h0, h1, h2, h3, h4, h5, h6, fun x y i j => ⟨(h x y i j).1, fun w x h3 h4 => ⟨((h _ _ i j).2 w x h3 h4).1, ((h _ _ i j).2 w x h3 h4).2.1, k _ _ ((h _ _ i j).2 w x h3 h4).2.2⟩⟩⟩
end K06

/-! K06q: _law_same of bools and of lists of one bool. -/
namespace K06
open PySem PySem.Spec PyProof.Rows L2 DL

def sp_same0 : SpD := fun args ret exc => ∃ a b : Bool, args = [(0, .bl a), (0, .bl b)] ∧ ret (0, .bl (decide (a = b))) N0
theorem mono_same0 : MonoSp sp_same0 := fun args ret ret' exc exc' k _ ⟨a, b, e, h⟩ => ⟨a, b, e, k _ _ h⟩
def sp_same1 : SpD := fun args ret exc => ∃ a b : Bool, args = [(0, .lst [.bl a]), (0, .lst [.bl b])] ∧ ret (0, .bl (decide (a = b))) N0
theorem mono_same1 : MonoSp sp_same1 := fun args ret ret' exc exc' k _ ⟨a, b, e, h⟩ => ⟨a, b, e, k _ _ h⟩
end K06

/-! K06r: trees seen from any room; fires by rooms and by doors. -/
namespace K06
open PySem PySem.Spec PyProof.Rows L2 DL

theorem nb_iff {E : List (Str × Str)} {r o : Str} : o ∈ nb E r ↔ (r, o) ∈ E ∨ (o, r) ∈ E := by
  constructor
  · intro h
    obtain ⟨e, he, h | h⟩ := nb_mem h
    · refine .inl ?_
      rw [← h.1, ← h.2]
      exact he
    · refine .inr ?_
      rw [← h.1, ← h.2]
      exact he
  · intro h
    unfold nb
    rw [List.mem_flatMap]
    rcases h with h | h
    · exact ⟨_, h, by simp⟩
    · exact ⟨_, h, by simp⟩
theorem nb_perm {E E' : List (Str × Str)} (p : E.Perm E') (r : Str) : (nb E r).Perm (nb E' r) := by
  unfold nb
  exact p.flatMap_right _
theorem Tr.nb_nd {R : List Str} {E : List (Str × Str)} (t : Tr R E) (x : Str) : (nb E x).Nodup := by
  induction t with
  | one r => simp [nb]
  | @grow R E p r e t hp hr he ih =>
    have hn : r ∉ nb E x := fun h => by
      rcases nb_iff.mp h with h | h
      · exact hr (t.ends _ h).2.1
      · exact hr (t.ends _ h).1
    have pr : p ≠ r := fun z => hr (z ▸ hp)
    have hx : x = r → nb E x = [] := fun q => by
      rw [List.eq_nil_iff_forall_not_mem]
      intro o ho
      rw [q] at ho
      rcases nb_iff.mp ho with h | h
      · exact hr (t.ends _ h).1
      · exact hr (t.ends _ h).2.1
    have e1 : nb (e :: E) x = ((if e.1 = x then [e.2] else []) ++ (if e.2 = x then [e.1] else [])) ++ nb E x := by simp [nb]
    rw [e1]
    rcases he with rfl | rfl
    · by_cases c1 : p = x
      · have c2 : ¬ r = x := fun z => pr (c1.trans z.symm)
        simp [c1, c2, hn, ih]
      · by_cases c2 : r = x
        · simp [c1, c2, hx c2.symm]
        · simp [c1, c2, ih]
    · by_cases c1 : p = x
      · have c2 : ¬ r = x := fun z => pr (c1.trans z.symm)
        simp [c1, c2, hn, ih]
      · by_cases c2 : r = x
        · simp [c1, c2, hx c2.symm]
        · simp [c1, c2, ih]
/-- a house as it is looked at: f tells the rooms beside a room -/
structure Hs (rooms : List Str) (doors : List (Str × Str)) (f : Str → List Str) : Prop where
  nd : rooms.Nodup
  tree : Tree rooms doors
  per : ∀ r ∈ rooms, (f r).Perm (nb doors r)
section
variable {rooms : List Str} {doors : List (Str × Str)} {f : Str → List Str} (H : Hs rooms doors f)
include H
theorem Hs.mem {r o : Str} (hr : r ∈ rooms) : o ∈ f r ↔ (r, o) ∈ doors ∨ (o, r) ∈ doors := by
  rw [(H.per r hr).mem_iff]
  exact nb_iff
theorem Hs.ends {e : Str × Str} (he : e ∈ doors) : e.1 ∈ rooms ∧ e.2 ∈ rooms ∧ e.1 ≠ e.2 := by
  obtain ⟨R0, E0, t, pR, pE⟩ := H.tree
  have := t.ends e (pE.mem_iff.mpr he)
  exact ⟨pR.mem_iff.mp this.1, pR.mem_iff.mp this.2.1, this.2.2⟩
theorem Hs.sub {r o : Str} (hr : r ∈ rooms) (ho : o ∈ f r) : o ∈ rooms := by
  rcases (H.mem hr).mp ho with h | h
  · exact (H.ends h).2.1
  · exact (H.ends h).1
theorem Hs.sym {r o : Str} (hr : r ∈ rooms) (ho : o ∈ f r) : r ∈ f o :=
  (H.mem (H.sub hr ho)).mpr ((H.mem hr).mp ho).symm
theorem Hs.fnd {r : Str} (hr : r ∈ rooms) : (f r).Nodup := by
  obtain ⟨R0, E0, t, pR, pE⟩ := H.tree
  exact ((H.per r hr).trans (nb_perm pE r).symm).nodup_iff.mpr (Tr.nb_nd t r)
theorem Hs.cut {e : Str × Str} {E' : List (Str × Str)} (p : doors.Perm (e :: E')) : ∃ S : Str → Prop, (S e.1 ↔ ¬ S e.2) ∧ ∀ f ∈ E', (S f.1 ↔ S f.2) := by
  obtain ⟨R0, E0, t, pR, pE⟩ := H.tree
  exact t.cut e E' (pE.trans p)
theorem Hs.conn {α : Type} (F : Str → α) (h : ∀ e ∈ doors, F e.1 = F e.2) : ∀ x ∈ rooms, ∀ y ∈ rooms, F x = F y := by
  obtain ⟨R0, E0, t, pR, pE⟩ := H.tree
  exact fun x hx y hy => t.conn F (fun e he => h e (pE.mem_iff.mp he)) x (pR.mem_iff.mpr hx) y (pR.mem_iff.mpr hy)
theorem Hs.full {s : Str} {xs : List Str} {par : Str → Option Str} (hs : s ∈ rooms) (h : Fd f s xs par) (hc : ∀ x ∈ xs, ∀ o ∈ f x, o ∈ xs) : xs.Perm rooms := by
  have hsub := h.sub hs fun r hr o ho => H.sub hr ho
  refine (List.perm_ext_iff_of_nodup h.nodup H.nd).mpr fun x => ⟨hsub x, fun hx => ?_⟩
  have s0 : s ∈ xs := by
    clear hc hsub hx
    induction h with
    | one => simp
    | grow h hp ho hf ih => simp [ih]
  have := H.conn (fun x => x ∈ xs) (fun e he => by
    have q := H.ends he
    apply propext
    exact ⟨fun z => hc _ z _ ((H.mem q.1).mpr (.inl he)), fun z => hc _ z _ ((H.mem q.2.1).mpr (.inr he))⟩) s hs x hx
  have : (s ∈ xs) = (x ∈ xs) := this
  rw [← this]
  exact s0
end
theorem Fd.top {f : Str → List Str} {s : Str} {xs : List Str} {par : Str → Option Str} (h : Fd f s xs par) : par s = none ∧ s ∈ xs := by
  induction h with
  | one => simp
  | grow h hp ho hf ih =>
    refine ⟨?_, by simp [ih]⟩
    have ne : s ≠ _ := fun e => ho (Eq.subst (motive := fun z => z ∈ _) e ih.2)
    exact (if_neg ne).trans ih.1
theorem Fd.par_of {f : Str → List Str} {s : Str} {xs : List Str} {par : Str → Option Str} (h : Fd f s xs par) : ∀ {x p : Str}, par x = some p → x ∈ xs ∧ p ∈ xs ∧ x ∈ f p ∧ x ≠ s := by
  induction h with
  | one => intro x p e; exact absurd e (by simp)
  | @grow xs par q o h hp ho hf ih =>
    intro x p e
    have hs := h.top.2
    by_cases c : x = o
    · have e : q = p := by simpa [c] using e
      rw [c, ← e]
      exact ⟨by simp, by simp [hp], hf, fun z => ho (z ▸ hs)⟩
    · have e : par x = some p := by simpa [c] using e
      obtain ⟨h1, h2, h3, h4⟩ := ih e
      exact ⟨by simp [h1], by simp [h2], h3, h4⟩
theorem Fd.has {f : Str → List Str} {s : Str} {xs : List Str} {par : Str → Option Str} (h : Fd f s xs par) : ∀ {x : Str}, x ∈ xs → x ≠ s → ∃ p, par x = some p := by
  induction h with
  | one => intro x hx hs; exact absurd (by simpa using hx) hs
  | @grow xs par q o h hp ho hf ih =>
    intro x hx hs
    by_cases c : x = o
    · exact ⟨q, by simp [c]⟩
    · have : x ∈ xs := by
        rcases List.mem_append.mp hx with z | z
        · exact z
        · exact absurd (List.mem_singleton.mp z) c
      obtain ⟨p, hp⟩ := ih this hs
      exact ⟨p, by simp [c, hp]⟩
section
variable {rooms : List Str} {doors : List (Str × Str)} {f : Str → List Str} (H : Hs rooms doors f)
include H
/-- each door joins a room and the one ahead of it -/
theorem Hs.edge {s : Str} {xs : List Str} {par : Str → Option Str} (hs : s ∈ rooms) (h : Fd f s xs par) (hc : ∀ x ∈ xs, ∀ o ∈ f x, o ∈ xs) {a o : Str} (ha : a ∈ rooms) (ho : o ∈ f a) : par a = some o ∨ par o = some a := by
  have hp := H.full hs h hc
  have main : ∀ a o, (a, o) ∈ doors → par a = some o ∨ par o = some a := fun a o he => by
    refine Classical.byContradiction fun hn => ?_
    have hn1 : ¬ par a = some o := fun z => hn (.inl z)
    have hn2 : ¬ par o = some a := fun z => hn (.inr z)
    obtain ⟨S, h1, h2⟩ := H.cut (List.perm_cons_erase he)
    have step : ∀ x p, par x = some p → (S x ↔ S p) := fun x p e => by
      obtain ⟨q1, q2, q3, q4⟩ := h.par_of e
      rcases (H.mem (hp.mem_iff.mp q2)).mp q3 with z | z
      · have ne : (p, x) ≠ (a, o) := fun w => hn2 (by cases w; exact e)
        exact (h2 _ ((List.mem_erase_of_ne ne).mpr z)).symm
      · have ne : (x, p) ≠ (a, o) := fun w => hn1 (by cases w; exact e)
        exact h2 _ ((List.mem_erase_of_ne ne).mpr z)
    have all : ∀ x ∈ xs, (S x ↔ S s) := by
      clear h1 h2 hn hn1 hn2 hc hp
      induction h with
      | one => intro x hx; rw [List.mem_singleton.mp hx]
      | @grow xs par p o h hp ho hf ih =>
        have ih := ih fun x q e => by
          have : x ≠ o := fun z => ho (z ▸ (h.par_of e).1)
          exact step x q (by simp [this, e])
        intro x hx
        rcases List.mem_append.mp hx with z | z
        · exact ih x z
        · rw [List.mem_singleton.mp z]
          exact (step o p (by simp)).trans (ih p hp)
    have q := H.ends he
    have a1 := all a (hp.mem_iff.mpr q.1)
    have a2 := all o (hp.mem_iff.mpr q.2.1)
    have h1 : S a ↔ ¬ S o := h1
    by_cases z : S o
    · exact h1.mp (a1.mpr (a2.mp z)) z
    · exact z (a2.mpr (a1.mp (h1.mpr z)))
  rcases (H.mem ha).mp ho with z | z
  · exact main a o z
  · exact (main o a z).symm
/-- from each room all are come to -/
theorem Hs.walk {s : Str} (hs : s ∈ rooms) : ∃ xs par, Fd f s xs par ∧ ∀ x ∈ xs, ∀ o ∈ f x, o ∈ xs := by
  have key : ∀ n xs par, Fd f s xs par → rooms.length - xs.length ≤ n → ∃ xs par, Fd f s xs par ∧ ∀ x ∈ xs, ∀ o ∈ f x, o ∈ xs := by
    intro n
    induction n with
    | zero =>
      intro xs par h hn
      refine ⟨xs, par, h, fun x hx o ho => ?_⟩
      refine Classical.byContradiction fun hno => ?_
      have := (Fd.grow h hx hno ho).len hs fun r hr o ho => H.sub hr ho
      rw [List.length_append, List.length_singleton] at this
      omega
    | succ n ih =>
      intro xs par h hn
      by_cases c : ∀ x ∈ xs, ∀ o ∈ f x, o ∈ xs
      · exact ⟨xs, par, h, c⟩
      · simp only [Classical.not_forall] at c
        obtain ⟨x, hx, o, ho, hno⟩ := c
        refine ih _ _ (Fd.grow h hx hno ho) ?_
        rw [List.length_append, List.length_singleton]
        omega
  exact key _ _ _ .one (Nat.le_refl _)
end
/-- hours are a fire's that begins in s -/
def FireAt (par : Str → Option Str) (w h : Str → Int) : Prop := ∀ x p, par x = some p → 1 ≤ h x - h p ∧ h x - h p ≤ w p

theorem Fd.low {f : Str → List Str} {s : Str} {xs : List Str} {par : Str → Option Str} {h : Str → Int} (hd : Fd f s xs par) : (∀ x p, par x = some p → 1 ≤ h x - h p) → ∀ x ∈ xs, x ≠ s → h s < h x := by
  induction hd with
  | one => intro _ x hx hs; exact absurd (by simpa using hx) hs
  | @grow xs par q o hd hq ho hof ih =>
    intro hf
    have ih := ih fun x p e => hf x p (by
      have : x ≠ o := fun z => ho (z ▸ (hd.par_of e).1)
      simp [this, e])
    intro x hx hs
    rcases List.mem_append.mp hx with z | z
    · exact ih x z hs
    · have e := List.mem_singleton.mp z
      subst e
      have h1 := hf x q (by simp)
      by_cases c : q = s
      · rw [c] at h1; omega
      · have := ih q hq c
        omega
theorem ok_iff {f : Str → List Str} {w h : Str → Int} {r : Str} : okR f w h r = true ↔ ∀ o ∈ f r, h o ≠ h r ∧ (h o < h r → h r - h o ≤ w o) := by
  unfold okR aheadL
  simp only [Bool.and_eq_true, Bool.not_eq_true', List.any_eq_false, List.mem_filter, decide_eq_true_eq, Bool.not_eq_true, decide_eq_false_iff_not]
  constructor
  · intro ⟨h1, h2⟩ o ho
    refine ⟨h1 o ho, fun hlt => ?_⟩
    have := h2 o ⟨ho, hlt⟩
    omega
  · intro hh
    refine ⟨fun o ho => (hh o ho).1, fun o ⟨ho, hlt⟩ => ?_⟩
    have := (hh o ho).2 hlt
    omega
theorem one_filter {q : Str → Bool} {s : Str} : ∀ {rooms : List Str}, rooms.Nodup → s ∈ rooms → (∀ r ∈ rooms, q r = true ↔ r = s) → (rooms.filter q) = [s] := by
  intro rooms nd hs hq
  have h1 : (rooms.filter q).Nodup := nd.sublist List.filter_sublist
  have : (rooms.filter q).Perm [s] := (List.perm_ext_iff_of_nodup h1 (by simp)).mpr fun x => by
    rw [List.mem_filter, List.mem_singleton]
    exact ⟨fun ⟨a, b⟩ => (hq x a).mp b, fun e => by rw [e]; exact ⟨hs, (hq s hs).mpr rfl⟩⟩
  exact List.perm_singleton.mp this
theorem filter_one {q : Str → Bool} {rooms : List Str} (h : (rooms.filter q).length = 1) : ∃ s ∈ rooms, q s = true ∧ ∀ r ∈ rooms, q r = true → r = s := by
  obtain ⟨s, e⟩ := List.length_eq_one_iff.mp h
  have hs : s ∈ rooms.filter q := by rw [e]; simp
  refine ⟨s, (List.mem_filter.mp hs).1, (List.mem_filter.mp hs).2, fun r hr hq => ?_⟩
  have : r ∈ rooms.filter q := List.mem_filter.mpr ⟨hr, hq⟩
  rw [e] at this
  exact List.mem_singleton.mp this
theorem Fd.rank {f : Str → List Str} {s : Str} {xs : List Str} {par : Str → Option Str} (h : Fd f s xs par) : ∃ rk : Str → Nat, (∀ x ∈ xs, rk x < xs.length) ∧ ∀ x p, par x = some p → rk p < rk x := by
  induction h with
  | one => exact ⟨fun _ => 0, by simp, fun x p e => absurd e (by simp)⟩
  | @grow xs par q o h hp ho hf ih =>
    obtain ⟨rk, h1, h2⟩ := ih
    refine ⟨fun r => if r = o then xs.length else rk r, fun x hx => ?_, fun x p e => ?_⟩
    · rw [List.length_append, List.length_singleton]
      by_cases c : x = o
      · simp [c]
      · simp only [c, if_false]
        rcases List.mem_append.mp hx with z | z
        · have := h1 x z; omega
        · exact absurd (List.mem_singleton.mp z) c
    · by_cases c : x = o
      · have e : q = p := by simpa [c] using e
        subst e
        have : q ≠ o := fun z => ho (z ▸ hp)
        simp only [c, this, if_true, if_false]
        exact h1 q hp
      · have e : par x = some p := by simpa [c] using e
        have := (h.par_of e).2.1
        have : p ≠ o := fun z => ho (z ▸ this)
        simp only [c, this, if_false]
        exact h2 x p e
theorem ahead_nil {f : Str → List Str} {h : Str → Int} {r : Str} : (aheadL f h r).isEmpty = true ↔ ∀ o ∈ f r, h r ≤ h o := by
  unfold aheadL
  rw [List.isEmpty_iff, List.filter_eq_nil_iff]
  constructor
  · intro h1 o ho
    have := h1 o ho
    simp at this
    exact this
  · intro h1 o ho
    have := h1 o ho
    simp
    exact this
section
variable {rooms : List Str} {doors : List (Str × Str)} {f : Str → List Str} (H : Hs rooms doors f)
include H
theorem Hs.only {s : Str} {xs : List Str} {par : Str → Option Str} {w h : Str → Int} (hs : s ∈ rooms) (hd : Fd f s xs par) (hc : ∀ x ∈ xs, ∀ o ∈ f x, o ∈ xs) (hf : FireAt par w h) : ∀ r ∈ rooms, (aheadL f h r).isEmpty = true ↔ r = s := by
  intro r hr
  rw [ahead_nil]
  constructor
  · intro h1
    refine Classical.byContradiction fun ne => ?_
    obtain ⟨p, hp⟩ := hd.has ((H.full hs hd hc).mem_iff.mpr hr) ne
    have h2 := hf r p hp
    obtain ⟨q1, q2, q3, q4⟩ := hd.par_of hp
    have := h1 p (H.sym ((H.full hs hd hc).mem_iff.mp q2) q3)
    omega
  · intro e o ho
    subst e
    rcases H.edge hs hd hc hs ho with z | z
    · rw [hd.top.1] at z; exact absurd z (by simp)
    · have := hf o r z
      omega
theorem Hs.fire_burns {s : Str} {xs : List Str} {par : Str → Option Str} {w h : Str → Int} (hs : s ∈ rooms) (hd : Fd f s xs par) (hc : ∀ x ∈ xs, ∀ o ∈ f x, o ∈ xs) (hf : FireAt par w h) : burnsB rooms f w h = true := by
  unfold burnsB
  rw [Bool.and_eq_true]
  refine ⟨List.all_eq_true.mpr fun r hr => ok_iff.mpr fun o ho => ?_, ?_⟩
  · rcases H.edge hs hd hc hr ho with z | z
    · have := hf r o z
      exact ⟨by omega, fun _ => by omega⟩
    · have := hf o r z
      exact ⟨by omega, fun _ => by omega⟩
  · rw [one_filter H.nd hs (H.only hs hd hc hf)]
    rfl
theorem Hs.burns_fire {w h : Str → Int} (hb : burnsB rooms f w h = true) : ∃ s ∈ rooms, ∀ xs par, Fd f s xs par → (∀ x ∈ xs, ∀ o ∈ f x, o ∈ xs) → FireAt par w h := by
  unfold burnsB at hb
  rw [Bool.and_eq_true] at hb
  obtain ⟨ha, h1⟩ := hb
  have hok : ∀ r ∈ rooms, ∀ o ∈ f r, h o ≠ h r ∧ (h o < h r → h r - h o ≤ w o) := fun r hr => ok_iff.mp (List.all_eq_true.mp ha r hr)
  obtain ⟨s, hs, _, hu⟩ := filter_one (of_decide_eq_true h1)
  refine ⟨s, hs, fun xs par hd hc => ?_⟩
  have hp := H.full hs hd hc
  obtain ⟨rk, r1, r2⟩ := hd.rank
  have good : ∀ n x p, xs.length - rk x ≤ n → par x = some p → h p < h x := by
    intro n
    induction n with
    | zero =>
      intro x p hn hpx
      have := r1 x (hd.par_of hpx).1
      omega
    | succ n ih =>
      intro x p hn hpx
      obtain ⟨q1, q2, q3, q4⟩ := hd.par_of hpx
      have hx := hp.mem_iff.mp q1
      have hpr := hp.mem_iff.mp q2
      refine Classical.byContradiction fun hlt => ?_
      have ne := (hok p hpr x q3).1
      have hnot : ¬ (aheadL f h x).isEmpty = true := fun z => q4 (hu x hx z)
      rw [ahead_nil] at hnot
      simp only [Classical.not_forall] at hnot
      obtain ⟨o, ho, hlo⟩ := hnot
      rcases H.edge hs hd hc hx ho with z | z
      · rw [hpx] at z; cases z; omega
      · have := r2 o x z
        have h3 := r1 x q1
        have := ih o x (by omega) z
        omega
  intro x p hpx
  have h1 := good _ x p (Nat.le_refl _) hpx
  obtain ⟨q1, q2, q3, q4⟩ := hd.par_of hpx
  have hx := hp.mem_iff.mp q1
  have := (hok x hx p (H.sym (hp.mem_iff.mp q2) q3)).2 h1
  omega
/-- the look by doors is the same as that by rooms -/
theorem Hs.by_burns {rooms2 : List Str} {w h : Str → Int} (hp : rooms2.Perm rooms) : byB doors rooms2 w h = burnsB rooms f w h := by
  have a1 : doors.all (okDoor w h) = true ↔ rooms.all (okR f w h) = true := by
    rw [List.all_eq_true, List.all_eq_true]
    have od : ∀ e : Str × Str, okDoor w h e = true ↔ h e.1 ≠ h e.2 ∧ (h e.1 < h e.2 → h e.2 - h e.1 ≤ w e.1) ∧ (h e.2 < h e.1 → h e.1 - h e.2 ≤ w e.2) := fun e => by
      unfold okDoor
      by_cases c : h e.1 < h e.2
      · simp [c]
        omega
      · simp [c]
        omega
    constructor
    · intro hd r hr
      refine ok_iff.mpr fun o ho => ?_
      rcases (H.mem hr).mp ho with z | z
      · have := (od _).mp (hd _ z)
        exact ⟨fun e => this.1 e.symm, this.2.2⟩
      · have := (od _).mp (hd _ z)
        exact ⟨this.1, this.2.1⟩
    · intro hr e he
      have q := H.ends he
      have h1 := ok_iff.mp (hr e.1 q.1) e.2 ((H.mem q.1).mpr (.inl he))
      have h2 := ok_iff.mp (hr e.2 q.2.1) e.1 ((H.mem q.2.1).mpr (.inr he))
      exact (od e).mpr ⟨h2.1, h2.2, h1.2⟩
  unfold byB burnsB
  cases c : rooms.all (okR f w h) with
  | false =>
    have : doors.all (okDoor w h) = false := by
      rw [Bool.eq_false_iff]
      intro z
      rw [a1, c] at z
      cases z
    rw [this]
    rfl
  | true =>
    rw [a1.mpr c]
    have e : (rooms2.filter (firstB doors h)).length = (rooms.filter fun r => (aheadL f h r).isEmpty).length := by
      rw [(hp.filter _).length_eq]
      congr 1
      refine List.filter_congr fun r hr => ?_
      rw [Bool.eq_iff_iff, ahead_nil]
      unfold firstB
      rw [List.all_eq_true]
      have ok := ok_iff.mp (List.all_eq_true.mp c r hr)
      constructor
      · intro h1 o ho
        have := h1 o ((H.per r hr).mem_iff.mp ho)
        simp at this
        omega
      · intro h1 o ho
        have ho := (H.per r hr).mem_iff.mpr ho
        have := h1 o ho
        have := (ok o ho).1
        simp
        omega
    rw [e]
end
end K06

/-! K06s: all fires from a room, their hours, how many. -/
namespace K06
open PySem PySem.Spec PyProof.Rows L2 DL

def upd (h : Str → Int) (o : Str) (v : Int) : Str → Int := fun r => if r = o then v else h r
/-- all fires from a room: one room more, by each of its steps -/
def growF (w : Str → Int) (p o : Str) (hs : List (Str → Int)) : List (Str → Int) := hs.flatMap fun h => (List.range (w p).toNat).map fun k => upd h o (h p + 1 + (k : Nat))
inductive AllF (f : Str → List Str) (s : Str) (w : Str → Int) (hour : Int) : List Str → (Str → Option Str) → List (Str → Int) → Prop
  | one : AllF f s w hour [s] (fun _ => none) [fun _ => hour]
  | grow {ks : List Str} {par : Str → Option Str} {hs : List (Str → Int)} {p o : Str} : AllF f s w hour ks par hs → p ∈ ks → o ∉ ks → o ∈ f p → AllF f s w hour (ks ++ [o]) (fun r => if r = o then some p else par r) (growF w p o hs)
section
variable {f : Str → List Str} {s : Str} {w : Str → Int} {hour : Int} {ks : List Str} {par : Str → Option Str} {hs : List (Str → Int)}
theorem AllF.fd (A : AllF f s w hour ks par hs) : Fd f s ks par := by
  induction A with
  | one => exact .one
  | grow A hp ho hf ih => exact .grow ih hp ho hf
theorem mem_grow {p o : Str} {h : Str → Int} : h ∈ growF w p o hs ↔ ∃ h0 ∈ hs, ∃ k : Nat, k < (w p).toNat ∧ h = upd h0 o (h0 p + 1 + (k : Nat)) := by
  unfold growF
  rw [List.mem_flatMap]
  constructor
  · rintro ⟨h0, h1, h2⟩
    obtain ⟨k, hk, e⟩ := List.mem_map.mp h2
    exact ⟨h0, h1, k, List.mem_range.mp hk, e.symm⟩
  · rintro ⟨h0, h1, k, hk, e⟩
    exact ⟨h0, h1, List.mem_map.mpr ⟨k, List.mem_range.mpr hk, e.symm⟩⟩
theorem AllF.sound (A : AllF f s w hour ks par hs) : ∀ h ∈ hs, h s = hour ∧ FireAt par w h := by
  induction A with
  | one => intro h hh; rw [List.mem_singleton.mp hh]; exact ⟨rfl, fun x p e => absurd e (by simp)⟩
  | @grow ks par hs p o A hp ho hf ih =>
    intro h hh
    obtain ⟨h0, h1, k, hk, rfl⟩ := mem_grow.mp hh
    obtain ⟨e0, f0⟩ := ih h0 h1
    have so : s ≠ o := fun z => ho (by rw [← z]; exact A.fd.top.2)
    have po : p ≠ o := fun z => ho (by rw [← z]; exact hp)
    refine ⟨by unfold upd; rw [if_neg so]; exact e0, fun x q e => ?_⟩
    unfold upd
    by_cases c : x = o
    · have e : p = q := by simpa [c] using e
      subst e
      rw [if_pos c, if_neg po]
      omega
    · have e : par x = some q := by simpa [c] using e
      have qo : q ≠ o := fun z => ho (by rw [← z]; exact (A.fd.par_of e).2.1)
      rw [if_neg c, if_neg qo]
      exact f0 x q e
theorem AllF.compl (A : AllF f s w hour ks par hs) : ∀ h0 : Str → Int, h0 s = hour → FireAt par w h0 → ∃ h ∈ hs, ∀ x ∈ ks, h x = h0 x := by
  induction A with
  | one => intro h0 e _; exact ⟨_, List.mem_singleton.mpr rfl, fun x hx => by rw [List.mem_singleton.mp hx, e]⟩
  | @grow ks par hs p o A hp ho hf ih =>
    intro h0 e f0
    obtain ⟨h, h1, h2⟩ := ih h0 e fun x q eq => f0 x q (by
      have : x ≠ o := fun z => ho (by rw [← z]; exact (A.fd.par_of eq).1)
      simp [this, eq])
    have q := f0 o p (by simp)
    refine ⟨upd h o (h p + 1 + ((h0 o - h0 p - 1).toNat : Nat)), mem_grow.mpr ⟨h, h1, _, by omega, rfl⟩, fun x hx => ?_⟩
    unfold upd
    by_cases c : x = o
    · rw [if_pos c, c, h2 p hp]
      omega
    · rw [if_neg c]
      rcases List.mem_append.mp hx with z | z
      · exact h2 x z
      · exact absurd (List.mem_singleton.mp z) c
theorem grow_len {p o : Str} : (growF w p o hs).length = hs.length * (w p).toNat := by
  unfold growF
  induction hs with
  | nil => simp
  | cons h hs ih => rw [List.flatMap_cons, List.length_append, ih, List.length_map, List.length_range, List.length_cons, Nat.succ_mul, Nat.add_comm]
theorem AllF.bound (A : AllF f s w hour ks par hs) {m : Nat} (hw : ∀ r ∈ ks, (w r).toNat ≤ m) : hs.length * m ≤ m ^ ks.length := by
  induction A with
  | one => simp
  | @grow ks par hs p o A hp ho hf ih =>
    have ih := ih fun r hr => hw r (by simp [hr])
    have := hw p (by simp [hp])
    rw [grow_len, List.length_append, List.length_singleton, Nat.pow_succ]
    exact Nat.mul_le_mul_right _ (Nat.le_trans (Nat.mul_le_mul_left _ this) ih)
theorem AllF.ne (A : AllF f s w hour ks par hs) (hw : ∀ r ∈ ks, 1 ≤ w r) : hs ≠ [] := by
  induction A with
  | one => simp
  | @grow ks par hs p o A hp ho hf ih =>
    have ih := ih fun r hr => hw r (by simp [hr])
    have := hw p (by simp [hp])
    intro e
    have e := congrArg List.length e
    rw [grow_len] at e
    have h1 := List.length_pos_iff.mpr ih
    have h2 : 0 < (w p).toNat := by omega
    have := Nat.mul_pos h1 h2
    simp at e
    omega
/-- how many rooms are lit from a room -/
def kids (ks : List Str) (par : Str → Option Str) (r : Str) : Nat := (ks.filter fun x => decide (par x = some r)).length
def prd (g : Str → Nat) : List Str → Nat
  | [] => 1
  | r :: rs => g r * prd g rs
theorem prd_congr {g g' : Str → Nat} : ∀ {rs : List Str}, (∀ r ∈ rs, g r = g' r) → prd g rs = prd g' rs
  | [], _ => rfl
  | r :: rs, h => by
    show g r * prd g rs = g' r * prd g' rs
    rw [h r (by simp), prd_congr fun x hx => h x (by simp [hx])]
theorem prd_upd {g g' : Str → Nat} {p : Str} {c : Nat} : ∀ {rs : List Str}, rs.Nodup → p ∈ rs → g' p = g p * c → (∀ r ∈ rs, r ≠ p → g' r = g r) → prd g' rs = prd g rs * c
  | r :: rs, nd, hp, e, h => by
    have nd := List.nodup_cons.mp nd
    show g' r * prd g' rs = g r * prd g rs * c
    by_cases q : r = p
    · rw [q, e]
      have : prd g' rs = prd g rs := prd_congr fun x hx => h x (by simp [hx]) fun z => nd.1 (by rw [q, ← z]; exact hx)
      rw [this, Nat.mul_assoc, Nat.mul_comm c, Nat.mul_assoc]
    · have hp' : p ∈ rs := by
        rcases List.mem_cons.mp hp with z | z
        · exact absurd z.symm q
        · exact z
      rw [h r (by simp) q, prd_upd nd.2 hp' e fun x hx => h x (by simp [hx]), Nat.mul_assoc]
theorem prd_one {g : Str → Nat} : ∀ {rs : List Str}, (∀ r ∈ rs, g r = 1) → prd g rs = 1
  | [], _ => rfl
  | r :: rs, h => by
    show g r * prd g rs = 1
    rw [h r (by simp), prd_one fun x hx => h x (by simp [hx])]
theorem AllF.count (A : AllF f s w hour ks par hs) {rooms : List Str} (nd : rooms.Nodup) (hk : ∀ r ∈ ks, r ∈ rooms) : hs.length = prd (fun r => (w r).toNat ^ kids ks par r) rooms := by
  induction A with
  | one => rw [prd_one]; rfl; intro r _; simp [kids]
  | @grow ks par hs p o A hp ho hf ih =>
    have ih := ih fun r hr => hk r (by simp [hr])
    have po : p ≠ o := fun z => ho (by rw [← z]; exact hp)
    have key : ∀ r, kids (ks ++ [o]) (fun x => if x = o then some p else par x) r = kids ks par r + if r = p then 1 else 0 := fun r => by
      unfold kids
      rw [List.filter_append, List.length_append]
      congr 1
      · congr 1
        refine List.filter_congr fun x hx => ?_
        have : x ≠ o := fun z => ho (by rw [← z]; exact hx)
        simp [this]
      · by_cases c : r = p
        · simp [c]
        · simp [c, Ne.symm c]
    rw [grow_len, ih]
    symm
    refine prd_upd nd (hk p (by simp [hp])) ?_ fun r hr hn => ?_
    · simp only [key]
      simp [Nat.pow_succ]
    · simp only [key]
      simp [hn]
end
section
variable {rooms : List Str} {doors : List (Str × Str)} {f : Str → List Str} (H : Hs rooms doors f)
include H
theorem Hs.deg {s : Str} {xs : List Str} {par : Str → Option Str} (hs : s ∈ rooms) (h : Fd f s xs par) (hc : ∀ x ∈ xs, ∀ o ∈ f x, o ∈ xs) {r : Str} (hr : r ∈ rooms) : (f r).length = kids xs par r + if r = s then 0 else 1 := by
  have hp := H.full hs h hc
  obtain ⟨rk, r1, r2⟩ := h.rank
  have : (f r).Perm ((xs.filter fun x => decide (par x = some r)) ++ (par r).toList) := by
    refine (List.perm_ext_iff_of_nodup (H.fnd hr) ?_).mpr fun o => ?_
    · rw [List.nodup_append]
      refine ⟨h.nodup.sublist List.filter_sublist, by cases par r <;> simp, fun a ha b hb e => ?_⟩
      subst e
      have h1 := of_decide_eq_true (List.mem_filter.mp ha).2
      have h2 : par r = some a := by simpa using hb
      have := r2 _ _ h1
      have := r2 _ _ h2
      omega
    · rw [List.mem_append, List.mem_filter]
      constructor
      · intro ho
        rcases H.edge hs h hc hr ho with z | z
        · exact .inr (by simp [z])
        · exact .inl ⟨(h.par_of z).1, by simp [z]⟩
      · rintro (⟨_, z⟩ | z)
        · exact (h.par_of (of_decide_eq_true z)).2.2.1
        · have z : par r = some o := by simpa using z
          have := h.par_of z
          exact H.sym (hp.mem_iff.mp this.2.1) this.2.2.1
  rw [this.length_eq, List.length_append]
  unfold kids
  congr 1
  by_cases c : r = s
  · rw [if_pos c, c, h.top.1]; rfl
  · obtain ⟨p, e⟩ := h.has (hp.mem_iff.mpr hr) c
    rw [if_neg c, e]; rfl
end
/-- sums on the way from the first room -/
theorem Fd.sums {f : Str → List Str} {s : Str} {xs : List Str} {par : Str → Option Str} (h : Fd f s xs par) (g : Str → Int) : ∃ S : Str → Int, S s = 0 ∧ ∀ x p, par x = some p → S x = S p + g p := by
  induction h with
  | one => exact ⟨fun _ => 0, rfl, fun x p e => absurd e (by simp)⟩
  | @grow xs par q o h hp ho hf ih =>
    obtain ⟨S, h1, h2⟩ := ih
    have so : s ≠ o := fun z => ho (by rw [← z]; exact h.top.2)
    refine ⟨fun r => if r = o then S q + g q else S r, ?_, fun x p e => ?_⟩
    · simp [so, h1]
    · by_cases c : x = o
      · have e : q = p := by simpa [c] using e
        subst e
        have : q ≠ o := fun z => ho (z ▸ hp)
        simp [c, this]
      · have e : par x = some p := by simpa [c] using e
        have := (h.par_of e).2.1
        have : p ≠ o := fun z => ho (z ▸ this)
        simp only [c, this, if_false]
        exact h2 x p e
theorem Fd.ind {f : Str → List Str} {s : Str} {xs : List Str} {par : Str → Option Str} (h : Fd f s xs par) {P : Str → Prop} (h0 : P s) (h1 : ∀ x p, par x = some p → P p → P x) : ∀ x ∈ xs, P x := by
  induction h with
  | one => intro x hx; rw [List.mem_singleton.mp hx]; exact h0
  | @grow xs par p o h hp ho hf ih =>
    have ih := ih fun x q e => by
      have : x ≠ o := fun z => ho (z ▸ (h.par_of e).1)
      exact h1 x q (by simp [this, e])
    intro x hx
    rcases List.mem_append.mp hx with z | z
    · exact ih x z
    · rw [List.mem_singleton.mp z]
      exact h1 o p (by simp) (ih p hp)
/-- the hours of a room: all between the least and the most -/
theorem AllF.hours {f : Str → List Str} {s : Str} {w : Str → Int} {hour : Int} {ks : List Str} {par : Str → Option Str} {hs : List (Str → Int)} (A : AllF f s w hour ks par hs) (hw : ∀ r ∈ ks, 1 ≤ w r) {L U : Str → Int}
    (l0 : L s = 0) (l1 : ∀ x p, par x = some p → L x = L p + 1) (u0 : U s = 0) (u1 : ∀ x p, par x = some p → U x = U p + w p) {r : Str} (hr : r ∈ ks) (v : Int) : (∃ h ∈ hs, h r - h s = v) ↔ L r ≤ v ∧ v ≤ U r := by
  constructor
  · rintro ⟨h, hh, rfl⟩
    obtain ⟨e, hf⟩ := A.sound h hh
    refine A.fd.ind (P := fun r => L r ≤ h r - h s ∧ h r - h s ≤ U r) (by omega) (fun x p e ih => ?_) r hr
    have := hf x p e
    have := l1 x p e
    have := u1 x p e
    omega
  · intro ⟨hl, hu⟩
    have mono : ∀ x p, par x = some p → U p - L p ≤ U x - L x := fun x p e => by
      have := l1 x p e
      have := u1 x p e
      have := hw p (A.fd.par_of e).2.1
      omega
    have pos : ∀ x ∈ ks, 0 ≤ U x - L x := A.fd.ind (by omega) fun x p e ih => by have := mono x p e; omega
    obtain ⟨h, hh, he⟩ := A.compl (fun x => hour + L x + min (U x - L x) (v - L r)) (by show hour + L s + min (U s - L s) (v - L r) = hour; rw [l0, u0]; omega) fun x p e => by
      have a1 := l1 x p e
      have a2 := u1 x p e
      have a3 := hw p (A.fd.par_of e).2.1
      show 1 ≤ hour + L x + min (U x - L x) (v - L r) - (hour + L p + min (U p - L p) (v - L r)) ∧ hour + L x + min (U x - L x) (v - L r) - (hour + L p + min (U p - L p) (v - L r)) ≤ w p
      omega
    refine ⟨h, hh, ?_⟩
    rw [he r hr, he s A.fd.top.2, l0, u0]
    omega
section
variable {rooms : List Str} {doors : List (Str × Str)} {f : Str → List Str} (H : Hs rooms doors f)
include H
/-- the way up in the tree of the one end is the way down in that of the other -/
theorem Hs.way {s t : Str} {xs xs' : List Str} {par par' : Str → Option Str} (hs : s ∈ rooms) (ht : t ∈ rooms) (h : Fd f s xs par) (hc : ∀ x ∈ xs, ∀ o ∈ f x, o ∈ xs) (h' : Fd f t xs' par') (hc' : ∀ x ∈ xs', ∀ o ∈ f x, o ∈ xs') {S g : Str → Int} (s0 : S s = 0) (s1 : ∀ x p, par x = some p → S x = S p + g p)
    {l : List Str} (hw : Wy par' s l) : ∀ w x, l = w ++ [x] → (x ∈ rooms ∧ ∀ y ∈ w, y ∈ rooms) ∧ (x = s ∨ ∃ y, par' y = some x ∧ par x = some y) ∧ S x = (w.map g).sum ∧ w.length < 1 + xs'.length := by
  have hp := H.full hs h hc
  have hp' := H.full ht h' hc'
  obtain ⟨rk, r1, r2⟩ := h'.rank
  have main : ∀ w x, l = w ++ [x] → (x ∈ rooms ∧ ∀ y ∈ w, y ∈ rooms) ∧ (x = s ∨ ∃ y, par' y = some x ∧ par x = some y) ∧ S x = (w.map g).sum ∧ w.length + rk x ≤ rk s := by
    induction hw with
    | base =>
      intro w x e
      have e' : [] ++ [s] = w ++ [x] := e
      obtain ⟨e1, e2⟩ := List.append_inj' e' rfl
      cases e2
      subst e1
      exact ⟨⟨hs, by simp⟩, .inl rfl, by simp [s0], by simp⟩
    | @step w0 x p hw hpx ih =>
      intro w y e
      obtain ⟨e1, e2⟩ := List.append_inj' e rfl
      cases e2
      subst e1
      obtain ⟨⟨hx, hall⟩, hor, hsum, hlen⟩ := ih w0 x rfl
      obtain ⟨q1, q2, q3, q4⟩ := h'.par_of hpx
      have hpr := hp'.mem_iff.mp q2
      have hrk := r2 x p hpx
      have hpar : par p = some x := by
        rcases H.edge hs h hc hpr q3 with z | z
        · exact z
        · exfalso
          rcases hor with c | ⟨y, y1, y2⟩
          · exact (h.par_of z).2.2.2 c
          · rw [z] at y2
            cases y2
            have := r2 p x y1
            omega
      refine ⟨⟨hpr, fun y hy => ?_⟩, .inr ⟨x, hpx, hpar⟩, ?_, ?_⟩
      · rcases List.mem_append.mp hy with z | z
        · exact hall y z
        · rw [List.mem_singleton.mp z]; exact hx
      · rw [s1 p x hpar, hsum, List.map_append, List.sum_append]
        simp
      · rw [List.length_append, List.length_singleton]
        omega
  intro w x e
  obtain ⟨a, b, c, d⟩ := main w x e
  have := r1 s (hp'.mem_iff.mpr hs)
  exact ⟨a, b, c, by omega⟩
theorem Hs.end_way {t : Str} {xs' : List Str} {par' : Str → Option Str} (h' : Fd f t xs' par') {s : Str} (hs : s ∈ xs') {w : List Str} {x : Str} (hw : Wy par' s (w ++ [x])) (hx : par' x = none) (hin : x ∈ xs') : x = t := by
  refine Classical.byContradiction fun ne => ?_
  obtain ⟨p, e⟩ := h'.has hin ne
  rw [hx] at e
  cases e
end
end K06

/-! J4a: any objects told apart from woods, hours. -/
namespace K06
open PySem PySem.Spec PyProof.Rows L2 DL

@[simp↓] theorem xRaise {C : Addr} {fs : List Str} {tl : TDs} {R : RX} {A : DE} {ρ : DSt} : dRaise C fs tl R A ρ = tl ρ fun ds ρ1 => ds.length = fs.length ∧ R ⟨C, (fs.zip ds).reverse⟩ ρ1 := rfl
def okV : D → Bool
  | .tag _ _ => false
  | d => (tyD d).isSome
def okT : D → Bool
  | .dic kvs => decide (kvs.length < 1000) && kvs.all fun kv => okV kv.2
  | d => okV d
def intB : D → Bool
  | .int _ => true
  | _ => false
def posB : D → Bool
  | .int i => decide (0 < i)
  | _ => false
def atB (p : D → Bool) (kvs : List (Key × D)) (r : Str) : Bool := match valD kvs (.inr r) with
  | some d => p d
  | none => false
def chkB (p : D → Bool) (rooms : List Str) : D → Bool
  | .dic kvs => decide (kvs.length = rooms.length) && rooms.all (atB p kvs)
  | _ => false
theorem valD_ok {p : D → Bool} {kvs : List (Key × D)} {k : Key} {d : D} (h : kvs.all (fun kv => p kv.2) = true) (e : valD kvs k = some d) : p d = true := by
  unfold valD at e
  obtain ⟨kv, h1, h2⟩ := Option.map_eq_some_iff.mp e
  rw [← h2]
  exact List.all_eq_true.mp h kv (List.mem_of_find?_eq_some h1)
def sp_int : SpD := fun args ret exc => ∃ d : D, args = [(0, d)] ∧ okV d = true ∧ ret (0, .bl (intB d)) N0
theorem mono_int : MonoSp sp_int := fun args ret ret' exc exc' k _ ⟨d, e, h0, h⟩ => ⟨d, e, h0, k _ _ h⟩
theorem plain_int {args : List Sl} {ret : Sl → Sl → Prop} {exc : Exc → Prop} (h : sp_int args ret exc) : t_is_integer (fnE none ret) (start0 1 args) := by
  obtain ⟨d, rfl, hd, h⟩ := h
  cases d <;> first
    | (simp [okV, tyD] at hd; done)
    | (simp [t_is_integer, start0, tyD, isTy, tysB]; simpa [fnE, outS, intB] using h)
def sp_isw (C : Addr) : SpD := fun args ret exc => ∃ (rooms : List Str) (f : Str → List Str) (d : D), args = [(0, houseD C rooms f), (0, d)] ∧ rooms.length < 1000 ∧ okT d = true ∧ ret (0, .bl (chkB posB rooms d)) N0
theorem mono_isw {C : Addr} : MonoSp (sp_isw C) := fun args ret ret' exc exc' k _ ⟨a, b, c, e, h0, h1, h⟩ => ⟨a, b, c, e, h0, h1, k _ _ h⟩
theorem plain_isw {C : Addr} {args : List Sl} {ret : Sl → Sl → Prop} {exc : Exc → Prop} (h : sp_isw C args ret exc) : t_is_woods C (sp_len C) sp_int (fnE none ret) (start0 3 args) := by
  obtain ⟨rooms, f, d, rfl, hl, hd, h⟩ := h
  have hz : rooms.length ≤ sizeLine := by rw [sizeLine_eq]; omega
  cases d with
  | dic kvs =>
    have hd : (decide (kvs.length < 1000) && kvs.all (fun kv => okV kv.2)) = true := hd
    rw [Bool.and_eq_true] at hd
    obtain ⟨_, hv⟩ := hd
    simp [t_is_woods, start0, tyD, isTy, tysB, houseD, dLenO]
    refine ⟨_, rooms.map D.str, rfl, look_rooms, rooms.length, by simp, by omega, ?_⟩
    by_cases c : kvs.length = rooms.length
    · simp [c]
      refine ⟨_, look_rooms, ?_⟩
      simp [sL, hz]
      refine lc_map (f := fun d => .bl (pS (atB posB kvs) d)) (fun d hd K1 K0 hk => ?_) ?_
      · obtain ⟨r, hr, rfl⟩ := List.mem_map.mp hd
        cases q : valD kvs (.inr r) with
        | none =>
          simp [q]
          have e : pS (atB posB kvs) (D.str r) = false := by simp [pS, atB, q]
          rw [e] at hk
          exact hk
        | some dv =>
          have ok := valD_ok hv q
          have e : pS (atB posB kvs) (D.str r) = posB dv := by simp [pS, atB, q]
          rw [e] at hk
          simp [q]
          refine ⟨dv, rfl, ok, ?_⟩
          cases dv <;> first
            | (simp [okV, tyD] at ok; done)
            | (simp [intB]; exact hk)
            | (simp [intB, q]; exact hk)
      · rw [List.nil_append]
        refine all_of ?_
        have e : chkB posB rooms (.dic kvs) = rooms.all (atB posB kvs) := by simp [chkB, c]
        rw [e] at h
        exact h
    · have e : chkB posB rooms (.dic kvs) = false := by simp [chkB, c]
      rw [e] at h
      have c' : ¬ ((kvs.length : Int) = (rooms.length : Int)) := by omega
      simp [c, c']
      exact h
  | _ => first
    | (simp [okT, okV, tyD] at hd; done)
    | (simp [t_is_woods, start0, tyD, isTy, tysB]
       simpa [fnE, outS, chkB] using h)
def sp_hh (C : Addr) : SpD := fun args ret exc => ∃ (rooms : List Str) (f : Str → List Str) (d : D), args = [(0, houseD C rooms f), (0, d)] ∧ rooms.length < 1000 ∧ okT d = true ∧ ret (0, .bl (chkB intB rooms d)) N0
theorem mono_hh {C : Addr} : MonoSp (sp_hh C) := fun args ret ret' exc exc' k _ ⟨a, b, c, e, h0, h1, h⟩ => ⟨a, b, c, e, h0, h1, k _ _ h⟩
theorem ok_dicF {rooms : List Str} {g : Str → D} (hl : rooms.length < 1000) (h : ∀ r ∈ rooms, okV (g r) = true) : okT (.dic (dicF rooms g)) = true := by
  show (decide ((dicF rooms g).length < 1000) && (dicF rooms g).all fun kv => okV kv.2) = true
  rw [dicF_len, decide_eq_true hl, Bool.true_and, List.all_eq_true]
  intro kv hkv
  obtain ⟨r, hr, rfl⟩ := List.mem_map.mp hkv
  exact h r hr
theorem chk_dicF {p : D → Bool} {rooms rooms' : List Str} {g : Str → D} (hp : rooms'.Perm rooms) (h : ∀ r ∈ rooms, p (g r) = true) : chkB p rooms (.dic (dicF rooms' g)) = true := by
  show (decide ((dicF rooms' g).length = rooms.length) && rooms.all (atB p (dicF rooms' g))) = true
  rw [dicF_len, decide_eq_true hp.length_eq, Bool.true_and, List.all_eq_true]
  intro r hr
  unfold atB
  rw [dicF_val (hp.mem_iff.mpr hr)]
  exact h r hr
/-- the errors' thing -/
def thing (C : Addr) (d : D) : Exc := ⟨C, [("thing", d)]⟩
def sp_cw (C CW : Addr) : SpD := fun args ret exc => ∃ (rooms : List Str) (f : Str → List Str) (d : D), args = [(0, houseD C rooms f), (0, d)] ∧ rooms.Nodup ∧ rooms.length < 1000 ∧
  ((okT d = true ∧ chkB posB rooms d = false ∧ exc (thing CW d)) ∨ ∃ (rooms' : List Str) (w : Str → Int), d = woodD rooms' w ∧ rooms'.Perm rooms ∧ (∀ r ∈ rooms, 0 < w r) ∧ ret (1, woodD rooms w) N0)
theorem mono_cw {C CW : Addr} : MonoSp (sp_cw C CW) := fun args ret ret' exc exc' k k2 ⟨a, b, c, e, h0, h1, h⟩ => ⟨a, b, c, e, h0, h1, h.elim (fun ⟨x, y, z⟩ => .inl ⟨x, y, k2 _ z⟩) fun ⟨x, y, z1, z2, z3, z4⟩ => .inr ⟨x, y, z1, z2, z3, k _ _ z4⟩⟩
theorem plain_cw {C CW : Addr} {args : List Sl} {ret : Sl → Sl → Prop} {exc : Exc → Prop} (h : sp_cw C CW args ret exc) : t_checked_woods C CW (sp_isw C) (fun x _ => exc x) (fnE none ret) (start0 3 args) := by
  obtain ⟨rooms, f, d, rfl, hn, hl, h⟩ := h
  have hz : rooms.length ≤ sizeLine := by rw [sizeLine_eq]; omega
  simp [t_checked_woods, start0]
  rcases h with ⟨h1, h2, h3⟩ | ⟨rooms', w, rfl, hp, hw, h⟩
  · refine ⟨rooms, f, d, rfl, hl, h1, ?_⟩
    rw [h2]
    simp
    exact h3
  · have hl' := hp.length_eq
    refine ⟨rooms, f, _, rfl, hl, ok_dicF (by omega) fun _ _ => rfl, ?_⟩
    have e : chkB posB rooms (woodD rooms' w) = true := chk_dicF hp fun r hr => by simp [posB, hw r hr]
    rw [e]
    simp [houseD]
    refine ⟨_, look_rooms, ?_⟩
    simp [sL, hz]
    refine dc_rooms (V := fun r d => d = .int (w r)) hn (fun r hr G acc hac hG => ?_) (fun g hg => ?_) rooms [] (fun r => .non) rfl (fun r hr => absurd hr (by simp))
    · have v := dicF_val (f := fun r => D.int (w r)) (hp.mem_iff.mpr hr)
      simp [woodD, v]
      exact hG _ rfl
    · rw [dicF_congr fun r hr => hg r hr]
      exact h
def NbOk (rooms : List Str) (f : Str → List Str) : Prop := ∀ r ∈ rooms, (∀ o ∈ f r, o ∈ rooms) ∧ (f r).length < 1000
end K06

/-! J4b: _law_same of a thing and itself. -/
namespace K06
open PySem PySem.Spec PyProof.Rows L2 DL

@[simp↓] theorem xIsiT4 {d : D} {b c e f : String} {k : Sl → Prop} : wIsiT [d, .tup [.opq (.ty b), .opq (.ty c), .opq (.ty e), .opq (.ty f)]] k = match tyD d with
    | some a => b ∈ tysB ∧ c ∈ tysB ∧ e ∈ tysB ∧ f ∈ tysB ∧ k (0, .bl (isTy a b || isTy a c || isTy a e || isTy a f))
    | none => False := by
  apply propext
  constructor
  · intro ⟨d', bs, a, h, h1, h2, q⟩
    simp only [List.cons.injEq, D.tup.injEq, and_true] at h
    obtain ⟨e1, e2⟩ := h
    subst e1
    obtain ⟨b', r, rfl, hb, hr⟩ := List.map_eq_cons_iff.mp e2.symm
    obtain ⟨c', r', rfl, hc, hr'⟩ := List.map_eq_cons_iff.mp hr
    obtain ⟨g', r2, rfl, hg, hr2⟩ := List.map_eq_cons_iff.mp hr'
    obtain ⟨i', r3, rfl, hi, hr3⟩ := List.map_eq_cons_iff.mp hr2
    have er := List.map_eq_nil_iff.mp hr3
    subst er
    cases hb
    cases hc
    cases hg
    cases hi
    rw [h2]
    exact ⟨h1 b (by simp), h1 c (by simp), h1 e (by simp), h1 f (by simp), by simpa [Bool.or_assoc] using q⟩
  · intro q
    cases h : tyD d with
    | some a => rw [h] at q; exact ⟨d, [b, c, e, f], a, rfl, fun x hx => by
        simp at hx
        rcases hx with z | z | z | z
        · rw [z]; exact q.1
        · rw [z]; exact q.2.1
        · rw [z]; exact q.2.2.1
        · rw [z]; exact q.2.2.2.1, h, by simpa [Bool.or_assoc] using q.2.2.2.2⟩
    | none => rw [h] at q; exact q.elim
/-- what is gone through with so many calls within one another -/
def cov : Nat → D → Bool
  | 0, _ => false
  | k + 1, .lst xs => decide (xs.length < 100000) && xs.all (cov k)
  | k + 1, .tup xs => decide (xs.length < 100000) && xs.all (cov k)
  | k + 1, .dic kvs => cov k (.lst (pairsD kvs))
  | _ + 1, .non => true
  | _ + 1, .bl _ => true
  | _ + 1, .int _ => true
  | _ + 1, .str _ => true
  | _ + 1, _ => false
def sp_same (k : Nat) : SpD := fun args ret exc => ∃ d : D, args = [(0, d), (0, d)] ∧ cov k d = true ∧ ret (0, .bl true) N0
theorem mono_same {k : Nat} : MonoSp (sp_same k) := fun args ret ret' exc exc' kk _ ⟨d, e, h0, h⟩ => ⟨d, e, h0, kk _ _ h⟩
theorem zip_self {xs : List D} {d : D} (h : d ∈ zipD xs xs) : ∃ x ∈ xs, d = .tup [x, x] := by
  unfold zipD at h
  obtain ⟨p, hp, rfl⟩ := List.mem_map.mp h
  obtain ⟨i, hi, e⟩ := List.mem_iff_getElem.mp hp
  rw [List.getElem_zip] at e
  rw [← e]
  exact ⟨_, List.getElem_mem _, rfl⟩
theorem zip_len {xs : List D} : (zipD xs xs).length = xs.length := by simp [zipD]
theorem trues {K : Sl → Prop} {ds : List D} (h : K (0, .bl true)) : wAllAny (fun bs => bs.all id) [.lst (ds.map fun _ => .bl true)] K := by
  have e : ds.map (fun _ => D.bl true) = List.replicate ds.length (.bl true) := List.eq_replicate_iff.mpr ⟨by simp, fun d hd => by obtain ⟨_, _, e⟩ := List.mem_map.mp hd; exact e.symm⟩
  rw [e]
  exact all_true h
theorem same_list {k : Nat} {spx : SpD} (hx : ∀ args ret exc, sp_same k args ret exc → spx args ret exc) {xs : List D} {K : List D → DSt → Prop} {ρ : DSt} {s0 s1 : Option Sl} (hρ : ρ = [s0, s1, none, none]) (hc : xs.all (cov k) = true)
    (h : K ((zipD xs xs).map fun _ => .bl true) ρ) : dLcL [2, 3] (dTup 2 (gCons (gN 2) (gCons (gN 3) gNil))) dYes (dCall spx (dCons (dVar 2) (dCons (dVar 3) dNil)) R0) K (zipD xs xs) [] ρ := by
  subst hρ
  refine lc_map (f := fun _ => .bl true) (fun d hd K1 K0 hk => ?_) (by rw [List.nil_append]; exact h)
  obtain ⟨x, hx', rfl⟩ := zip_self hd
  simp
  exact hx _ _ _ ⟨x, rfl, List.all_eq_true.mp hc x hx', hk⟩
theorem plain_same {k : Nat} {spx : SpD} (hx : ∀ args ret exc, sp_same k args ret exc → spx args ret exc) {args : List Sl} {ret : Sl → Sl → Prop} {exc : Exc → Prop} (h : sp_same (k + 1) args ret exc) : t__law_same spx (fnE none ret) (start0 4 args) := by
  obtain ⟨d, rfl, hc, h⟩ := h
  have o4 : 4 ≤ sizeLine := by rw [sizeLine_eq]; omega
  have o2 : 2 ≤ sizeLine := by omega
  cases d with
  | lst xs =>
    have hc : (decide (xs.length < 100000) && xs.all (cov k)) = true := hc
    rw [Bool.and_eq_true] at hc
    have hl : (zipD xs xs).length ≤ sizeLine := by rw [zip_len, sizeLine_eq]; have := of_decide_eq_true hc.1; omega
    simp [t__law_same, start0, o2, o4, tyD, isTy, tysB, dZipA]
    refine ⟨xs, xs, ⟨rfl, rfl⟩, hl, same_list hx rfl hc.2 (trues ?_)⟩
    simpa [fnE, outS] using h
  | tup xs =>
    have hc : (decide (xs.length < 100000) && xs.all (cov k)) = true := hc
    rw [Bool.and_eq_true] at hc
    have hl : (zipD xs xs).length ≤ sizeLine := by rw [zip_len, sizeLine_eq]; have := of_decide_eq_true hc.1; omega
    simp [t__law_same, start0, o2, o4, tyD, isTy, tysB, dZipA]
    refine ⟨xs, xs, ⟨rfl, rfl⟩, hl, same_list hx rfl hc.2 (trues ?_)⟩
    simpa [fnE, outS] using h
  | dic kvs =>
    simp [t__law_same, start0, o2, o4, tyD, isTy, tysB, dItemsL]
    exact hx _ _ _ ⟨_, rfl, hc, by simpa [fnE, outS] using h⟩
  | non =>
    simp [t__law_same, start0, o2, o4, tyD, isTy, tysB, wEqB, scalD, eqSc]
    simpa [fnE, outS] using h
  | bl b =>
    simp [t__law_same, start0, o2, o4, tyD, isTy, tysB]
    simpa [fnE, outS] using h
  | int b =>
    simp [t__law_same, start0, o2, o4, tyD, isTy, tysB]
    simpa [fnE, outS] using h
  | str b =>
    simp [t__law_same, start0, o2, o4, tyD, isTy, tysB]
    simpa [fnE, outS] using h
  | ins _ _ => cases hc
  | spr _ => cases hc
  | scr _ _ => cases hc
  | opq _ => cases hc
  | tag _ _ => cases hc
end K06

/-! J4d: the first room, dicts turned, from where each room was lit. -/
namespace K06
open PySem PySem.Spec PyProof.Rows L2 DL

theorem pairs_dicF {rooms : List Str} {g : Str → D} : pairsD (dicF rooms g) = rooms.map fun r => .tup [.str r, g r] := by
  unfold pairsD dicF
  rw [List.map_map]
  rfl
def sp_turned : SpD := fun args ret exc => ∃ (n : Nat) (rooms : List Str) (g : Str → D), args = [(1, .spr n), (0, .dic (dicF rooms g))] ∧ rooms.Nodup ∧ rooms.length ≤ n ∧ rooms.length < 1000 ∧
  ∀ ys : List Str, ys.Perm rooms → ret (1, .dic (dicF ys g)) (1, .spr (n - rooms.length))
theorem mono_turned : MonoSp sp_turned := fun args ret ret' exc exc' k _ ⟨a, b, c, e, h0, h1, h2, h⟩ => ⟨a, b, c, e, h0, h1, h2, fun ys q => k _ _ (h ys q)⟩
theorem plain_turned {args : List Sl} {ret : Sl → Sl → Prop} {exc : Exc → Prop} (h : sp_turned args ret exc) : t__law_h_turned sp_mixed (fnE (some 0) ret) (start0 2 args) := by
  obtain ⟨n, rooms, g, rfl, nd, hn, hl, h⟩ := h
  simp [t__law_h_turned, start0, dItemsL]
  refine ⟨n, pairsD (dicF rooms g), rfl, by simp [pairs_dicF]; omega, by simp [pairs_dicF]; omega, fun zs hz => ?_⟩
  rw [pairs_dicF] at hz
  obtain ⟨ys, hy, rfl⟩ := perm_map hz rfl
  simp
  rw [← pairs_dicF]
  refine xDictP ?_
  have e1 := merge_new ys [] g (by simpa using hy.nodup_iff.mpr nd)
  have e00 : (dicF [] g) = [] := rfl
  rw [e00, List.nil_append] at e1
  rw [e1]
  have := h ys hy
  simp only [fnE, outS]
  exact ⟨_, rfl, by simpa [pairs_dicF] using this⟩
end K06

/-! L3a: rooms and woods of any objects; spread. -/
namespace K06
open PySem PySem.Spec PyProof.Rows L2 DL

def NoRm (rooms : List Str) (d : D) : Prop := (∃ a, tyD d = some a ∧ a ≠ "str") ∨ ∃ s, d = .str s ∧ s ∉ rooms
def sp_room (C CN : Addr) : SpD := fun args ret exc => ∃ (rooms : List Str) (f : Str → List Str) (d : D), args = [(0, houseD C rooms f), (0, d)] ∧ ((∃ s, d = .str s ∧ s ∈ rooms ∧ ret (0, .str s) N0) ∨ (NoRm rooms d ∧ exc (thing CN d)))
theorem mono_room {C CN : Addr} : MonoSp (sp_room C CN) := fun args ret ret' exc exc' k k2 ⟨a, b, c, e, h⟩ => ⟨a, b, c, e, h.elim (fun ⟨s, h1, h2, h3⟩ => .inl ⟨s, h1, h2, k _ _ h3⟩) fun ⟨h1, h2⟩ => .inr ⟨h1, k2 _ h2⟩⟩
theorem plain_room {C CN : Addr} {args : List Sl} {ret : Sl → Sl → Prop} {exc : Exc → Prop} (h : sp_room C CN args ret exc) : t_checked_room C CN (fun x _ => exc x) (fnE none ret) (start0 2 args) := by
  obtain ⟨rooms, f, d, rfl, h⟩ := h
  rcases h with ⟨s, rfl, hs, h⟩ | ⟨⟨a, ha, hn⟩ | ⟨s, rfl, hs⟩, h⟩
  · have v := dicF_val (f := fun r => sL (f r)) hs
    simp [t_checked_room, start0, tyD, isTy, tysB, houseD]
    refine ⟨_, look_beside, ?_⟩
    simp [show wNotIn = wInB true from rfl, v]
    exact h
  · simp [t_checked_room, start0, ha, isTy, tysB, hn]
    exact h
  · have v := dicF_none (f := fun r => sL (f r)) hs
    simp [t_checked_room, start0, tyD, isTy, tysB, houseD]
    refine ⟨_, look_beside, ?_⟩
    simp [show wNotIn = wInB true from rfl, v]
    exact h
def NoW (rooms : List Str) (d : D) : Prop := ∃ d0, (d0 = d ∨ ∃ w, d = .tag w d0) ∧ okT d0 = true ∧ chkB posB rooms d0 = false
def sp_cwT (C CW : Addr) : SpD := fun args ret exc => ∃ (rooms : List Str) (f : Str → List Str) (d : D), args = [(0, houseD C rooms f), (0, d)] ∧ rooms.Nodup ∧ rooms.length < 1000 ∧
  ((NoW rooms d ∧ exc (thing CW d)) ∨ ∃ (rooms' : List Str) (w : Str → Int), d = woodD rooms' w ∧ rooms'.Perm rooms ∧ (∀ r ∈ rooms, 0 < w r) ∧ ret (1, woodD rooms w) N0)
theorem mono_cwT {C CW : Addr} : MonoSp (sp_cwT C CW) := fun args ret ret' exc exc' k k2 ⟨a, b, c, e, h0, h1, h⟩ => ⟨a, b, c, e, h0, h1, h.elim (fun ⟨x, z⟩ => .inl ⟨x, k2 _ z⟩) fun ⟨x, y, z1, z2, z3, z4⟩ => .inr ⟨x, y, z1, z2, z3, k _ _ z4⟩⟩
theorem plain_cwT {C CW : Addr} {args : List Sl} {ret : Sl → Sl → Prop} {exc : Exc → Prop} (h : sp_cwT C CW args ret exc) : t_checked_woods C CW (spT (sp_isw C)) (fun x _ => exc x) (fnE none ret) (start0 3 args) := by
  obtain ⟨rooms, f, d, rfl, hn, hl, h⟩ := h
  have hz : rooms.length ≤ sizeLine := by rw [sizeLine_eq]; omega
  simp [t_checked_woods, start0]
  rcases h with ⟨⟨d0, hd, h1, h2⟩, h3⟩ | ⟨rooms', w, rfl, hp, hw, h⟩
  · refine ⟨[(0, houseD C rooms f), (0, d0)], ⟨_, _, rfl, .inl rfl, _, _, rfl, ?_, rfl⟩, rooms, f, d0, rfl, hl, h1, ?_⟩
    · rcases hd with rfl | ⟨w, rfl⟩
      · exact .inl rfl
      · exact .inr ⟨w, d0, rfl, rfl⟩
    · rw [h2]
      simp
      exact h3
  · have hl' := hp.length_eq
    refine ⟨_, UntL.refl _, rooms, f, _, rfl, hl, ok_dicF (by omega) fun _ _ => rfl, ?_⟩
    have e : chkB posB rooms (woodD rooms' w) = true := chk_dicF hp fun r hr => by simp [posB, hw r hr]
    rw [e]
    simp [houseD]
    refine ⟨_, look_rooms, ?_⟩
    simp [sL, hz]
    refine dc_rooms (V := fun r d => d = .int (w r)) hn (fun r hr G acc hac hG => ?_) (fun g hg => ?_) rooms [] (fun r => .non) rfl (fun r hr => absurd hr (by simp))
    · have v := dicF_val (f := fun r => D.int (w r)) (hp.mem_iff.mpr hr)
      simp [woodD, v]
      exact hG _ rfl
    · rw [dicF_congr fun r hr => hg r hr]
      exact h
def sp_spr (C CW CN : Addr) : SpD := fun args ret exc => ∃ (rooms : List Str) (f : Str → List Str) (dw d1 d2 : D), args = [(0, houseD C rooms f), (0, dw), (0, d1), (0, d2)] ∧ rooms.Nodup ∧ rooms.length < 1000 ∧ NbOk rooms f ∧
  ((NoW rooms dw ∧ exc (thing CW dw)) ∨ ∃ (rooms1 : List Str) (wd : Str → Int), dw = woodD rooms1 wd ∧ rooms1.Perm rooms ∧ (∀ r ∈ rooms, 0 < wd r) ∧
    ((NoRm rooms d1 ∧ exc (thing CN d1)) ∨ ∃ one, d1 = .str one ∧ one ∈ rooms ∧
      ((NoRm rooms d2 ∧ exc (thing CN d2)) ∨ ∃ s, d2 = .str s ∧ s ∈ rooms ∧
        ∀ xs par, Fd f s xs par → (∀ x ∈ xs, ∀ o ∈ f x, o ∈ xs) → one ∈ xs ∧ ∀ w x, Wy par one (w ++ [x]) → par x = none → w.length < 1000 ∧ (∀ y ∈ w, y ∈ rooms) ∧ ret (0, .tup [.int w.length, .int (w.map wd).sum]) N0)))
theorem mono_spr {C CW CN : Addr} : MonoSp (sp_spr C CW CN) := fun args ret ret' exc exc' k k2 ⟨a, b, c, d, e, e0, h0, h1, h2, h⟩ => ⟨a, b, c, d, e, e0, h0, h1, h2, h.elim (fun q => .inl ⟨q.1, k2 _ q.2⟩) fun ⟨x, y, z1, z2, z3, z⟩ => .inr ⟨x, y, z1, z2, z3, z.elim (fun q => .inl ⟨q.1, k2 _ q.2⟩) fun ⟨o, y1, y2, z⟩ => .inr ⟨o, y1, y2, z.elim (fun q => .inl ⟨q.1, k2 _ q.2⟩) fun ⟨s, u1, u2, z⟩ => .inr ⟨s, u1, u2, fun xs par i j => ⟨(z xs par i j).1, fun w x i2 j2 => ⟨((z xs par i j).2 w x i2 j2).1, ((z xs par i j).2 w x i2 j2).2.1, k _ _ ((z xs par i j).2 w x i2 j2).2.2⟩⟩⟩⟩⟩⟩
theorem plain_spr {C CW CN : Addr} {args : List Sl} {ret : Sl → Sl → Prop} {exc : Exc → Prop} (h : sp_spr C CW CN args ret exc) : t_spread (sp_cwT C CW) (sp_room C CN) (sp_spread_of C) (fun x _ => exc x) (fnE none ret) (start0 7 args) := by
  obtain ⟨rooms, f, dw, d1, d2, rfl, nd, hl, hf, h⟩ := h
  simp [t_spread, start0]
  refine ⟨rooms, f, dw, rfl, nd, hl, ?_⟩
  rcases h with h | ⟨rooms1, wd, e, p1, hw, h⟩
  · exact .inl h
  · refine .inr ⟨rooms1, wd, e, p1, hw, ?_⟩
    simp
    refine ⟨rooms, f, d1, rfl, ?_⟩
    rcases h with h | ⟨one, e1, h1, h⟩
    · exact .inr h
    · refine .inl ⟨one, e1, h1, ?_⟩
      simp
      refine ⟨rooms, f, d2, rfl, ?_⟩
      rcases h with h | ⟨s, e2, hs, h⟩
      · exact .inr h
      · refine .inl ⟨s, e2, hs, ?_⟩
        simp
        refine ⟨rooms, rooms, f, wd, one, s, rfl, List.Perm.refl _, hs, hl, hf, fun xs par hd hc => ⟨(h xs par hd hc).1, fun w x hy hp => ?_⟩⟩
        obtain ⟨q1, q2, q3⟩ := (h xs par hd hc).2 w x hy hp
        refine ⟨q1, q2, ?_⟩
        simp only [fnE, outS]
        exact q3
end K06

/-! L3b: ways without a repeat in a tree are the ways up. -/
namespace K06
open PySem PySem.Spec PyProof.Rows L2 DL

/-- going on from one, never back to a room -/
inductive Row (f : Str → List Str) (one : Str) : List Str → Prop
  | base : Row f one [one]
  | step {w : List Str} {x o : Str} : Row f one (w ++ [x]) → o ∈ f x → o ∉ w ++ [x] → Row f one ((w ++ [x]) ++ [o])
theorem Wy.ne {par : Str → Option Str} {one : Str} {l : List Str} (h : Wy par one l) : l ≠ [] := by
  cases h <;> simp
theorem Row.ne {f : Str → List Str} {one : Str} {l : List Str} (h : Row f one l) : l ≠ [] := by
  cases h <;> simp
theorem Row.nodup {f : Str → List Str} {one : Str} {l : List Str} (h : Row f one l) : l.Nodup := by
  induction h with
  | base => simp
  | step h hf hn ih =>
    rw [List.nodup_append]
    refine ⟨ih, by simp, fun a ha b hb e => ?_⟩
    rw [List.mem_singleton.mp hb] at e
    exact hn (e ▸ ha)
theorem Row.sub {f : Str → List Str} {one : Str} {rooms l : List Str} (h1 : one ∈ rooms) (hf : ∀ r ∈ rooms, ∀ o ∈ f r, o ∈ rooms) (h : Row f one l) : ∀ x ∈ l, x ∈ rooms := by
  induction h with
  | base => simp [h1]
  | @step w x o h ho hn ih =>
    intro y hy
    rcases List.mem_append.mp hy with z | z
    · exact ih y z
    · rw [List.mem_singleton.mp z]
      exact hf x (ih x (by simp)) o ho
theorem snoc_inj {α : Type} {w w' : List α} {x x' : α} (h : w ++ [x] = w' ++ [x']) : w = w' ∧ x = x' := by
  have := List.append_inj' h rfl
  exact ⟨this.1, by simpa using this.2⟩
section
variable {rooms : List Str} {doors : List (Str × Str)} {f : Str → List Str} {s one : Str} {xs : List Str} {par : Str → Option Str}
/-- a way is a way up all along, or its last step is one down -/
theorem Row.up (H : Hs rooms doors f) (hs : s ∈ rooms) (h1 : one ∈ rooms) (hd : Fd f s xs par) (hc : ∀ x ∈ xs, ∀ o ∈ f x, o ∈ xs) {l : List Str} (h : Row f one l) : Wy par one l ∨ ∃ w p x, l = w ++ [p] ++ [x] ∧ par x = some p := by
  induction h with
  | base => exact .inl .base
  | @step w x o h ho hn ih =>
    have hx := h.sub h1 (fun r hr o ho => H.sub hr ho) x (by simp)
    rcases H.edge hs hd hc hx ho with e | e
    · rcases ih with k | ⟨w', p, x', e', k⟩
      · exact .inl (.step k e)
      · obtain ⟨e1, e2⟩ := snoc_inj e'
        rw [← e2, e] at k
        cases k
        exact absurd (by rw [e1]; simp) hn
    · exact .inr ⟨w, x, o, rfl, e⟩
theorem Row.wy (H : Hs rooms doors f) (hs : s ∈ rooms) (h1 : one ∈ rooms) (hd : Fd f s xs par) (hc : ∀ x ∈ xs, ∀ o ∈ f x, o ∈ xs) {w : List Str} (h : Row f one (w ++ [s])) : Wy par one (w ++ [s]) := by
  rcases h.up H hs h1 hd hc with k | ⟨w', p, x, e, k⟩
  · exact k
  · obtain ⟨_, e2⟩ := snoc_inj e
    rw [← e2, hd.top.1] at k
    cases k
/-- what stands behind a part of a way up -/
theorem Wy.next {l : List Str} (h : Wy par one l) : ∀ (r : List Str) (x o : Str) (t : List Str), l = (r ++ [x]) ++ o :: t → par x = some o := by
  induction h with
  | base =>
    intro r x o t e
    have := congrArg List.length e
    simp at this
    omega
  | @step w y p h hp ih =>
    intro r x o t e
    rcases List.eq_nil_or_concat t with rfl | ⟨t', z, rfl⟩
    · obtain ⟨e1, e2⟩ := snoc_inj e
      obtain ⟨_, e3⟩ := snoc_inj e1
      rw [← e3, ← e2]
      exact hp
    · have e' : (w ++ [y]) ++ [p] = ((r ++ [x]) ++ o :: t') ++ [z] := by rw [e]; simp
      exact ih r x o t' (snoc_inj e').1
theorem Wy.head {l : List Str} (h : Wy par one l) : ∃ t, l = one :: t := by
  induction h with
  | base => exact ⟨[], rfl⟩
  | step h hp ih =>
    obtain ⟨t, e⟩ := ih
    exact ⟨t ++ _, by rw [e]; rfl⟩
theorem Wy.pre {l l' : List Str} (h : Wy par one l) (h' : Wy par one l') : (∃ t, l' = l ++ t) ∨ ∃ t, l = l' ++ t := by
  induction h with
  | base =>
    obtain ⟨t, e⟩ := h'.head
    exact .inl ⟨t, e⟩
  | @step w x p h hp ih =>
    rcases ih with ⟨t, e⟩ | ⟨t, e⟩
    · cases t with
      | nil => exact .inr ⟨[p], by rw [e]; simp⟩
      | cons o t =>
        have := h'.next w x o t e
        rw [hp] at this
        cases this
        exact .inl ⟨t, by rw [e]; simp⟩
    · exact .inr ⟨t ++ [p], by rw [e]; simp⟩
theorem Wy.uniq {w w' : List Str} {x x' : Str} (h : Wy par one (w ++ [x])) (hx : par x = none) (h' : Wy par one (w' ++ [x'])) (hx' : par x' = none) : w = w' ∧ x = x' := by
  rcases h.pre h' with ⟨t, e⟩ | ⟨t, e⟩
  · cases t with
    | nil => exact snoc_inj (by rw [e]; simp)
    | cons o t =>
      have := h'.next w x o t e
      rw [hx] at this
      cases this
  · cases t with
    | nil => exact snoc_inj (by rw [e]; simp)
    | cons o t =>
      have := h.next w' x' o t e
      rw [hx'] at this
      cases this
theorem Wy.ex (hd : Fd f s xs par) : ∃ w x, Wy par one (w ++ [x]) ∧ par x = none := by
  obtain ⟨rk, _, hr⟩ := hd.rank
  have key : ∀ n w x, Wy par one (w ++ [x]) → rk x ≤ n → ∃ w x, Wy par one (w ++ [x]) ∧ par x = none := by
    intro n
    induction n with
    | zero =>
      intro w x h hn
      cases e : par x with
      | none => exact ⟨w, x, h, e⟩
      | some p =>
        have := hr x p e
        omega
    | succ n ih =>
      intro w x h hn
      cases e : par x with
      | none => exact ⟨w, x, h, e⟩
      | some p =>
        have := hr x p e
        exact ih (w ++ [x]) p (.step h e) (by omega)
  exact key _ [] one .base (Nat.le_refl _)
theorem Wy.low {rk : Str → Nat} (hr : ∀ x p, par x = some p → rk p < rk x) {l : List Str} (h : Wy par one l) : l.Nodup ∧ ∀ w x, l = w ++ [x] → ∀ y ∈ w, rk x < rk y := by
  induction h with
  | base =>
    refine ⟨by simp, fun w x e y hy => ?_⟩
    have := congrArg List.length e
    simp at this
    rw [this] at hy
    exact absurd hy (by simp)
  | @step w x p h hp ih =>
    have lt := hr x p hp
    have all : ∀ y ∈ w ++ [x], rk p < rk y := fun y hy => by
      rcases List.mem_append.mp hy with z | z
      · exact Nat.lt_trans lt (ih.2 w x rfl y z)
      · rw [List.mem_singleton.mp z]
        exact lt
    refine ⟨?_, fun w' x' e y hy => ?_⟩
    · rw [List.nodup_append]
      refine ⟨ih.1, by simp, fun a ha b hb e => ?_⟩
      rw [List.mem_singleton.mp hb] at e
      have := all a ha
      rw [e] at this
      omega
    · obtain ⟨e1, e2⟩ := snoc_inj e
      rw [← e2]
      exact all y (e1 ▸ hy)
theorem Wy.nodup (hd : Fd f s xs par) {l : List Str} (h : Wy par one l) : l.Nodup := by
  obtain ⟨rk, _, hr⟩ := hd.rank
  exact (h.low hr).1
end
/-- how many ways go on where so many rooms are left -/
def wt : Nat → Nat
  | 0 => 1
  | k + 1 => 1 + (k + 1) * wt k
theorem wt_pos : ∀ k, 1 ≤ wt k
  | 0 => Nat.le_refl _
  | k + 1 => Nat.le_add_right _ _
theorem wt_mono {a b : Nat} (h : a ≤ b) : wt a ≤ wt b := by
  induction h with
  | refl => exact Nat.le_refl _
  | @step b h ih =>
    refine Nat.le_trans ih ?_
    show wt b ≤ 1 + (b + 1) * wt b
    have : 1 * wt b ≤ (b + 1) * wt b := Nat.mul_le_mul_right _ (by omega)
    omega
def wts (N : Nat) (rows : List (List Str)) : Nat := (rows.map fun r => wt (N - r.length)).sum
theorem wts_append {N : Nat} {a b : List (List Str)} : wts N (a ++ b) = wts N a + wts N b := by simp [wts]
theorem wts_len {N : Nat} : ∀ rows : List (List Str), rows.length ≤ wts N rows
  | [] => Nat.le_refl _
  | r :: rows => by
    have h1 := wts_len (N := N) rows
    have h2 := wt_pos (N - r.length)
    have e : wts N (r :: rows) = wt (N - r.length) + wts N rows := rfl
    rw [e, List.length_cons]
    omega
theorem wts_kids {N k : Nat} {row : List Str} (hk : N - row.length = k) : ∀ os : List Str, wts N (os.map fun o => row ++ [o]) = os.length * wt (k - 1)
  | [] => by simp [wts]
  | o :: os => by
    have IH := wts_kids hk os
    have e : wts N ((o :: os).map fun o => row ++ [o]) = wt (N - (row ++ [o]).length) + wts N (os.map fun o => row ++ [o]) := rfl
    have e2 : N - (row ++ [o]).length = k - 1 := by rw [List.length_append, List.length_singleton]; omega
    rw [e, IH, e2, List.length_cons, Nat.add_mul]
    omega
/-- a way is taken and its further ones are put back: fewer go on -/
theorem wts_less {N : Nat} {rows : List (List Str)} {row os : List Str} (h : row.length + os.length ≤ N) : wts N (rows ++ os.map fun o => row ++ [o]) < wts N (rows ++ [row]) := by
  rw [wts_append, wts_append]
  obtain ⟨k, hk⟩ : ∃ k, N - row.length = k := ⟨_, rfl⟩
  rw [wts_kids hk]
  have e : wts N [row] = wt k := by simp [wts, hk]
  rw [e]
  cases k with
  | zero =>
    have : os.length = 0 := by omega
    rw [this, Nat.zero_mul]
    have := wt_pos 0
    omega
  | succ k =>
    have : os.length * wt (k + 1 - 1) ≤ (k + 1) * wt k := Nat.mul_le_mul_right _ (by omega)
    show _ < _ + (1 + (k + 1) * wt k)
    omega
end K06

/-! L3c: the law's own way. -/
namespace K06
open PySem PySem.Spec PyProof.Rows L2 DL

def sp_hway : SpD := fun args ret exc => ∃ (doors : List (Str × Str)) (rooms : List Str) (f : Str → List Str) (one s : Str), args = [(0, .lst (doors.map pairD)), (0, .str one), (0, .str s)] ∧ Hs rooms doors f ∧ (∀ r ∈ rooms, sortedS (f r) = true) ∧ rooms.length ≤ 9 ∧ one ∈ rooms ∧ s ∈ rooms ∧
  ∀ w, Row f one (w ++ [s]) → ret (0, sL (w ++ [s])) N0
theorem mono_hway : MonoSp sp_hway := fun args ret ret' exc exc' k _ ⟨a, b, c, d, e, e0, h1, h2, h3, h4, h5, h⟩ => ⟨a, b, c, d, e, e0, h1, h2, h3, h4, h5, fun w q => k _ _ (h w q)⟩
theorem Hs.dlen' {rooms : List Str} {doors : List (Str × Str)} {f : Str → List Str} (H : Hs rooms doors f) : doors.length + 1 = rooms.length := by
  obtain ⟨R0, E0, t, pR, pE⟩ := H.tree
  have := t.len
  rw [pR.length_eq, pE.length_eq] at this
  omega
theorem plain_hway {args : List Sl} {ret : Sl → Sl → Prop} {exc : Exc → Prop} (h : sp_hway args ret exc) : t__law_h_way sp_beside (fnE none ret) (start0 7 args) := by
  obtain ⟨doors, rooms, f, one, s, rfl, H, hsrt, hl, h1, hs, h⟩ := h
  have o1 : 1 ≤ sizeLine := by rw [sizeLine_eq]; omega
  obtain ⟨xs, par, hd, hc⟩ := H.walk hs
  have hp := H.full hs hd hc
  obtain ⟨w0, x0, hy, hx0⟩ := Wy.ex (one := one) hd
  have ex0 : x0 = s := by
    refine H.end_way hd (hp.mem_iff.mpr h1) hy hx0 ?_
    exact hy.sub hd (hp.mem_iff.mpr h1) x0 (by simp)
  have dl := H.dlen'
  simp [t__law_h_way, start0, o1]
  refine ⟨fun m ρ => ∃ (rows : List (List Str)) (c4 c5 : Option Sl), m = wts rooms.length rows ∧ m ≤ 109601 ∧ (∀ r ∈ rows, Row f one r) ∧ (∃ r ∈ rows, ∃ t, w0 ++ [x0] = r ++ t) ∧ ρ = [some (0, .lst (doors.map pairD)), some (0, .str one), some (0, .str s), some (1, .lst (rows.map sL)), c4, c5, none], ?_, ?_⟩
  · refine ⟨_, [[one]], none, none, rfl, ?_, fun r hr => ?_, ⟨[one], by simp, ?_⟩, rfl⟩
    · have : wts rooms.length [[one]] = wt (rooms.length - 1) := by simp [wts]
      rw [this]
      exact Nat.le_trans (wt_mono (by omega : rooms.length - 1 ≤ 8)) (by decide)
    · rw [List.mem_singleton.mp hr]
      exact .base
    · obtain ⟨t, e⟩ := hy.head
      exact ⟨t, e⟩
  · rintro m ρ ⟨rows, c4, c5, rfl, hm, hrow, ⟨r0, hr0, t0, et⟩, rfl⟩
    obtain ⟨rows0, row, rfl⟩ : ∃ rows0 row, rows = rows0 ++ [row] := by
      rcases List.eq_nil_or_concat rows with rfl | ⟨a, b, rfl⟩
      · exact absurd hr0 (by simp)
      · exact ⟨a, b, by simp⟩
    have hr := hrow row (by simp)
    obtain ⟨w, x, rfl⟩ : ∃ w x, row = w ++ [x] := by
      rcases List.eq_nil_or_concat row with rfl | ⟨a, b, rfl⟩
      · exact absurd rfl hr.ne
      · exact ⟨a, b, by simp⟩
    have hx := hr.sub h1 (fun r hr o ho => H.sub hr ho) x (by simp)
    have hat' : atI (w.map D.str ++ [D.str x]) (-1) = some (.str x) := at_last
    have hrl : (rows0 ++ [w ++ [x]]).length ≤ 109601 := Nat.le_trans (wts_len _) hm
    simp [opPop, sL, hat']
    by_cases c : x = s
    · subst c
      simp
      have := h w hr
      simp only [fnE, outS]
      simpa [sL] using this
    · simp [c]
      refine ⟨doors, x, rfl, by omega, fun ys hp' hs' => ?_⟩
      have ey : ys = f x := sorted_uniq hs' (hsrt x hx) (hp'.trans (H.per x hx).symm)
      subst ey
      have fsub : ∀ o ∈ f x, o ∈ rooms := fun o ho => H.sub hx ho
      have fl : (f x).length ≤ rooms.length := nodup_le _ _ (H.fnd hx) fsub
      have hfz : (f x).length ≤ sizeLine := by rw [sizeLine_eq]; omega
      simp [sL, hfz]
      refine lc_filter (p := pS fun o => decide (o ∉ w ++ [x])) (f := id) (fun d hd K1 K0 k1 k0 => ?_) ?_
      · obtain ⟨o, ho, rfl⟩ := List.mem_map.mp hd
        have e1 : w.map D.str ++ [D.str x] = (w ++ [x]).map D.str := by simp
        simp [show wNotIn = wInB true from rfl]
        rw [e1, xInLS]
        by_cases q : o ∈ w ++ [x]
        · have := k0 (by simp [pS]; exact fun z => (by simpa using q : o ∈ w ∨ o = x).resolve_left z)
          simp [q]
          exact this
        · have := k1 (by simp [pS]; simpa using q)
          simp [q]
          exact this
      rw [List.nil_append, filt_sL]
      obtain ⟨os, hos⟩ : ∃ os, os = (f x).filter fun o => decide (o ∉ w ++ [x]) := ⟨_, rfl⟩
      rw [← hos]
      have mos : ∀ o, o ∈ os ↔ o ∈ f x ∧ o ∉ w ++ [x] := fun o => by rw [hos, List.mem_filter]; simp
      have nos : os.Nodup := by rw [hos]; exact (H.fnd hx).filter _
      have both : (w ++ [x]).length + os.length ≤ rooms.length := by
        rw [← List.length_append]
        refine nodup_le _ _ (List.nodup_append.mpr ⟨hr.nodup, nos, fun a ha b hb e => ((mos b).mp hb).2 (e ▸ ha)⟩) fun y hy => ?_
        rcases List.mem_append.mp hy with z | z
        · exact hr.sub h1 (fun r hr o ho => H.sub hr ho) y z
        · exact fsub y ((mos y).mp z).1
      have hoz : os.length ≤ sizeLine := by rw [sizeLine_eq]; omega
      simp [hoz]
      have rl : (w ++ [x]).length + 1 ≤ sizeLine := by rw [sizeLine_eq]; omega
      have rl2 : w.length + 1 + 1 ≤ sizeLine := by simpa using rl
      refine lc_map (f := fun d => match d with
        | .str o => sL ((w ++ [x]) ++ [o])
        | d => d) (fun d hd K1 K0 hk => ?_) ?_
      · obtain ⟨o, ho, rfl⟩ := List.mem_map.mp hd
        simp [o1, rl2]
        simpa [sL] using hk
      · have ek : (os.map D.str).map (fun d => match d with
          | .str o => sL ((w ++ [x]) ++ [o])
          | d => d) = (os.map fun o => (w ++ [x]) ++ [o]).map sL := by rw [List.map_map, List.map_map]; rfl
        have less := wts_less (rows := rows0) both
        have e2 : rows0.map sL ++ (os.map fun o => (w ++ [x]) ++ [o]).map sL = (rows0 ++ os.map fun o => (w ++ [x]) ++ [o]).map sL := by simp
        have hrl2 := Nat.le_trans (wts_len (N := rooms.length) (rows0 ++ os.map fun o => (w ++ [x]) ++ [o])) (by omega : _ ≤ 109601)
        rw [List.nil_append, ek]
        simp [opExtend]
        refine ⟨by rw [sizeLine_eq]; simp at hrl2; omega, _, less, rows0 ++ os.map fun o => (w ++ [x]) ++ [o], rfl, by omega, fun r hr' => ?_, ?_, by simp⟩
        · rcases List.mem_append.mp hr' with z | z
          · exact hrow r (List.mem_append_left _ z)
          · obtain ⟨o, ho, rfl⟩ := List.mem_map.mp z
            exact .step hr ((mos o).mp ho).1 ((mos o).mp ho).2
        · rcases List.mem_append.mp hr0 with z | z
          · exact ⟨r0, List.mem_append_left _ z, t0, et⟩
          · have z : r0 = w ++ [x] := List.mem_singleton.mp z
            subst z
            cases t0 with
            | nil =>
              have := snoc_inj (et.trans (List.append_nil _))
              exact absurd (this.2.symm.trans ex0) c
            | cons o t =>
              have po := hy.next w x o t et
              have nd := hy.nodup hd
              have ho : o ∈ os := by
                refine (mos o).mpr ⟨H.sym (hp.mem_iff.mp (hd.par_of po).2.1) (hd.par_of po).2.2.1, fun z => ?_⟩
                rw [et] at nd
                exact (List.nodup_append.mp nd).2.2 o z o (by simp) rfl
              exact ⟨(w ++ [x]) ++ [o], List.mem_append_right _ (List.mem_map.mpr ⟨o, ho, rfl⟩), t, by rw [et]; simp⟩
def sp_lspread : SpD := fun args ret exc => ∃ (doors : List (Str × Str)) (rooms rooms1 : List Str) (f : Str → List Str) (wd : Str → Int) (one s : Str), args = [(0, .lst (doors.map pairD)), (0, woodD rooms1 wd), (0, .str one), (0, .str s)] ∧ rooms1.Perm rooms ∧ Hs rooms doors f ∧ (∀ r ∈ rooms, sortedS (f r) = true) ∧ rooms.length ≤ 9 ∧ one ∈ rooms ∧ s ∈ rooms ∧
  ∀ w, Row f one (w ++ [s]) → ret (0, .tup [.int w.length, .int (w.map wd).sum]) N0
theorem mono_lspread : MonoSp sp_lspread := fun args ret ret' exc exc' k _ ⟨a, b, c, d, d2, d3, e, e0, h1, h2, h3, h4, h5, h6, h⟩ => ⟨a, b, c, d, d2, d3, e, e0, h1, h2, h3, h4, h5, h6, fun w q => k _ _ (h w q)⟩
theorem plain_lspread {args : List Sl} {ret : Sl → Sl → Prop} {exc : Exc → Prop} (h : sp_lspread args ret exc) : t__law_spread sp_hway (fnE none ret) (start0 6 args) := by
  obtain ⟨doors, rooms, rooms1, f, wd, one, s, rfl, p1, H, hsrt, hl, h1, hs, h⟩ := h
  simp [t__law_spread, start0]
  refine ⟨doors, rooms, f, one, s, rfl, H, hsrt, hl, h1, hs, fun w hw => ?_⟩
  have h := h w hw
  have hsub := hw.sub h1 (fun r hr o ho => H.sub hr ho)
  have hwl := nodup_le _ _ hw.nodup hsub
  have hwl2 : w.length + 1 ≤ rooms.length := by simpa using hwl
  have hz : w.length + 1 ≤ sizeLine := by rw [sizeLine_eq]; omega
  have hcut : DL.cutD ((w ++ [s]).map D.str) none (some (-1)) = w.map D.str := by
    have h1 : (1 : Int) ≤ (w.length : Int) + 1 := by omega
    have h2 : (-1 + ((w.length : Int) + 1)).toNat = w.length := by omega
    have e1 : HT.sIx (w.length + 1) (w.length + 1) (some (-1)) = w.length := by
      simp [HT.sIx]
      try omega
    simp [DL.cutD, HT.sIx_none, e1]
  have o2 : 2 ≤ sizeLine := by rw [sizeLine_eq]; omega
  have hz2 : w.length ≤ sizeLine := by omega
  simp [sL, hz]
  simp at hcut
  simp [hcut, hz2]
  refine lc_map (f := fun d => match d with
    | .str r => .int (wd r)
    | d => d) (fun d hd K1 K0 hk => ?_) ?_
  · obtain ⟨r, hr, rfl⟩ := List.mem_map.mp hd
    have v := dicF_val (f := fun r => D.int (wd r)) (p1.mem_iff.mpr (hsub r (List.mem_append_left _ hr)))
    simp [woodD, v]
    exact hk
  · have e : (w.map D.str).map (fun d => match d with
      | .str r => D.int (wd r)
      | d => d) = (w.map wd).map D.int := by rw [List.map_map, List.map_map]; rfl
    rw [List.nil_append, e, xSum]
    refine ⟨o2, ?_⟩
    simp only [fnE, outS]
    exact h
/-! ### all pairs of rooms -/
def sp_right (C : Addr) : SpD := fun args ret exc => ∃ (doors : List (Str × Str)) (rooms ys rooms1 : List Str) (f : Str → List Str) (wd : Str → Int), args = [(0, houseD C ys f), (0, sL rooms), (0, .lst (doors.map pairD)), (0, woodD rooms1 wd)] ∧ rooms1.Perm ys ∧ rooms.Perm ys ∧ Hs ys doors f ∧ (∀ r ∈ ys, sortedS (f r) = true) ∧ ys.length ≤ 9 ∧ (∀ r ∈ ys, 0 < wd r) ∧
  ret (0, .bl true) N0
theorem mono_right {C : Addr} : MonoSp (sp_right C) := fun args ret ret' exc exc' k _ ⟨a, b, c, d, d2, d3, e, e0, h1, h2, h3, h4, h5, h⟩ => ⟨a, b, c, d, d2, d3, e, e0, h1, h2, h3, h4, h5, k _ _ h⟩
def bR2 (C CW CN : Addr) : TSd := (dIf (dNot (dT (dCall (sp_same 8) (dCons (dCall (sp_spr C CW CN) (dCons (dVar 0) (dCons (dVar 3) (dCons (dVar 4) (dCons (dVar 5) dNil)))) R0) (dCons (dCall sp_lspread (dCons (dVar 2) (dCons (dVar 3) (dCons (dVar 4) (dCons (dVar 5) dNil)))) R0) dNil)) R0))) (dRet (dC (.bl false))) dNext)
def bR1 (C CW CN : Addr) : TSd := (dFor (dSeqI (dVar 1)) (gN 5) (bR2 C CW CN))
section
variable {C CW CN : Addr} {doors : List (Str × Str)} {rooms ys rooms1 : List Str} {f : Str → List Str} {wd : Str → Int} {A : DE} (p1 : rooms1.Perm ys) (p2 : rooms.Perm ys) (H : Hs ys doors f) (hsrt : ∀ r ∈ ys, sortedS (f r) = true) (hl : ys.length ≤ 9) (hw : ∀ r ∈ ys, 0 < wd r)
include p1 p2 H hsrt hl hw
theorem right_in {one : Str} (h1 : one ∈ ys) (hk : ∀ c, A.nx [some (0, houseD C ys f), some (0, sL rooms), some (0, .lst (doors.map pairD)), some (0, woodD rooms1 wd), some (0, .str one), c]) : ∀ (rest : List Str) (c : Option Sl), (∀ r ∈ rest, r ∈ ys) →
    dForL (gN 5) (bR2 C CW CN) A (rest.map D.str) [some (0, houseD C ys f), some (0, sL rooms), some (0, .lst (doors.map pairD)), some (0, woodD rooms1 wd), some (0, .str one), c]
  | [], c, _ => hk c
  | s :: rest, c, hr => by
    have hs := hr s (by simp)
    have nb : NbOk ys f := fun r hr => ⟨fun o ho => H.sub hr ho, by have := nodup_le _ _ (H.fnd hr) (fun o ho => H.sub hr ho); omega⟩
    have IH := right_in h1 hk rest (some (0, .str s)) fun r h => hr r (by simp [h])
    rw [List.map_cons, xForCons]
    generalize dForL (gN 5) (bR2 C CW CN) A (rest.map D.str) = G at IH ⊢
    simp [bR2]
    refine ⟨ys, f, _, _, _, rfl, H.nd, by omega, nb, .inr ⟨rooms1, wd, rfl, p1, hw, .inr ⟨one, rfl, h1, .inr ⟨s, rfl, hs, fun xs par hd hc => ?_⟩⟩⟩⟩
    have hp := H.full hs hd hc
    refine ⟨hp.mem_iff.mpr h1, fun w x hy hx => ?_⟩
    have hsub := hy.sub hd (hp.mem_iff.mpr h1)
    have ex : x = s := H.end_way hd (hp.mem_iff.mpr h1) hy hx (hsub x (by simp))
    subst ex
    have wl := nodup_le _ _ (hy.nodup hd) fun y hy => hp.mem_iff.mp (hsub y hy)
    refine ⟨by simp at wl; omega, fun y hy' => hp.mem_iff.mp (hsub y (by simp [hy'])), ?_⟩
    simp
    refine ⟨doors, ys, rooms1, f, wd, one, x, rfl, p1, H, hsrt, hl, h1, hs, fun w' hw' => ?_⟩
    have ew := (hy.uniq hx (hw'.wy H hs h1 hd hc) hx).1
    subst ew
    simp
    refine ⟨_, rfl, rfl, ?_⟩
    simp
    exact IH
theorem right_out (hk : ∀ c4 c5, A.nx [some (0, houseD C ys f), some (0, sL rooms), some (0, .lst (doors.map pairD)), some (0, woodD rooms1 wd), c4, c5]) : ∀ (rest : List Str) (c4 c5 : Option Sl), (∀ r ∈ rest, r ∈ ys) →
    dForL (gN 4) (bR1 C CW CN) A (rest.map D.str) [some (0, houseD C ys f), some (0, sL rooms), some (0, .lst (doors.map pairD)), some (0, woodD rooms1 wd), c4, c5]
  | [], c4, c5, _ => hk c4 c5
  | one :: rest, c4, c5, hr => by
    have h1 := hr one (by simp)
    have IH := fun c4 c5 => right_out hk rest c4 c5 fun r h => hr r (by simp [h])
    rw [List.map_cons, xForCons]
    generalize dForL (gN 4) (bR1 C CW CN) A (rest.map D.str) = G at IH ⊢
    simp [bR1, sL]
    exact right_in p1 p2 H hsrt hl hw h1 (fun c => IH _ _) rooms c5 fun r hr => p2.mem_iff.mp hr
end
theorem plain_right {C CW CN : Addr} {args : List Sl} {ret : Sl → Sl → Prop} {exc : Exc → Prop} (h : sp_right C args ret exc) : t__law_all_right (sp_same 8) (sp_spr C CW CN) sp_lspread (fnE none ret) (start0 6 args) := by
  obtain ⟨doors, rooms, ys, rooms1, f, wd, rfl, p1, p2, H, hsrt, hl, hw, h⟩ := h
  have e0 : t__law_all_right (sp_same 8) (sp_spr C CW CN) sp_lspread = dSeq (dFor (dSeqI (dVar 1)) (gN 4) (bR1 C CW CN)) (dRet (dC (.bl true))) := rfl
  rw [e0]
  simp [start0, sL]
  refine right_out p1 p2 H hsrt hl hw (fun c4 c5 => ?_) rooms none none fun r hr => p2.mem_iff.mp hr
  simp
  exact h
end K06

/-! L3d: what is near woods and none. -/
namespace K06
open PySem PySem.Spec PyProof.Rows L2 DL

theorem hour_grow {ks : List Str} {h : Str → Int} {o : Str} {v : Int} (ho : o ∉ ks) : hourD (ks ++ [o]) (upd h o v) = .dic (putD (dicF ks fun r => .int (h r)) (.inr o) (.int v)) := by
  have e : (dicF ks fun r => D.int (h r)) = dicF ks fun r => .int (upd h o v r) := dicF_congr fun r hr => by
    have : r ≠ o := fun z => ho (by rw [← z]; exact hr)
    unfold upd
    rw [if_neg this]
  have e2 : v = upd h o v o := by unfold upd; rw [if_pos rfl]
  have q : putD (dicF ks fun r => D.int (upd h o v r)) (.inr o) (D.int (upd h o v o)) = dicF (ks ++ [o]) fun r => D.int (upd h o v r) := dicF_snoc (f := fun r => D.int (upd h o v r)) ho
  rw [← e2] at q
  unfold hourD
  rw [e, q]
/-- pairs of a dict and one more -/
theorem xDictP1 {ks : List Str} {h : Str → Int} {o : Str} {v : Int} {k : Sl → Prop} (nd : ks.Nodup) (ho : o ∉ ks) (q : k (1, hourD (ks ++ [o]) (upd h o v))) : wDictP [.lst (pairsD (dicF ks fun r => .int (h r)) ++ [.tup [.str o, .int v]])] k := by
  refine ⟨(dicF ks fun r => .int (h r)) ++ [(.inr o, .int v)], by simp [pairsD, kD], ?_⟩
  have e := merge_new ks [] (fun r => D.int (h r)) (by simpa using nd)
  have e0 : (dicF [] fun r => D.int (h r)) = [] := rfl
  rw [e0, List.nil_append] at e
  have e2 : mergeD [] ((dicF ks fun r => D.int (h r)) ++ [(.inr o, .int v)]) = putD (mergeD [] (dicF ks fun r => D.int (h r))) (.inr o) (.int v) := by
    unfold mergeD
    rw [List.foldl_append]
    rfl
  rw [e2, e, ← hour_grow ho]
  exact q
theorem cov_pairs {j : Nat} {kvs : List (Key × D)} (hl : kvs.length < 100000) (h : ∀ kv ∈ kvs, cov (j + 1) kv.2 = true) : cov (j + 3) (.lst (pairsD kvs)) = true := by
  show (decide ((pairsD kvs).length < 100000) && (pairsD kvs).all (cov (j + 2))) = true
  rw [Bool.and_eq_true]
  refine ⟨by simp [pairsD, hl], List.all_eq_true.mpr fun d hd => ?_⟩
  obtain ⟨kv, hkv, rfl⟩ := List.mem_map.mp hd
  show (decide (2 < 100000) && ([kD kv.1, kv.2]).all (cov (j + 1))) = true
  have h1 : cov (j + 1) (kD kv.1) = true := by cases kv.1 <;> rfl
  simp [h kv hkv, h1]
theorem cov_dic {j : Nat} {kvs : List (Key × D)} (hl : kvs.length < 100000) (h : ∀ kv ∈ kvs, cov (j + 1) kv.2 = true) : cov (j + 4) (.dic kvs) = true := cov_pairs hl h
theorem put_new {kvs : List (Key × D)} {k : Key} {d : D} (h : k ∉ kvs.map (·.1)) : putD kvs k d = kvs ++ [(k, d)] := by
  unfold putD
  rw [if_neg]
  intro z
  obtain ⟨kv, h1, h2⟩ := List.any_eq_true.mp z
  exact h (List.mem_map.mpr ⟨kv, h1, of_decide_eq_true h2⟩)
theorem merge_nd : ∀ (rest pre : List (Key × D)), ((pre ++ rest).map (·.1)).Nodup → mergeD pre rest = pre ++ rest
  | [], pre, _ => by simp [mergeD]
  | (k, d) :: rest, pre, h => by
    have hk : k ∉ pre.map (·.1) := fun z => by
      rw [List.map_append] at h
      exact (List.nodup_append.mp h).2.2 k z k (by simp) rfl
    show mergeD (putD pre k d) rest = _
    rw [put_new hk, merge_nd rest (pre ++ [(k, d)]) (by simpa using h)]
    simp
theorem xDictNd {kvs : List (Key × D)} {k : Sl → Prop} (nd : (kvs.map (·.1)).Nodup) (h : k (1, .dic kvs)) : wDictP [.lst (pairsD kvs)] k := by
  refine xDictP ?_
  rw [merge_nd kvs [] (by simpa using nd)]
  exact h
theorem keys_nd {rooms : List Str} {g : Str → D} (nd : rooms.Nodup) : ((dicF rooms g).map (·.1)).Nodup := by
  unfold dicF List.Nodup at *
  rw [List.map_map, List.pairwise_map]
  exact nd.imp fun ne e => ne (Sum.inr.inj e)
theorem never_no : ("never" : Str) ∉ NAMES := by decide +kernel
def NoWd (rooms : List Str) (d : D) : Prop := okT d = true ∧ chkB posB rooms d = false ∧ cov 5 d = true
def sp_bent : SpD := fun args ret exc => ∃ (n : Nat) (rooms : List Str) (h : Str → Int), args = [(1, .spr n), (0, woodD rooms h)] ∧ rooms.Nodup ∧ rooms ≠ [] ∧ rooms.length < 30 ∧ (∀ x ∈ rooms, x ∈ NAMES) ∧ 3 ≤ n ∧
  ∀ d n', n ≤ n' + 3 → NoWd rooms d → ret (0, d) (1, .spr n')
theorem mono_bent : MonoSp sp_bent := fun args ret ret' exc exc' k _ ⟨a, b, c, e, h0, h1, h2, h3, h4, h⟩ => ⟨a, b, c, e, h0, h1, h2, h3, h4, fun d n' q1 q2 => k _ _ (h d n' q1 q2)⟩
theorem nf_len {rooms : List Str} {kvs : List (Key × D)} (hl : kvs.length < 1000) (hn : kvs.length ≠ rooms.length) (h : ∀ kv ∈ kvs, okV kv.2 = true ∧ cov 2 kv.2 = true) : NoWd rooms (.dic kvs) := by
  refine ⟨?_, ?_, cov_dic (j := 1) (by omega) fun kv hkv => (h kv hkv).2⟩
  · show (decide (kvs.length < 1000) && kvs.all fun kv => okV kv.2) = true
    rw [decide_eq_true hl, Bool.true_and, List.all_eq_true]
    exact fun kv hkv => (h kv hkv).1
  · show (decide (kvs.length = rooms.length) && _) = false
    rw [decide_eq_false hn]
    rfl
theorem nf_at {rooms : List Str} {kvs : List (Key × D)} {r : Str} (hl : kvs.length < 1000) (hr : r ∈ rooms) (hn : atB posB kvs r = false) (h : ∀ kv ∈ kvs, okV kv.2 = true ∧ cov 2 kv.2 = true) : NoWd rooms (.dic kvs) := by
  refine ⟨?_, ?_, cov_dic (j := 1) (by omega) fun kv hkv => (h kv hkv).2⟩
  · show (decide (kvs.length < 1000) && kvs.all fun kv => okV kv.2) = true
    rw [decide_eq_true hl, Bool.true_and, List.all_eq_true]
    exact fun kv hkv => (h kv hkv).1
  · show (decide (kvs.length = rooms.length) && rooms.all (atB posB kvs)) = false
    have : rooms.all (atB posB kvs) = false := by
      rw [Bool.eq_false_iff]
      intro z
      have := List.all_eq_true.mp z r hr
      rw [hn] at this
      cases this
    rw [this, Bool.and_false]
theorem plain_bent {args : List Sl} {ret : Sl → Sl → Prop} {exc : Exc → Prop} (h : sp_bent args ret exc) : t__law_bent sp_pick (fnE (some 0) ret) (start0 6 args) := by
  obtain ⟨n, rooms, hh, rfl, nd, hne, hl, hN, hn, h⟩ := h
  obtain ⟨n, rfl⟩ : ∃ m, n = m + 3 := ⟨n - 3, by omega⟩
  have hz : rooms.length ≤ sizeLine := by rw [sizeLine_eq]; omega
  have o1 : 1 ≤ sizeLine := by rw [sizeLine_eq]; omega
  have o2 : 2 ≤ sizeLine := by rw [sizeLine_eq]; omega
  have o6 : 6 ≤ sizeLine := by rw [sizeLine_eq]; omega
  have o8 : 8 ≤ sizeLine := by rw [sizeLine_eq]; omega
  have hnv : ("never" : Str) ∉ rooms := fun z => never_no (hN _ z)
  simp [t__law_bent, start0, woodD]
  refine ⟨_, rfl, ?_⟩
  simp [dicF_keys]
  refine ⟨n + 2, rooms.map D.str, rfl, by simpa using hne, by simp; omega, fun d hd => ?_⟩
  obtain ⟨room, hroom, rfl⟩ := List.mem_map.mp hd
  simp [o1, o6, o8, dNewD]
  refine ⟨n + 1, _, rfl, by simp, by simp, fun odd hodd => ?_⟩
  have ho : okV odd = true ∧ cov 2 odd = true ∧ posB odd = false := by
    simp at hodd
    rcases hodd with rfl | rfl | rfl | rfl | rfl | rfl | rfl | rfl <;> exact ⟨rfl, rfl, rfl⟩
  have hz1 : rooms.length + 1 ≤ sizeLine := by rw [sizeLine_eq]; omega
  simp [dItemsL, o1, o2, o6, pairs_dicF, hz1]
  rw [← pairs_dicF]
  refine xDictP1 nd hnv ?_
  simp [dicF_keys, hz]
  -- one odd hour
  refine lc_map (f := fun d => match d with
    | .str r => .tup [.str r, if r = room then odd else .int (hh r)]
    | d => d) (fun d hd K1 K0 hk => ?_) ?_
  · obtain ⟨r, hr, rfl⟩ := List.mem_map.mp hd
    have v := dicF_val (f := fun r => D.int (hh r)) hr
    by_cases c : r = room
    · simp [c] at hk
      simp [c, o2]
      exact hk
    · simp [c] at hk
      simp [c, v, o2]
      exact hk
  have e1 : (rooms.map D.str).map (fun d => match d with
    | .str r => D.tup [.str r, if r = room then odd else .int (hh r)]
    | d => d) = pairsD (dicF rooms fun r => if r = room then odd else .int (hh r)) := by rw [pairs_dicF, List.map_map]; rfl
  rw [List.nil_append, e1]
  refine xDictNd (keys_nd nd) ?_
  simp [opAppend, dicF_keys, hz]
  refine ⟨by rw [sizeLine_eq]; omega, ?_⟩
  -- a room less
  refine lc_filter (p := pS fun r => decide (r ≠ room)) (f := fun d => match d with
    | .str r => .tup [.str r, .int (hh r)]
    | d => d) (fun d hd K1 K0 k1 k0 => ?_) ?_
  · obtain ⟨r, hr, rfl⟩ := List.mem_map.mp hd
    have v := dicF_val (f := fun r => D.int (hh r)) hr
    by_cases c : r = room
    · simp [c]
      exact k0 (by simp [pS, c])
    · simp [c, v, o2]
      exact k1 (by simp [pS, c])
  have e2 : ((rooms.map D.str).filter (pS fun r => decide (r ≠ room))).map (fun d => match d with
    | .str r => D.tup [.str r, .int (hh r)]
    | d => d) = pairsD (dicF (rooms.filter fun r => decide (r ≠ room)) fun r => .int (hh r)) := by
    rw [pairs_dicF, List.filter_map, List.map_map]
    rfl
  rw [List.nil_append, e2]
  refine xDictNd (keys_nd (nd.filter _)) ?_
  simp [opAppend, dicF_keys, hz]
  refine ⟨by rw [sizeLine_eq]; omega, ?_⟩
  -- a room of another name
  refine lc_map (f := fun d => match d with
    | .str r => .tup [.str (if r = room then "never" else r), .int (hh r)]
    | d => d) (fun d hd K1 K0 hk => ?_) ?_
  · obtain ⟨r, hr, rfl⟩ := List.mem_map.mp hd
    have v := dicF_val (f := fun r => D.int (hh r)) hr
    by_cases c : r = room
    · subst c
      simp at hk
      simp [v, o2]
      exact hk
    · simp [c] at hk
      simp [c, v, o2]
      exact hk
  obtain ⟨kv4, ekv⟩ : ∃ kv4 : List (Key × D), kv4 = rooms.map fun r => ((.inr (if r = room then "never" else r) : Key), D.int (hh r)) := ⟨_, rfl⟩
  have e3 : (rooms.map D.str).map (fun d => match d with
    | .str r => D.tup [.str (if r = room then "never" else r), .int (hh r)]
    | d => d) = pairsD kv4 := by
    rw [ekv]
    unfold pairsD
    rw [List.map_map, List.map_map]
    rfl
  have nd4 : (kv4.map (·.1)).Nodup := by
    rw [ekv, List.map_map]
    unfold List.Nodup
    rw [List.pairwise_map]
    refine List.Pairwise.imp_of_mem (fun {a b} ha hb ne e => ?_) nd
    have e : (if a = room then ("never" : Str) else a) = (if b = room then ("never" : Str) else b) := Sum.inr.inj e
    by_cases ca : a = room
    · by_cases cb : b = room
      · exact ne (ca.trans cb.symm)
      · simp [ca, cb] at e
        exact hnv (e ▸ hb)
    · by_cases cb : b = room
      · simp [ca, cb] at e
        exact hnv (e ▸ ha)
      · simp [ca, cb] at e
        exact ne e
  rw [List.nil_append, e3]
  refine xDictNd nd4 ?_
  simp [opAppend]
  refine ⟨by rw [sizeLine_eq]; omega, n, _, rfl, by simp, by simp, fun d hd => ?_⟩
  have fin : NoWd rooms d := by
    simp at hd
    have iok : ∀ i : Int, okV (.int i) = true ∧ cov 2 (.int i) = true := fun i => ⟨rfl, rfl⟩
    rcases hd with rfl | rfl | rfl | rfl | rfl | rfl | rfl | rfl | rfl
    · exact ⟨rfl, rfl, rfl⟩
    · exact ⟨rfl, rfl, rfl⟩
    · exact ⟨rfl, rfl, rfl⟩
    · refine ⟨rfl, rfl, ?_⟩
      exact cov_pairs (j := 2) (by rw [dicF_len]; omega) fun kv hkv => by
        obtain ⟨r, hr, rfl⟩ := List.mem_map.mp hkv
        rfl
    · exact nf_len (by simp) (by simpa using fun e => hne (List.eq_nil_of_length_eq_zero e.symm)) (by simp)
    · refine nf_len (by rw [dicF_len]; simp; omega) (by rw [dicF_len]; simp) fun kv hkv => ?_
      obtain ⟨r, hr, rfl⟩ := List.mem_map.mp hkv
      exact iok _
    · refine nf_at (by rw [dicF_len]; omega) hroom ?_ fun kv hkv => ?_
      · unfold atB
        rw [dicF_val hroom]
        simp [ho.2.2]
      · obtain ⟨r, hr, rfl⟩ := List.mem_map.mp hkv
        by_cases c : r = room
        · simp [c, ho.1, ho.2.1]
        · simp [c]
          exact iok _
    · have hlt : (rooms.filter fun r => !decide (r = room)).length < rooms.length := by
        refine List.length_filter_lt_length_iff_exists.mpr ⟨room, hroom, by simp⟩
      refine nf_len (by rw [dicF_len]; omega) (by rw [dicF_len]; omega) fun kv hkv => ?_
      obtain ⟨r, hr, rfl⟩ := List.mem_map.mp hkv
      exact iok _
    · refine nf_at (by rw [ekv]; simp; omega) hroom ?_ fun kv hkv => ?_
      · have : valD kv4 (.inr room) = none := by
          unfold valD
          rw [List.find?_eq_none.mpr]
          · rfl
          · intro kv hkv
            rw [ekv] at hkv
            obtain ⟨r, hr, rfl⟩ := List.mem_map.mp hkv
            simp
            by_cases c : r = room
            · rw [if_pos c]
              exact fun e => hnv (e ▸ hroom)
            · rw [if_neg c]
              exact c
        unfold atB
        rw [this]
      · rw [ekv] at hkv
        obtain ⟨r, hr, rfl⟩ := List.mem_map.mp hkv
        exact iok _
  have := h d n (by omega) fin
  simp only [fnE, outS]
  exact ⟨_, rfl, this⟩
end K06

/-! L3e: what is refused, with the very things. -/
namespace K06
open PySem PySem.Spec PyProof.Rows L2 DL

@[simp↓] theorem xSubT {tl : TDs} {ρ : DSt} {Q : List D → DSt → Prop} : dSubT tl ρ Q = tl ρ fun ds ρ' => ∃ ds', SubPL (tagsL ds) ds ds' ∧ Q ds' ρ' := rfl
@[simp↓] theorem xVery {j : Nat} {t : DL.TO} {ρ : DSt} {Q : Sl → DSt → Prop} : dVery j t ρ Q = match ρ[j]? with
    | some (some s) => ∀ w, t ((frz ρ).set j (some (0, .tag w s.2))) fun r _ => (match thawD r.2 with
      | some r' => Q (0, r') (ρ.set j (some (s.1 + 1, .tag w s.2)))
      | none => False)
    | _ => False := by
  unfold dVery
  have e : ∀ (r : Sl) (P : D → Prop), (∃ r', thawD r.2 = some r' ∧ P r') = (match thawD r.2 with
      | some r' => P r'
      | none => False) := fun r P => by
    apply propext
    constructor
    · intro ⟨r', h1, h2⟩
      rw [h1]
      exact h2
    · intro h
      split at h
      · rename_i r' q
        exact ⟨r', q, h⟩
      · exact h.elim
  apply propext
  constructor
  · intro ⟨n, d, h1, h2⟩
    rw [h1]
    simp only [e] at h2
    exact h2
  · intro h
    split at h
    · rename_i s q
      refine ⟨s.1, s.2, q, ?_⟩
      simp only [e]
      exact h
    · exact h.elim
abbrev CL3 (CW CN : Addr) : List Cl := [(CW, "woods", "thing"), (CN, "room", "thing")]
section
variable {CW CN : Addr} (hne : CW ≠ CN)
theorem hit_woods {d : D} {k : D → Prop} (q : k (.tup [.str "woods", d])) : hitD (CL3 CW CN) (thing CW d) k := by
  unfold hitD thing CL3
  simp
  exact q
include hne in
theorem hit_room {d : D} {k : D → Prop} (q : k (.tup [.str "room", d])) : hitD (CL3 CW CN) (thing CN d) k := by
  unfold hitD thing CL3
  simp [hne]
  exact q
end
section
variable {a0 a1 a2 a3 a4 a5 a6 a7 a8 a9 : Option Sl} {b c d e : Sl}
theorem only15 : onlyAt [a0, some b, a2, a3, a4, some c, a6, a7, a8, a9] [1, 5] = [none, some (0, b.2), none, none, none, some (0, c.2), none, none, none, none] := rfl
theorem frz15 : frzAt [a0, some b, a2, a3, a4, some c, a6, a7, a8, a9] [1, 5] = [a0, some (0, b.2), a2, a3, a4, some (0, c.2), a6, a7, a8, a9] := rfl
theorem only137 : onlyAt [a0, some b, a2, some c, a4, a5, a6, some d, a8, a9] [1, 3, 7] = [none, some (0, b.2), none, some (0, c.2), none, none, none, some (0, d.2), none, none] := rfl
theorem frz137 : frzAt [a0, some b, a2, some c, a4, a5, a6, some d, a8, a9] [1, 3, 7] = [a0, some (0, b.2), a2, some (0, c.2), a4, a5, a6, some (0, d.2), a8, a9] := rfl
theorem only1372 : onlyAt [a0, some b, some e, some c, a4, a5, a6, some d, a8, a9] [1, 3, 7, 2] = [none, some (0, b.2), some (0, e.2), some (0, c.2), none, none, none, some (0, d.2), none, none] := rfl
theorem frz1372 : frzAt [a0, some b, some e, some c, a4, a5, a6, some d, a8, a9] [1, 3, 7, 2] = [a0, some (0, b.2), some (0, e.2), some (0, c.2), a4, a5, a6, some (0, d.2), a8, a9] := rfl
theorem only18 : onlyAt [a0, some b, a2, a3, a4, a5, a6, a7, some c, a9] [1, 8] = [none, some (0, b.2), none, none, none, none, none, none, some (0, c.2), none] := rfl
theorem frz18 : frzAt [a0, some b, a2, a3, a4, a5, a6, a7, some c, a9] [1, 8] = [a0, some (0, b.2), a2, a3, a4, a5, a6, a7, some (0, c.2), a9] := rfl
theorem only139 : onlyAt [a0, some b, a2, some c, a4, a5, a6, a7, a8, some d] [1, 3, 9] = [none, some (0, b.2), none, some (0, c.2), none, none, none, none, none, some (0, d.2)] := rfl
theorem frz139 : frzAt [a0, some b, a2, some c, a4, a5, a6, a7, a8, some d] [1, 3, 9] = [a0, some (0, b.2), a2, some (0, c.2), a4, a5, a6, a7, a8, some (0, d.2)] := rfl
end
theorem cov_up : ∀ (k : Nat) (d : D), cov k d = true → cov (k + 1) d = true
  | 0, d, h => by cases d <;> cases h
  | k + 1, .lst xs, h => by
    have h : (decide (xs.length < 100000) && xs.all (cov k)) = true := h
    rw [Bool.and_eq_true] at h
    show (decide (xs.length < 100000) && xs.all (cov (k + 1))) = true
    rw [h.1, Bool.true_and, List.all_eq_true]
    exact fun x hx => cov_up k x (List.all_eq_true.mp h.2 x hx)
  | k + 1, .tup xs, h => by
    have h : (decide (xs.length < 100000) && xs.all (cov k)) = true := h
    rw [Bool.and_eq_true] at h
    show (decide (xs.length < 100000) && xs.all (cov (k + 1))) = true
    rw [h.1, Bool.true_and, List.all_eq_true]
    exact fun x hx => cov_up k x (List.all_eq_true.mp h.2 x hx)
  | k + 1, .dic kvs, h => cov_up k (.lst (pairsD kvs)) h
  | k + 1, .non, _ => rfl
  | k + 1, .bl _, _ => rfl
  | k + 1, .int _, _ => rfl
  | k + 1, .str _, _ => rfl
  | k + 1, .ins _ _, h => by cases h
  | k + 1, .spr _, h => by cases h
  | k + 1, .scr _ _, h => by cases h
  | k + 1, .opq _, h => by cases h
  | k + 1, .tag _ _, h => by cases h
theorem cov_tag {x : Str} {d : D} (h : cov 5 d = true) : cov 7 (.tup [.str x, d]) = true := by
  have h6 := cov_up 5 d h
  show (decide (2 < 100000) && ([D.str x, d]).all (cov 6)) = true
  have h0 : cov 6 (.str x) = true := rfl
  simp [h6, h0]
theorem chk_perm {p : D → Bool} {rooms rooms' : List Str} {d : D} (h : rooms'.Perm rooms) : chkB p rooms' d = chkB p rooms d := by
  cases d with
  | dic kvs =>
    show (decide (kvs.length = rooms'.length) && rooms'.all (atB p kvs)) = (decide (kvs.length = rooms.length) && rooms.all (atB p kvs))
    rw [h.length_eq, h.all_eq]
  | _ => rfl
def bW (C CW CN : Addr) : TSd := (dSeq (dSet 5 (dCallI sp_bent 0 0 (dHere 0 (dCons (dVar 3) dNil)) R0))
  (dSeq (dSet 6 (dL wLst (dCons (dCall (spT (sp_isw C)) (dCons (dVar 1) (dCons (dVar 5) dNil)) R0) (dCons (dMet [1, 5] "told" (CL3 CW CN) fun R_h1 => (dCall (sp_spr C CW CN) (dCons (dVar 1) (dCons (dVar 5) (dCons (dC .non) (dCons (dC .non) dNil)))) R_h1)) dNil))))
  (dIf (dFlatB (dNot (dT (dCall (sp_same 8) (dCons (dVar 6) (dCons (dL wLst (dCons (dC (.bl false)) (dCons (dL wTup (dCons (dC (.str "woods")) (dCons (dVar 5) dNil))) dNil))) dNil)) R0)))) (dRet (dC (.bl false))) dNext)))
def bO (C CW CN : Addr) : TSd := (dSeq (dSet 6 (dL wLst (dCons (dMet [1, 3, 7] "told" (CL3 CW CN) fun R_h3 => (dCall (sp_spr C CW CN) (dCons (dVar 1) (dCons (dVar 3) (dCons (dVar 7) (dCons (dC .non) dNil)))) R_h3)) dNil)))
  (dSeq (dExpr (dMutL 6 (dCons (dMet [1, 3, 7, 2] "told" (CL3 CW CN) fun R_h4 => (dCall (sp_spr C CW CN) (dCons (dVar 1) (dCons (dVar 3) (dCons (dB wIx (dVar 2) (dC (.int 0))) (dCons (dVar 7) dNil)))) R_h4)) dNil) opAppend))
  (dIf (dFlatB (dNot (dT (dCall (sp_same 8) (dCons (dVar 6) (dCons (dB wRep (dL wLst (dCons (dL wTup (dCons (dC (.str "room")) (dCons (dVar 7) dNil))) dNil)) (dC (.int 2))) dNil)) R0)))) (dRet (dC (.bl false))) dNext)))
/-- a house, its rooms in any order, its woods -/
structure WdOk (ys rooms rooms1 : List Str) (doors : List (Str × Str)) (f : Str → List Str) (wd : Str → Int) : Prop where
  p1 : rooms1.Perm ys
  p2 : rooms.Perm ys
  H : Hs ys doors f
  srt : ∀ r ∈ ys, sortedS (f r) = true
  hl : ys.length ≤ 9
  pos : ∀ r ∈ ys, 0 < wd r
  nm : ∀ r ∈ ys, r ∈ NAMES
  ne : ys ≠ []
section
variable {C CW CN : Addr} {ys rooms rooms1 : List Str} {doors : List (Str × Str)} {f : Str → List Str} {wd : Str → Int}
theorem WdOk.nb (O : WdOk ys rooms rooms1 doors f wd) : NbOk ys f := fun r hr => ⟨fun o ho => O.H.sub hr ho, by have := nodup_le _ _ (O.H.fnd hr) (fun o ho => O.H.sub hr ho); have := O.hl; omega⟩
theorem bent_loop {A : DE} {h7 h8 h9 : Option Sl} (hne : CW ≠ CN) (O : WdOk ys rooms rooms1 doors f wd) : ∀ (m : Nat) (i : Int) (n : Nat) (h4 h5 h6 : Option Sl), 3 * m ≤ n →
    (∀ n' h4 h5 h6, n ≤ n' + 3 * m → A.nx [some (1, .spr n'), some (0, houseD C ys f), some (0, sL rooms), some (0, woodD rooms1 wd), h4, h5, h6, h7, h8, h9]) →
    dForL (gN 4) (bW C CW CN) A (rangeD i m) [some (1, .spr n), some (0, houseD C ys f), some (0, sL rooms), some (0, woodD rooms1 wd), h4, h5, h6, h7, h8, h9]
  | 0, i, n, h4, h5, h6, hn, k => k n h4 h5 h6 (by omega)
  | m + 1, i, n, h4, h5, h6, hn, k => by
    have IH := fun n' h4 h5 h6 hn' hk => bent_loop (A := A) (h7 := h7) (h8 := h8) (h9 := h9) hne O m (i + 1) n' h4 h5 h6 hn' hk
    have ln := O.hl
    have nd := O.H.nd
    have l1 := O.p1.length_eq
    have o1 : 1 ≤ sizeLine := by rw [sizeLine_eq]; omega
    have o2 : 2 ≤ sizeLine := by rw [sizeLine_eq]; omega
    rw [rangeD_cons, xForCons]
    generalize dForL (gN 4) (bW C CW CN) A (rangeD (i + 1) m) = G at IH ⊢
    simp [bW]
    refine ⟨n, rooms1, wd, rfl, O.p1.nodup_iff.mpr nd, fun e => O.ne (List.eq_nil_of_length_eq_zero (by rw [← l1, e]; rfl)), by omega, fun x hx => O.nm x (O.p1.mem_iff.mp hx), by omega, fun d n1 hn1 hd => ?_⟩
    have hd2 : chkB posB ys d = false := by rw [← chk_perm O.p1]; exact hd.2.1
    simp
    refine ⟨_, UntL.refl _, ys, f, d, rfl, by omega, hd.1, ?_⟩
    rw [hd2]
    refine xMet ?_
    rw [only15, frz15]
    simp
    refine ⟨ys, f, d, _, _, rfl, nd, by omega, O.nb, .inl ⟨⟨d, .inl rfl, hd.1, hd2⟩, ?_⟩⟩
    refine hit_woods ?_
    simp [o2, xfrzOpt]
    refine ⟨_, rfl, ?_, ?_⟩
    · have c1 := cov_tag (x := "woods") hd.2.2
      show (decide (2 < 100000) && ([D.bl false, .tup [.str "woods", d]]).all (cov 7)) = true
      simp [c1]
      rfl
    simp
    exact IH n1 _ _ _ (by omega) fun n' g4 g5 g6 hn' => k n' g4 g5 g6 (by omega)
theorem odd_loop {A : DE} {h4 h5 h8 h9 : Option Sl} {n : Nat} {r0 : Str} {rt : List Str} (hne : CW ≠ CN) (O : WdOk ys (r0 :: rt) rooms1 doors f wd) : ∀ (ds : List D) (h6 h7 : Option Sl), (∀ d ∈ ds, NoRm ys d ∧ cov 5 d = true) →
    (∀ h6 h7, A.nx [some (1, .spr n), some (0, houseD C ys f), some (0, sL (r0 :: rt)), some (0, woodD rooms1 wd), h4, h5, h6, h7, h8, h9]) →
    dForL (gN 7) (bO C CW CN) A ds [some (1, .spr n), some (0, houseD C ys f), some (0, sL (r0 :: rt)), some (0, woodD rooms1 wd), h4, h5, h6, h7, h8, h9]
  | [], h6, h7, hd, k => k h6 h7
  | d :: ds, h6, h7, hds, k => by
    have IH := fun h6 h7 => odd_loop (A := A) (h4 := h4) (h5 := h5) (h8 := h8) (h9 := h9) (n := n) hne O ds h6 h7 (fun x hx => hds x (by simp [hx])) k
    have hd := hds d (by simp)
    have ln := O.hl
    have nd := O.H.nd
    have o1 : 1 ≤ sizeLine := by rw [sizeLine_eq]; omega
    have o2 : 2 ≤ sizeLine := by rw [sizeLine_eq]; omega
    have hr0 : r0 ∈ ys := O.p2.mem_iff.mp (by simp)
    rw [xForCons]
    generalize dForL (gN 7) (bO C CW CN) A ds = G at IH ⊢
    simp [bO]
    refine xMet ?_
    rw [only137, frz137]
    simp
    refine ⟨ys, f, _, d, _, rfl, nd, by omega, O.nb, .inr ⟨rooms1, wd, rfl, O.p1, O.pos, .inl ⟨hd.1, ?_⟩⟩⟩
    refine hit_room hne ?_
    simp [o1]
    refine xMet ?_
    rw [only1372, frz1372]
    simp [sL]
    refine ⟨ys, f, _, _, d, rfl, nd, by omega, O.nb, .inr ⟨rooms1, wd, rfl, O.p1, O.pos, .inr ⟨r0, rfl, hr0, .inl ⟨hd.1, ?_⟩⟩⟩⟩
    refine hit_room hne ?_
    simp [opAppend, o1, o2, wRep, xfrzOpt]
    refine ⟨by omega, _, rfl, ?_, ?_⟩
    · have c1 := cov_tag (x := "room") hd.2
      show (decide (2 < 100000) && ([D.tup [.str "room", d], .tup [.str "room", d]]).all (cov 7)) = true
      simp [c1]
    simp
    exact IH _ _
end
end K06

/-! L3f: what is refused, to the end. -/
namespace K06
open PySem PySem.Spec PyProof.Rows L2 DL

def sp_refused (C : Addr) : SpD := fun args ret exc => ∃ (n : Nat) (ys rooms rooms1 : List Str) (doors : List (Str × Str)) (f : Str → List Str) (wd : Str → Int), args = [(1, .spr n), (0, houseD C ys f), (0, sL rooms), (0, woodD rooms1 wd)] ∧ WdOk ys rooms rooms1 doors f wd ∧ 9 ≤ n ∧
  ∀ n', n ≤ n' + 9 → ret (0, .bl true) (1, .spr n')
theorem mono_refused {C : Addr} : MonoSp (sp_refused C) := fun args ret ret' exc exc' k _ ⟨a, b, c, d, e, f, g, e0, h1, h2, h⟩ => ⟨a, b, c, d, e, f, g, e0, h1, h2, fun n' q => k _ _ (h n' q)⟩
theorem never_nm : ("never" : Str) ∉ NAMES := by decide +kernel
theorem empty_nm : ("" : Str) ∉ NAMES := by decide +kernel
theorem held_no {ys : List Str} (hne : ys ≠ []) : chkB posB ys (.dic [(.inr "late", .int 0)]) = false := by
  show (decide ([((.inr "late" : Key), D.int 0)].length = ys.length) && ys.all (atB posB [(.inr "late", .int 0)])) = false
  have : ys.all (atB posB [(.inr "late", .int 0)]) = false := by
    rw [Bool.eq_false_iff]
    intro z
    obtain ⟨r, rs, e⟩ := List.exists_cons_of_ne_nil hne
    have z := List.all_eq_true.mp z r (by rw [e]; simp)
    unfold atB at z
    by_cases c : (("late" : Str) = r)
    · subst c
      simp [valD, posB] at z
    · simp [valD, c] at z
  rw [this, Bool.and_false]
theorem plain_refused {C CW CN : Addr} (hne : CW ≠ CN) {args : List Sl} {ret : Sl → Sl → Prop} {exc : Exc → Prop} (hq : sp_refused C args ret exc) : t__law_refused_right CW CN sp_bent (spT (sp_isw C)) (sp_spr C CW CN) (sp_same 8) (fnE (some 0) ret) (start0 10 args) := by
  obtain ⟨n, ys, rooms, rooms1, doors, f, wd, rfl, O, hn, hr⟩ := hq
  have e0 : t__law_refused_right CW CN sp_bent (spT (sp_isw C)) (sp_spr C CW CN) (sp_same 8) = (dSeq (dFor (dRange1 (dCons (dC (.int 3)) dNil)) (gN 4) (bW C CW CN))
    (dSeq (dFor (dSeqI (dL wTup (dCons (dC (.str "never")) (dCons (dC (.str "")) (dCons (dC .non) (dCons (dC (.int 5)) (dCons (dC (.bl true)) (dCons (dL wLst dNil) (dCons dNewD dNil))))))))) (gN 7) (bO C CW CN))
    (dSeq (dPar2 8 9 (dL wDictP (dCons (dL wLst (dCons (dL wTup (dCons (dC (.str "late")) (dCons (dC (.int 0)) dNil))) dNil)) dNil)) (dL wLst (dCons (dB wIx (dVar 2) (dC (.int 0))) dNil)))
    (dSeq (dSet 6 (dL wLst (dCons (dVery 8 (dMet [1, 8] "told" (CL3 CW CN) fun R_h8 => (dCall (sp_spr C CW CN) (dCons (dVar 1) (dCons (dVar 8) (dCons (dC .non) (dCons (dC .non) dNil)))) R_h8))) dNil)))
    (dSeq (dExpr (dMutL 6 (dCons (dVery 9 (dMet [1, 3, 9] "told" (CL3 CW CN) fun R_h10 => (dCall (sp_spr C CW CN) (dCons (dVar 1) (dCons (dVar 3) (dCons (dVar 9) (dCons (dC .non) dNil)))) R_h10))) dNil) opAppend))
    (dSeq (dPutT 8 (dC (.str "later")) (dC (.int 1)))
    (dSeq (dExpr (dMutLT 9 (dCons (dC (.str "late")) dNil) opAppend))
    (dRet (dCall (sp_same 8) (dSubT (dCons (dVar 6) (dCons (dL wLst (dCons (dL wTup (dCons (dC (.str "woods")) (dCons (dVar 8) dNil))) (dCons (dL wTup (dCons (dC (.str "room")) (dCons (dVar 9) dNil))) dNil))) dNil))) R0))))))))) := rfl
  rw [e0]
  have ln := O.hl
  have nd := O.H.nd
  have o1 : 1 ≤ sizeLine := by rw [sizeLine_eq]; omega
  have o2 : 2 ≤ sizeLine := by rw [sizeLine_eq]; omega
  have o7 : 7 ≤ sizeLine := by rw [sizeLine_eq]; omega
  obtain ⟨r0, rt, rfl⟩ : ∃ r0 rt, rooms = r0 :: rt := by
    cases rooms with
    | nil => exact absurd (List.Perm.nil_eq O.p2).symm O.ne
    | cons a b => exact ⟨a, b, rfl⟩
  have hr0 : r0 ∈ ys := O.p2.mem_iff.mp (by simp)
  simp [start0]
  refine bent_loop hne O 3 0 n none none none (by omega) fun n1 h4 h5 h6 hn1 => ?_
  simp [o7, dNewD]
  refine odd_loop hne O _ _ _ (fun d hd => ?_) fun h6 h7 => ?_
  · simp at hd
    rcases hd with rfl | rfl | rfl | rfl | rfl | rfl | rfl
    · exact ⟨.inr ⟨_, rfl, fun z => never_nm (O.nm _ z)⟩, rfl⟩
    · exact ⟨.inr ⟨_, rfl, fun z => empty_nm (O.nm _ z)⟩, rfl⟩
    · exact ⟨.inl ⟨_, rfl, by decide⟩, rfl⟩
    · exact ⟨.inl ⟨_, rfl, by decide⟩, rfl⟩
    · exact ⟨.inl ⟨_, rfl, by decide⟩, rfl⟩
    · exact ⟨.inl ⟨_, rfl, by decide⟩, rfl⟩
    · exact ⟨.inl ⟨_, rfl, by decide⟩, rfl⟩
  simp [o1, o2]
  refine ⟨[(.inr "late", .int 0)], rfl, ?_⟩
  have em : mergeD [] [((.inr "late" : Key), D.int 0)] = [(.inr "late", .int 0)] := rfl
  rw [em]
  simp [sL, o1]
  intro w1
  refine xMet ?_
  simp [frz]
  rw [only18]
  simp
  refine ⟨ys, f, _, _, _, rfl, nd, by omega, O.nb, .inl ⟨⟨_, .inr ⟨w1, rfl⟩, rfl, held_no O.ne⟩, ?_⟩⟩
  refine hit_woods ?_
  simp [thawD, thawL, thaw0]
  intro w2
  refine xMet ?_
  simp [frz]
  rw [only139]
  simp
  refine ⟨ys, f, _, _, _, rfl, nd, by omega, O.nb, .inr ⟨rooms1, wd, rfl, O.p1, O.pos, .inl ⟨.inl ⟨"list", rfl, by decide⟩, ?_⟩⟩⟩
  refine hit_room hne ?_
  simp [thawD, thawL, thaw0]
  refine ⟨by rw [sizeLine_eq]; omega, ?_⟩
  simp [dPutT]
  refine ⟨w1, _, ⟨rfl, rfl⟩, by rw [sizeLine_eq]; decide, 0, w2, [.str r0], rfl, ?_⟩
  simp
  refine ⟨w2, _, ⟨rfl, rfl⟩, ?_⟩
  simp [opAppend, o2]
  refine ⟨by rw [sizeLine_eq]; omega, ?_⟩
  obtain ⟨X, hX⟩ : ∃ X, X = D.lst [.tup [.str "woods", .dic [(.inr "late", .int 0), (.inr "later", .int 1)]], .tup [.str "room", .lst [.str r0, .str "late"]]] := ⟨_, rfl⟩
  have ep : putD [((.inr "late" : Key), D.int 0)] (.inr "later") (.int 1) = [(.inr "late", .int 0), (.inr "later", .int 1)] := by
    simp [putD]
    decide
  rw [ep]
  refine ⟨[X, X], ?_, X, rfl, ?_, ?_⟩
  · rw [hX]
    refine sub_cons (sub_lst (sub_cons (sub_tup (sub_cons sub_str (sub_cons (sub_opq ?_) sub_nil))) (sub_cons (sub_tup (sub_cons sub_str (sub_cons (sub_opq ?_) sub_nil))) sub_nil)))
      (sub_cons (sub_lst (sub_cons (sub_tup (sub_cons sub_str (sub_cons sub_tag sub_nil))) (sub_cons (sub_tup (sub_cons sub_str (sub_cons sub_tag sub_nil))) sub_nil))) sub_nil)
    · simp [tagsL, tagsD]
    · simp [tagsL, tagsD]
  · rw [hX]
    rfl
  simp only [fnE, outS]
  exact ⟨_, rfl, hr n1 (by omega)⟩
end K06

/-! L3g: what repr tells of woods; the law of woods and spread. -/
namespace K06
open PySem PySem.Spec PyProof.Rows L2 DL

def pyHrs (rooms : List Str) (h : Str → Int) : List (PyData × PyData) := rooms.map fun r => (.str r, .int (h r))
theorem pyKv_dicF {h : Str → Int} : ∀ {rooms : List Str}, pyKv (dicF rooms fun r => .int (h r)) = some (pyHrs rooms h)
  | [] => rfl
  | r :: rs => by
    have e : dicF (r :: rs) (fun r => D.int (h r)) = ((.inr r : Key), D.int (h r)) :: dicF rs fun r => .int (h r) := rfl
    rw [e]
    unfold pyKv
    rw [pyKv_dicF]
    rfl
theorem names_repr : NAMES.all (fun x => decide ((reprText x).length ≤ 100)) = true := by decide +kernel
theorem log_small {i : Int} (h : i.natAbs < 2 ^ 40) : i.natAbs.log2 < 1920 := by
  by_cases c : i.natAbs = 0
  · rw [c]
    decide
  · have := (Nat.log2_lt c).mpr h
    omega
theorem hrs_show {rooms : List Str} {h : Str → Int} (hb : ∀ r ∈ rooms, (h r).natAbs < 2 ^ 40) : PyData.showable (.dict (pyHrs rooms h)) = true := by
  simp only [PyData.showable]
  refine showableKv_of fun p hp => ?_
  obtain ⟨r, hr, rfl⟩ := List.mem_map.mp hp
  exact ⟨by simp only [PyData.showable], by simp only [PyData.showable]; exact decide_eq_true (log_small (hb r hr))⟩
theorem hrs_depth {h : Str → Int} : ∀ {rooms : List Str}, PyData.depthKv (pyHrs rooms h) = 0
  | [] => by simp only [pyHrs, List.map_nil, PyData.depthKv]
  | r :: rs => by
    have e : pyHrs (r :: rs) h = (.str r, .int (h r)) :: pyHrs rs h := rfl
    rw [e]
    simp only [PyData.depthKv, PyData.depth, hrs_depth]
    rfl
theorem piled_le {B : Nat} : ∀ {ts : List Str}, (∀ t ∈ ts, t.length ≤ B) → piled ts ≤ ts.length * (B + 2)
  | [], _ => by simp [piled]
  | t :: ts, h => by
    have ih := piled_le (ts := ts) fun x hx => h x (by simp [hx])
    have h0 := h t (by simp)
    have e : piled (t :: ts) = t.length + 2 + piled ts := by simp [piled]
    rw [e, List.length_cons, Nat.succ_mul]
    omega
theorem join_le {B : Nat} {ts : List Str} (h : ∀ t ∈ ts, t.length ≤ B) : (Str.join ", " ts).length ≤ ts.length * (B + 2) := by
  by_cases c : ts = []
  · subst c
    show 0 ≤ _
    omega
  · have := join_length_add ts c
    have := piled_le h
    omega
theorem hrs_len {rooms : List Str} {h : Str → Int} (hN : ∀ x ∈ rooms, x ∈ NAMES) (hl : rooms.length ≤ 30) (hb : ∀ r ∈ rooms, (h r).natAbs < 2 ^ 40) : (PyData.shown (.dict (pyHrs rooms h))).length ≤ 70000 := by
  have e : PyData.shown (.dict (pyHrs rooms h)) = dictText (PyData.shownKv (pyHrs rooms h)) := by simp only [PyData.shown]
  have len : ∀ kvs : List (PyData × PyData), (PyData.shownKv kvs).length = kvs.length := by
    intro kvs
    induction kvs with
    | nil => simp only [PyData.shownKv, List.length_nil]
    | cons p r ih => obtain ⟨k, v⟩ := p; simp only [PyData.shownKv, List.length_cons, ih]
  have mem : ∀ (rooms : List Str), (∀ x ∈ rooms, x ∈ NAMES) → (∀ r ∈ rooms, (h r).natAbs < 2 ^ 40) → ∀ t ∈ PyData.shownKv (pyHrs rooms h), t.length ≤ 2100 := by
    intro rooms
    induction rooms with
    | nil => intro _ _ t ht; simp only [pyHrs, List.map_nil, PyData.shownKv] at ht; exact absurd ht (by simp)
    | cons r rs ih =>
      intro hN hb t ht
      have e : pyHrs (r :: rs) h = (.str r, .int (h r)) :: pyHrs rs h := rfl
      rw [e] at ht
      simp only [PyData.shownKv] at ht
      rcases List.mem_cons.mp ht with z | z
      · have h1 : (reprText r).length ≤ 100 := of_decide_eq_true (List.all_eq_true.mp names_repr r (hN r (by simp)))
        have h2 := int_text_len_1921 (log_small (hb r (by simp)))
        rw [z, strLen_append, strLen_append]
        simp only [PyData.shown]
        have h3 : (": " : Str).length = 2 := rfl
        omega
      · exact ih (fun x hx => hN x (by simp [hx])) (fun x hx => hb x (by simp [hx])) t z
  have hj := join_le (mem rooms hN hb)
  rw [len] at hj
  have hpl : (pyHrs rooms h).length = rooms.length := by simp [pyHrs]
  rw [e]
  unfold dictText
  rw [strLen_append, strLen_append]
  have h1 : ("{" : Str).length = 1 := rfl
  have h2 : ("}" : Str).length = 1 := rfl
  rw [hpl] at hj
  have : rooms.length * (2100 + 2) ≤ 30 * (2100 + 2) := Nat.mul_le_mul_right _ hl
  omega
theorem same_none {args : List Sl} {ret : Sl → Sl → Prop} {exc : Exc → Prop} (h : sp_same 0 args ret exc) : spF args ret exc := by
  obtain ⟨d, _, z, _⟩ := h
  cases d <;> cases z
theorem repr_ok1 {r5 : List Str} {h : Str → Int} (h5 : ∀ x ∈ r5, x ∈ NAMES) (l5 : r5.length ≤ 30) (b5 : ∀ r ∈ r5, (h r).natAbs < 2 ^ 40) :
    ∃ ps, pyKv (dicF r5 fun r => .int (h r)) = some ps ∧ (PyData.dict ps).showable = true ∧ (PyData.dict ps).depth ≤ 60 ∧ (PyData.dict ps).shown.length ≤ sizeLine := by
  refine ⟨pyHrs r5 h, pyKv_dicF, hrs_show b5, ?_, ?_⟩
  · simp only [PyData.depth, hrs_depth]
    decide
  · have := hrs_len h5 l5 b5
    rw [sizeLine_eq]
    omega
theorem xRepr1 {kvs : List (Key × D)} {ps : List (PyData × PyData)} {k : Sl → Prop} (h1 : pyKv kvs = some ps) (h2 : (PyData.dict ps).showable = true) (h3 : (PyData.dict ps).depth ≤ 60) (h4 : (PyData.dict ps).shown.length ≤ sizeLine) (q : k (0, .str (PyData.dict ps).shown)) : wRepr1 [.dic kvs] k := ⟨kvs, ps, rfl, h1, h2, h3, h4, q⟩
def bTurn (C : Addr) (CW CN : Addr) : TSd := (dSeq (dAsg (dCallI sp_house0 1 0 (dHere 1 (dCons (dC (.int 9)) dNil)) R0) (dTup 2 (gCons (gN 3) (gCons (gN 4) gNil))))
  (dSeq (dSet 5 (dMake C (sp_init C) (dCons (dVar 3) (dCons (dVar 4) dNil)) R0))
  (dSeq (dSet 6 (dCallI sp_turned 1 0 (dHere 1 (dCons (dCallI sp_woods 1 0 (dHere 1 (dCons (dVar 3) (dCons (dCallI sp_pick 1 0 (dHere 1 (dCons (dL wLst (dCons (dC (.int 2)) (dCons (dC (.int 5)) (dCons (dB wSub (dB wPow (dC (.int 10)) (dC (.int 9))) (dC (.int 2))) dNil)))) dNil)) R0) dNil))) R0) dNil)) R0))
  (dSeq (dPar2 7 8 (dCallI sp_woods 1 0 (dHere 1 (dCons (dVar 3) (dCons (dC (.int 4)) dNil))) R0) (dFlat (dL wRepr1 (dCons (dVar 6) dNil))))
  (dSeq (dIf (dFlatB (dT (dB (wIsB true) (dCall (spT (sp_isw C)) (dCons (dVar 5) (dCons (dVar 6) dNil)) R0) (dC (.bl true))))) (dRet (dC (.bl false))) dNext)
  (dSeq (dIf (dFlatB (dNot (dT (dL (wAllAny fun bs => bs.all id) (dCons (dLc [9] (dSeqI (dL wTup (dCons (dVar 6) (dCons (dVar 7) (dCons (dVar 6) dNil))))) (gN 9) dYes (dCall (sp_right C) (dCons (dVar 5) (dCons (dVar 3) (dCons (dVar 4) (dCons (dVar 9) dNil)))) R0)) dNil))))) (dRet (dC (.bl false))) dNext)
  (dSeq (dIf (dFlatBI 1 (dOr (dT (dB wNe (dL wRepr1 (dCons (dVar 6) dNil)) (dVar 8))) (dNot (dT (dCallI (sp_refused C) 1 0 (dHere 1 (dCons (dVar 5) (dCons (dVar 3) (dCons (dVar 6) dNil)))) R0))))) (dRet (dC (.bl false))) dNext)
  (dSeq (dPut 6 (dB wIx (dVar 3) (dC (.int 0))) (dFlat (dB wAdd (dB wIx (dVar 6) (dB wIx (dVar 3) (dC (.int 0)))) (dC (.int 1)))))
  (dIf (dFlatB (dNot (dT (dCall (sp_right C) (dCons (dVar 5) (dCons (dVar 3) (dCons (dVar 4) (dCons (dVar 6) dNil)))) R0)))) (dRet (dC (.bl false))) dNext)))))))))
theorem turn_loop {C CW CN : Addr} {A : DE} {s0 : Option Sl} : ∀ (r : Nat) (i : Int) (n : Nat) (h2 h3 h4 h5 h6 h7 h8 h9 : Option Sl), 1000 * r ≤ n →
    (∀ h1 h2 h3 h4 h5 h6 h7 h8 h9, A.nx [s0, h1, h2, h3, h4, h5, h6, h7, h8, h9]) →
    dForL (gN 2) (bTurn C CW CN) A (rangeD i r) [s0, some (1, .spr n), h2, h3, h4, h5, h6, h7, h8, h9]
  | 0, i, n, h2, h3, h4, h5, h6, h7, h8, h9, hn, k => k _ _ _ _ _ _ _ _ _
  | r + 1, i, n, h2, h3, h4, h5, h6, h7, h8, h9, hn, k => by
    have IH := fun n' h2 h3 h4 h5 h6 h7 h8 h9 hn' => turn_loop (C := C) (CW := CW) (CN := CN) (A := A) (s0 := s0) r (i + 1) n' h2 h3 h4 h5 h6 h7 h8 h9 hn' k
    rw [rangeD_cons, xForCons]
    generalize dForL (gN 2) (bTurn C CW CN) A (rangeD (i + 1) r) = G at IH ⊢
    have o1 : 1 ≤ sizeLine := by rw [sizeLine_eq]; omega
    have o2 : 2 ≤ sizeLine := by rw [sizeLine_eq]; omega
    have o3 : 3 ≤ sizeLine := by rw [sizeLine_eq]; omega
    simp [bTurn]
    refine ⟨n, 9, rfl, by omega, by omega, by omega, fun rooms rooms' es doors n1 hn1 nd hne hlen hN hp hE hD => ?_⟩
    have T : Tree rooms' doors := Tree.perm (edges_tr nd hE) hp.symm hD.symm
    have nd' := hp.nodup_iff.mpr nd
    have hlen' := hp.length_eq
    simp
    refine ⟨rooms', doors, rfl, nd', by omega, fun x hx => hN x (hp.mem_iff.mp hx), T, fun ys f hpy hsy hf => ?_⟩
    have hyl := hpy.length_eq
    have H : Hs ys doors f := ⟨hpy.nodup_iff.mpr nd', Tree.perm T hpy.symm (List.Perm.refl _), fun r hr => (hf r hr).1⟩
    have hsrt : ∀ r ∈ ys, sortedS (f r) = true := fun r hr => (hf r hr).2
    have nm : ∀ x ∈ ys, x ∈ NAMES := fun x hx => hN x (hp.mem_iff.mp (hpy.mem_iff.mp hx))
    have hne' : rooms' ≠ [] := fun e => by rw [e] at hlen'; exact hne (List.eq_nil_of_length_eq_zero hlen'.symm)
    have hney : ys ≠ [] := fun e => hne' (List.eq_nil_of_length_eq_zero (by rw [← hyl, e]; rfl))
    obtain ⟨n1, rfl⟩ : ∃ m, n1 = m + 800 := ⟨n1 - 800, by omega⟩
    simp [o3]
    refine ⟨⟨by omega, by omega, by omega⟩, n1 + 799, [D.int 2, D.int 5, D.int 999999998], rfl, by simp, by simp, fun d hd => ?_⟩
    obtain ⟨most, hm1, hm3, rfl⟩ : ∃ most : Nat, 1 ≤ most ∧ most < 1000000000 ∧ d = .int (most : Nat) := by
      simp at hd
      rcases hd with rfl | rfl | rfl
      · exact ⟨2, by omega, by omega, rfl⟩
      · exact ⟨5, by omega, by omega, rfl⟩
      · exact ⟨999999998, by omega, by omega, rfl⟩
    simp
    refine ⟨n1 + 799, most, rooms', rfl, nd', by omega, by omega, hm1, by omega, fun ys2 w hp2 hs2 hw => ?_⟩
    have e2 : ys2 = ys := sorted_uniq hs2 hsy (hp2.trans hpy.symm)
    subst e2
    simp
    refine ⟨n1 + 799 - rooms'.length, ys2, fun r => .int (w r), rfl, H.nd, by omega, by omega, fun zs hz => ?_⟩
    simp
    refine ⟨n1 + 799 - rooms'.length - ys2.length, 4, rooms', rfl, nd', by omega, by omega, by omega, by omega, fun ys3 w2 hp3 hs3 hw2 => ?_⟩
    have e3 : ys3 = ys2 := sorted_uniq hs3 hsy (hp3.trans hpy.symm)
    subst e3
    have hzl := hz.length_eq
    have pos : ∀ r ∈ ys3, 0 < w r := fun r hr => by have := hw r (hpy.mem_iff.mp hr); omega
    have pos2 : ∀ r ∈ ys3, 0 < w2 r := fun r hr => by have := hw2 r (hpy.mem_iff.mp hr); omega
    obtain ⟨ps, q1, q2, q3, q4⟩ := repr_ok1 (h := w) (fun x hx => nm x (hz.mem_iff.mp hx)) (by omega) (fun r hr => by have := hw r (hpy.mem_iff.mp (hz.mem_iff.mp hr)); omega)
    simp [frz]
    refine xRepr1 q1 q2 q3 q4 ?_
    refine ⟨rfl, ?_⟩
    refine ⟨_, UntL.refl _, ys3, f, _, rfl, by omega, ok_dicF (by omega) fun _ _ => rfl, ?_⟩
    rw [show chkB posB ys3 (.dic (dicF zs fun r => D.int (w r))) = true from chk_dicF hz fun r hr => by simp [posB, pos r hr]]
    simp [o3]
    refine lc_map (f := fun _ => .bl true) (fun d hd K1 K0 hk => ?_) ?_
    · have : ∃ r1 w', d = woodD r1 w' ∧ r1.Perm ys3 ∧ ∀ r ∈ ys3, 0 < w' r := by
        simp at hd
        rcases hd with rfl | rfl | rfl
        · exact ⟨zs, w, rfl, hz, pos⟩
        · exact ⟨ys3, w2, rfl, List.Perm.refl _, pos2⟩
        · exact ⟨zs, w, rfl, hz, pos⟩
      obtain ⟨r1, w', rfl, hr1, pos'⟩ := this
      simp
      refine ⟨doors, rooms', ys3, r1, f, w', rfl, hr1, hpy.symm, H, hsrt, by omega, pos', ?_⟩
      exact hk
    · refine trues ?_
      simp
      refine ⟨_, rfl, ?_⟩
      simp [frzI, frz]
      refine xRepr1 q1 q2 q3 q4 ?_
      simp
      refine ⟨_, ys3, rooms', zs, doors, f, w, rfl, ⟨hz, hpy.symm, H, hsrt, by omega, pos, nm, hney⟩, by omega, fun n5 hn5 => ?_⟩
      simp
      refine ⟨0, n5, ⟨rfl, rfl⟩, ?_⟩
      obtain ⟨r0, rt, er⟩ : ∃ r0 rt, rooms' = r0 :: rt := List.exists_cons_of_ne_nil hne'
      have hr0 : r0 ∈ ys3 := hpy.mem_iff.mpr (by rw [er]; simp)
      have hr0z := hz.mem_iff.mpr hr0
      have v := dicF_val (f := fun r => D.int (w r)) hr0z
      have ep : putD (dicF zs fun r => D.int (w r)) (.inr r0) (.int (w r0 + 1)) = dicF zs fun x => .int (upd w r0 (w r0 + 1) x) := by
        rw [dicF_put hr0z]
        refine dicF_congr fun x _ => ?_
        unfold upd
        by_cases e : x = r0
        · rw [if_pos e, if_pos e]
        · rw [if_neg e, if_neg e]
      have pos3 : ∀ r ∈ ys3, 0 < upd w r0 (w r0 + 1) r := fun r hr => by
        unfold upd
        split
        · have := pos r0 hr0
          omega
        · exact pos r hr
      have hzs : zs.length < sizeLine := by rw [sizeLine_eq]; omega
      have e3 : sL rooms' = .lst (.str r0 :: rt.map D.str) := by rw [er]; rfl
      simp [dPut, e3, v, frz, flatD, keyD, dicF_len, hzs, ep]
      rw [← e3]
      refine ⟨doors, rooms', ys3, zs, f, _, rfl, hz, hpy.symm, H, hsrt, by omega, pos3, ?_⟩
      simp
      exact IH _ _ _ _ _ _ _ _ _ (by omega)
theorem plain_law {K : PySem.W.Frag} {C CW CN : Addr} {args : List Sl} {ret : Sl → Sl → Prop} {exc : Exc → Prop} (h : sp_law K args ret exc) : t_law C (sp_start K) sp_house0 (sp_init C) sp_turned sp_woods sp_pick (spT (sp_isw C)) (sp_right C) (sp_refused C) (fnE none ret) (start0 10 args) := by
  obtain ⟨is, rfl, h0, h1, h⟩ := h
  have e0 : t_law C (sp_start K) sp_house0 (sp_init C) sp_turned sp_woods sp_pick (spT (sp_isw C)) (sp_right C) (sp_refused C) = (dSeq (dSet 1 (dCall (sp_start K) (dCons (dVar 0) dNil) R0)) (dSeq (dFor (dRange1 (dCons (dC (.int 4)) dNil)) (gN 2) (bTurn C CW CN)) (dRet (dC (.bl true))))) := rfl
  rw [e0]
  simp [start0]
  refine ⟨is, rfl, h0, h1, fun o => ?_⟩
  simp
  refine turn_loop 4 0 1000000 _ _ _ _ _ _ _ _ (by omega) fun g1 g2 g3 g4 g5 g6 g7 g8 g9 => ?_
  simp
  exact h
end K06

/-! Za: the errors, the promises. -/
namespace K06
open PySem PySem.Spec PyProof.Rows L2 DL
variable [LamT]
def s_BadWoods_init : Stmt := (inClass (top 4) 0)
theorem sc_BadWoods_init : FnScope ["self", "thing"] ["self", "thing"] (defScope s_BadWoods_init) := ⟨rfl, rfl, rfl, by decide +kernel, rfl, by decide +kernel, by decide +kernel⟩
def s_NoRoom_init : Stmt := (inClass (top 5) 0)
theorem sc_NoRoom_init : FnScope ["self", "thing"] ["self", "thing"] (defScope s_NoRoom_init) := ⟨rfl, rfl, rfl, by decide +kernel, rfl, by decide +kernel, by decide +kernel⟩
def s__law_met : Stmt := (top 41)
theorem sc__law_met : FnScope ["_law_ask", "e"] ["_law_ask"] (defScope s__law_met) := ⟨rfl, rfl, rfl, by decide +kernel, rfl, by decide +kernel, by decide +kernel⟩
section
variable {P : Program} {w : World} {K : PySem.W.Frag} {mg : Str → Option Value} {base h : Heap} {C_BadWoods C_NoRoom : Addr}
theorem err_BadWoods (A : ErrAt K mg "BadWoods" C_BadWoods "BadWoods.__init__" s_BadWoods_init ["thing"]) : ErrC P w K mg base "BadWoods" C_BadWoods ["thing"] := by
  obtain ⟨f, fd, a, t, F⟩ := A.ini
  refine ⟨A.oex, A.gm, A.xf, A.no, f, fd, ["self", "thing"], a, t, err1 F sc_BadWoods_init A.oex (A.no _ (by simp)) fun cdv A outer s H E => pss_one (ps_ost (pv 0) (pv 1)), F.binds (ps := ["self", "thing"]) fun _ _ _ _ _ _ us hl => match us, hl with | [_, _], _ => rfl⟩
theorem err_NoRoom (A : ErrAt K mg "NoRoom" C_NoRoom "NoRoom.__init__" s_NoRoom_init ["thing"]) : ErrC P w K mg base "NoRoom" C_NoRoom ["thing"] := by
  obtain ⟨f, fd, a, t, F⟩ := A.ini
  refine ⟨A.oex, A.gm, A.xf, A.no, f, fd, ["self", "thing"], a, t, err1 F sc_NoRoom_init A.oex (A.no _ (by simp)) fun cdv A outer s H E => pss_one (ps_ost (pv 0) (pv 1)), F.binds (ps := ["self", "thing"]) fun _ _ _ _ _ _ us hl => match us, hl with | [_, _], _ => rfl⟩
theorem met__law_met (X : K.In h) (G : h.Ns mainGlobals mg) (A : TopAt K "_law_met" s__law_met) (e_BadWoods : ErrAt K mg "BadWoods" C_BadWoods "BadWoods.__init__" s_BadWoods_init ["thing"]) (e_NoRoom : ErrAt K mg "NoRoom" C_NoRoom "NoRoom.__init__" s_NoRoom_init ["thing"]) (ne_BadWoods_NoRoom : C_BadWoods ≠ C_NoRoom) (x_BadWoods_BadWoods : PySem.W.exmOne K (.ref C_BadWoods) (.ref C_BadWoods) = some true) (x_BadWoods_NoRoom : PySem.W.exmOne K (.ref C_BadWoods) (.ref C_NoRoom) = some false) (x_NoRoom_BadWoods : PySem.W.exmOne K (.ref C_NoRoom) (.ref C_BadWoods) = some false) (x_NoRoom_NoRoom : PySem.W.exmOne K (.ref C_NoRoom) (.ref C_NoRoom) = some true) : MetC P w K mg base "_law_met" "told" [(C_BadWoods, "woods", "thing"), (C_NoRoom, "room", "thing")] := by
  obtain ⟨g, fd, a, F⟩ := A.ex
  refine ⟨⟨g, s__law_met, fd, "_law_ask", "e", _, _, _, _, _, _, _, _, _, _, F, PySem.W.mg_of X G a, F.binds (ps := ["_law_ask"]) fun _ _ _ _ _ _ us hl => match us, hl with | [_], _ => rfl, sc__law_met, rfl, ?_, by decide, by decide, fun _ _ _ => rfl, fun X0 hN hs hm hK => ?_⟩, fun c hc c' hc' => ?_⟩
  · first | exact Or.inl rfl | exact Or.inr (Or.inl rfl) | exact Or.inr (Or.inr rfl)
  · have vis : Vis X0.env.scope "e" := by
      rw [hs]
      first | exact Or.inl rfl | exact Or.inr (Or.inl rfl) | exact Or.inr (Or.inr rfl)
    have at1 : X0.N[1]? = some ("e" : Str) := by rw [hN]; rfl
    subst hK
    exact (hd_met ⟨by unfold Gl Env.kindOf; rw [hs]; rfl, by decide, .inl (by rw [hm]; exact e_BadWoods.gm)⟩ e_BadWoods.xf (e_BadWoods.no _ (by simp)) at1 vis (hd_met ⟨by unfold Gl Env.kindOf; rw [hs]; rfl, by decide, .inl (by rw [hm]; exact e_NoRoom.gm)⟩ e_NoRoom.xf (e_NoRoom.no _ (by simp)) at1 vis .nil))
  · simp at hc hc'
    rcases hc with rfl | rfl <;> rcases hc' with rfl | rfl
    · simp [x_BadWoods_BadWoods]
    · simp [x_BadWoods_NoRoom, ne_BadWoods_NoRoom]
    · simp [x_NoRoom_BadWoods, ne_BadWoods_NoRoom.symm]
    · simp [x_NoRoom_NoRoom]
end
structure Ats (K : PySem.W.Frag) (mg : Str → Option Value) (C_House C_BadWoods C_NoRoom cL : Addr) : Prop where
  a__law_start : TopAt K "_law_start" s__law_start
  a__law_draw : TopAt K "_law_draw" s__law_draw
  a__law_mixed : TopAt K "_law_mixed" s__law_mixed
  a__law_h_names : TopAt K "_law_h_names" s__law_h_names
  a__law_h_doors : TopAt K "_law_h_doors" s__law_h_doors
  a__law_h_house : TopAt K "_law_h_house" s__law_h_house
  a_is_list : TopAt K "is_list" s_is_list
  a_is_name : TopAt K "is_name" s_is_name
  a_checked_rooms : TopAt K "checked_rooms" s_checked_rooms
  a_is_pair_of : TopAt K "is_pair_of" s_is_pair_of
  a_checked_doors : TopAt K "checked_doors" s_checked_doors
  a_House_init : MethAt K C_House "__init__" "House.__init__" s_House_init
  a__law_h_turned : TopAt K "_law_h_turned" s__law_h_turned
  a__law_h_woods : TopAt K "_law_h_woods" s__law_h_woods
  a__law_pick : TopAt K "_law_pick" s__law_pick
  a_House_len : MethAt K C_House "__len__" "House.__len__" s_House_len
  a_is_integer : TopAt K "is_integer" s_is_integer
  a_is_woods : TopAt K "is_woods" s_is_woods
  a__law_same : TopAt K "_law_same" s__law_same
  a_checked_woods : TopAt K "checked_woods" s_checked_woods
  a_checked_room : TopAt K "checked_room" s_checked_room
  a_walked : TopAt K "walked" s_walked
  a_way_of : TopAt K "way_of" s_way_of
  a_spread_of : TopAt K "spread_of" s_spread_of
  a_spread : TopAt K "spread" s_spread
  a__law_h_beside : TopAt K "_law_h_beside" s__law_h_beside
  a__law_h_way : TopAt K "_law_h_way" s__law_h_way
  a__law_spread : TopAt K "_law_spread" s__law_spread
  a__law_all_right : TopAt K "_law_all_right" s__law_all_right
  a__law_bent : TopAt K "_law_bent" s__law_bent
  a__law_refused_right : TopC K "_law_refused_right" s__law_refused_right (.ref cL)
  a_law : TopAt K "law" s_law
  a__law_met : TopAt K "_law_met" s__law_met
  e_BadWoods : ErrAt K mg "BadWoods" C_BadWoods "BadWoods.__init__" s_BadWoods_init ["thing"]
  e_NoRoom : ErrAt K mg "NoRoom" C_NoRoom "NoRoom.__init__" s_NoRoom_init ["thing"]
  ne_BadWoods_NoRoom : C_BadWoods ≠ C_NoRoom
  x_BadWoods_BadWoods : PySem.W.exmOne K (.ref C_BadWoods) (.ref C_BadWoods) = some true
  x_BadWoods_NoRoom : PySem.W.exmOne K (.ref C_BadWoods) (.ref C_NoRoom) = some false
  x_NoRoom_BadWoods : PySem.W.exmOne K (.ref C_NoRoom) (.ref C_BadWoods) = some false
  x_NoRoom_NoRoom : PySem.W.exmOne K (.ref C_NoRoom) (.ref C_NoRoom) = some true
  mgC : mg "House" = some (.ref C_House)
  mks : PySem.W.makesIn K C_House = true
  kc : PySem.W.keepIn K (.ref C_House) = true
section
variable {P : Program} {w : World} {K : PySem.W.Frag} {mg : Str → Option Value} {base h : Heap} {C_House C_BadWoods C_NoRoom cL PL : Addr} {ll : Str}
variable (X : K.In h) (G : h.Ns mainGlobals mg) (T : Txt K mg C_House) (A : Ats K mg C_House C_BadWoods C_NoRoom cL) (TB : LamX.TabB base mg cL PL) (hmL : (PL, ("_law_refused_right.<locals>.<lambda>" : Str)) ∈ LamT.L) (huL : ∀ p ∈ LamT.L, p.1 = PL → p.2 = ("_law_refused_right.<locals>.<lambda>" : Str))
include X G T A TB hmL huL
theorem c__law_start : DL.Callee P w K mg base "_law_start" 1 none (sp_start K) :=
  callee_mk X G A.a__law_start (fun f fd F => F.binds (ps := ["_law_script"]) fun _ _ _ _ _ _ us hl => match us, hl with | [_], _ => rfl) fun f fd F => d__law_start T  F (fun _ _ _ ⟨_, e, _⟩ => by rw [e]; rfl) fun _ _ _ q => plain_start q
theorem c__law_draw : DL.Callee P w K mg base "_law_draw" 1 (some 0) sp_draw :=
  callee_mk X G A.a__law_draw (fun f fd F => F.binds (ps := ["_law_stream", "_law_many"]) fun _ _ _ _ _ _ us hl => match us, hl with | [_, _], _ => rfl) fun f fd F => d__law_draw T  F (fun _ _ _ ⟨_, _, e, _⟩ => by rw [e]; rfl) fun _ _ _ q => plain_draw q
theorem c__law_mixed : DL.Callee P w K mg base "_law_mixed" 2 (some 0) sp_mixed :=
  callee_mk X G A.a__law_mixed (fun f fd F => F.binds (ps := ["_law_stream", "_law_some"]) fun _ _ _ _ _ _ us hl => match us, hl with | [_, _], _ => rfl) fun f fd F => d__law_mixed T (c__law_draw X G T A TB hmL huL) mono_draw F (fun _ _ _ ⟨_, _, e, _⟩ => by rw [e]; rfl) fun _ _ _ q => plain_mixed q
theorem c__law_h_names : DL.Callee P w K mg base "_law_h_names" 3 (some 0) sp_names :=
  callee_mk X G A.a__law_h_names (fun f fd F => F.binds (ps := ["_law_stream", "_law_many"]) fun _ _ _ _ _ _ us hl => match us, hl with | [_, _], _ => rfl) fun f fd F => d__law_h_names T (c__law_mixed X G T A TB hmL huL) mono_mixed F (fun _ _ _ ⟨_, _, e, _⟩ => by rw [e]; rfl) fun _ _ _ q => plain_names q
theorem c__law_h_doors : DL.Callee P w K mg base "_law_h_doors" 3 (some 0) sp_doors :=
  callee_mk X G A.a__law_h_doors (fun f fd F => F.binds (ps := ["_law_stream", "_law_rooms"]) fun _ _ _ _ _ _ us hl => match us, hl with | [_, _], _ => rfl) fun f fd F => d__law_h_doors T (c__law_draw X G T A TB hmL huL) mono_draw (c__law_mixed X G T A TB hmL huL) mono_mixed F (fun _ _ _ ⟨_, _, e, _⟩ => by rw [e]; rfl) fun _ _ _ q => plain_doors q
theorem c__law_h_house : DL.Callee P w K mg base "_law_h_house" 4 (some 0) sp_house0 :=
  callee_mk X G A.a__law_h_house (fun f fd F => F.binds (ps := ["_law_stream", "_law_most"]) fun _ _ _ _ _ _ us hl => match us, hl with | [_, _], _ => rfl) fun f fd F => d__law_h_house T (c__law_h_names X G T A TB hmL huL) mono_names (c__law_draw X G T A TB hmL huL) mono_draw (c__law_mixed X G T A TB hmL huL) mono_mixed (c__law_h_doors X G T A TB hmL huL) mono_doors F (fun _ _ _ ⟨_, _, e, _⟩ => by rw [e]; rfl) fun _ _ _ q => plain_house0 q
theorem c_is_list : DL.Callee P w K mg base "is_list" 1 none sp_is_list :=
  callee_mk X G A.a_is_list (fun f fd F => F.binds (ps := ["thing"]) fun _ _ _ _ _ _ us hl => match us, hl with | [_], _ => rfl) fun f fd F => d_is_list T  F (fun _ _ _ ⟨_, e, _⟩ => by rcases e with e | e <;> (rw [e]; rfl)) fun _ _ _ q => plain_is_list q
theorem c_is_name : DL.Callee P w K mg base "is_name" 1 none sp_is_name :=
  callee_mk X G A.a_is_name (fun f fd F => F.binds (ps := ["thing"]) fun _ _ _ _ _ _ us hl => match us, hl with | [_], _ => rfl) fun f fd F => d_is_name T  F (fun _ _ _ ⟨_, e, _⟩ => by rw [e]; rfl) fun _ _ _ q => plain_is_name q
theorem c_checked_rooms : DL.Callee P w K mg base "checked_rooms" 2 none sp_checked_rooms :=
  callee_mk X G A.a_checked_rooms (fun f fd F => F.binds (ps := ["rooms"]) fun _ _ _ _ _ _ us hl => match us, hl with | [_], _ => rfl) fun f fd F => d_checked_rooms T (c_is_list X G T A TB hmL huL) mono_is_list (c_is_name X G T A TB hmL huL) mono_is_name F (fun _ _ _ ⟨_, e, _⟩ => by rw [e]; rfl) fun _ _ _ q => plain_checked_rooms q
theorem c_is_pair_of : DL.Callee P w K mg base "is_pair_of" 2 none sp_is_pair_of :=
  callee_mk X G A.a_is_pair_of (fun f fd F => F.binds (ps := ["thing", "rooms"]) fun _ _ _ _ _ _ us hl => match us, hl with | [_, _], _ => rfl) fun f fd F => d_is_pair_of T (c_is_list X G T A TB hmL huL) mono_is_list F (fun _ _ _ ⟨_, _, _, e, _⟩ => by rw [e]; rfl) fun _ _ _ q => plain_is_pair_of q
theorem c_checked_doors : DL.Callee P w K mg base "checked_doors" 3 none sp_checked_doors :=
  callee_mk X G A.a_checked_doors (fun f fd F => F.binds (ps := ["doors", "rooms"]) fun _ _ _ _ _ _ us hl => match us, hl with | [_, _], _ => rfl) fun f fd F => d_checked_doors T (c_is_list X G T A TB hmL huL) mono_is_list (c_is_pair_of X G T A TB hmL huL) mono_is_pair_of F (fun _ _ _ ⟨_, _, e, _⟩ => by rw [e]; rfl) fun _ _ _ q => plain_checked_doors q
theorem c_House_init : DL.Maker P w K mg base "House" C_House 4 (sp_init C_House) :=
  maker_mk rfl A.mgC A.mks A.kc A.a_House_init (fun f fd F => F.binds (ps := ["self", "rooms", "doors"]) fun _ _ _ _ _ _ us hl => match us, hl with | [_, _, _], _ => rfl) fun f fd F => d_House_init T (c_checked_rooms X G T A TB hmL huL) mono_checked_rooms (c_checked_doors X G T A TB hmL huL) mono_checked_doors F (fun _ _ _ ⟨_, _, e, _⟩ => by rw [e]; rfl) fun _ _ _ q => plain_init q
theorem c__law_h_turned : DL.Callee P w K mg base "_law_h_turned" 3 (some 0) sp_turned :=
  callee_mk X G A.a__law_h_turned (fun f fd F => F.binds (ps := ["_law_stream", "_law_given"]) fun _ _ _ _ _ _ us hl => match us, hl with | [_, _], _ => rfl) fun f fd F => d__law_h_turned T (c__law_mixed X G T A TB hmL huL) mono_mixed F (fun _ _ _ ⟨_, _, _, e, _⟩ => by rw [e]; rfl) fun _ _ _ q => plain_turned q
theorem c__law_h_woods : DL.Callee P w K mg base "_law_h_woods" 2 (some 0) sp_woods :=
  callee_mk X G A.a__law_h_woods (fun f fd F => F.binds (ps := ["_law_stream", "_law_rooms", "_law_most"]) fun _ _ _ _ _ _ us hl => match us, hl with | [_, _, _], _ => rfl) fun f fd F => d__law_h_woods T (c__law_draw X G T A TB hmL huL) mono_draw F (fun _ _ _ ⟨_, _, _, e, _⟩ => by rw [e]; rfl) fun _ _ _ q => plain_woods q
theorem c__law_pick : DL.Callee P w K mg base "_law_pick" 2 (some 0) sp_pick :=
  callee_mk X G A.a__law_pick (fun f fd F => F.binds (ps := ["_law_stream", "_law_some"]) fun _ _ _ _ _ _ us hl => match us, hl with | [_, _], _ => rfl) fun f fd F => d__law_pick T (c__law_draw X G T A TB hmL huL) mono_draw F (fun _ _ _ ⟨_, _, e, _⟩ => by rw [e]; rfl) fun _ _ _ q => plain_pick q
theorem c_House_len : DL.CalleeM P w K mg base C_House "__len__" 1 (sp_len C_House) :=
  calleeM_mk T.cl_House A.a_House_len (fun f fd F => F.binds (ps := ["self"]) fun _ _ _ _ _ _ us hl => match us, hl with | [_], _ => rfl) fun f fd F => d_House_len T  F (fun _ _ _ ⟨_, _, e, _⟩ => by rw [e]; rfl) fun _ _ _ q => plain_len q
theorem c_is_integer : DL.Callee P w K mg base "is_integer" 1 none sp_int :=
  callee_mk X G A.a_is_integer (fun f fd F => F.binds (ps := ["thing"]) fun _ _ _ _ _ _ us hl => match us, hl with | [_], _ => rfl) fun f fd F => d_is_integer T  F (fun _ _ _ ⟨_, e, _⟩ => by rw [e]; rfl) fun _ _ _ q => plain_int q
theorem c_is_woods : DL.Callee P w K mg base "is_woods" 3 none (spT (sp_isw C_House)) :=
  callee_mk X G A.a_is_woods (fun f fd F => F.binds (ps := ["house", "thing"]) fun _ _ _ _ _ _ us hl => match us, hl with | [_, _], _ => rfl) fun f fd F => (d_is_woods (sp := (sp_isw C_House)) T (c_House_len X G T A TB hmL huL) mono_len' (c_is_integer X G T A TB hmL huL) mono_int F (fun _ _ _ ⟨_, _, _, e, _⟩ => by rw [e]; rfl) fun _ _ _ q => plain_isw q).unt
theorem c__law_same_0 : DL.Callee P w K mg base "_law_same" 1 none (sp_same 1) :=
  callee_mk X G A.a__law_same (fun f fd F => F.binds (ps := ["_law_found", "_law_due"]) fun _ _ _ _ _ _ us hl => match us, hl with | [_, _], _ => rfl) fun f fd F => d__law_same T (calleeF X G A.a__law_same (fun f fd F => F.binds (ps := ["_law_found", "_law_due"]) fun _ _ _ _ _ _ us hl => match us, hl with | [_, _], _ => rfl)) monoF F (fun _ _ _ ⟨_, e, _⟩ => by rw [e]; rfl) fun _ _ _ q => plain_same (fun _ _ _ h => same_none h) q
theorem c__law_same_1 : DL.Callee P w K mg base "_law_same" 2 none (sp_same 2) :=
  callee_mk X G A.a__law_same (fun f fd F => F.binds (ps := ["_law_found", "_law_due"]) fun _ _ _ _ _ _ us hl => match us, hl with | [_, _], _ => rfl) fun f fd F => d__law_same T (c__law_same_0 X G T A TB hmL huL) mono_same F (fun _ _ _ ⟨_, e, _⟩ => by rw [e]; rfl) fun _ _ _ q => plain_same (fun _ _ _ h => h) q
theorem c__law_same_2 : DL.Callee P w K mg base "_law_same" 3 none (sp_same 3) :=
  callee_mk X G A.a__law_same (fun f fd F => F.binds (ps := ["_law_found", "_law_due"]) fun _ _ _ _ _ _ us hl => match us, hl with | [_, _], _ => rfl) fun f fd F => d__law_same T (c__law_same_1 X G T A TB hmL huL) mono_same F (fun _ _ _ ⟨_, e, _⟩ => by rw [e]; rfl) fun _ _ _ q => plain_same (fun _ _ _ h => h) q
theorem c__law_same_3 : DL.Callee P w K mg base "_law_same" 4 none (sp_same 4) :=
  callee_mk X G A.a__law_same (fun f fd F => F.binds (ps := ["_law_found", "_law_due"]) fun _ _ _ _ _ _ us hl => match us, hl with | [_, _], _ => rfl) fun f fd F => d__law_same T (c__law_same_2 X G T A TB hmL huL) mono_same F (fun _ _ _ ⟨_, e, _⟩ => by rw [e]; rfl) fun _ _ _ q => plain_same (fun _ _ _ h => h) q
theorem c__law_same_4 : DL.Callee P w K mg base "_law_same" 5 none (sp_same 5) :=
  callee_mk X G A.a__law_same (fun f fd F => F.binds (ps := ["_law_found", "_law_due"]) fun _ _ _ _ _ _ us hl => match us, hl with | [_, _], _ => rfl) fun f fd F => d__law_same T (c__law_same_3 X G T A TB hmL huL) mono_same F (fun _ _ _ ⟨_, e, _⟩ => by rw [e]; rfl) fun _ _ _ q => plain_same (fun _ _ _ h => h) q
theorem c__law_same_5 : DL.Callee P w K mg base "_law_same" 6 none (sp_same 6) :=
  callee_mk X G A.a__law_same (fun f fd F => F.binds (ps := ["_law_found", "_law_due"]) fun _ _ _ _ _ _ us hl => match us, hl with | [_, _], _ => rfl) fun f fd F => d__law_same T (c__law_same_4 X G T A TB hmL huL) mono_same F (fun _ _ _ ⟨_, e, _⟩ => by rw [e]; rfl) fun _ _ _ q => plain_same (fun _ _ _ h => h) q
theorem c__law_same_6 : DL.Callee P w K mg base "_law_same" 7 none (sp_same 7) :=
  callee_mk X G A.a__law_same (fun f fd F => F.binds (ps := ["_law_found", "_law_due"]) fun _ _ _ _ _ _ us hl => match us, hl with | [_, _], _ => rfl) fun f fd F => d__law_same T (c__law_same_5 X G T A TB hmL huL) mono_same F (fun _ _ _ ⟨_, e, _⟩ => by rw [e]; rfl) fun _ _ _ q => plain_same (fun _ _ _ h => h) q
theorem c__law_same : DL.Callee P w K mg base "_law_same" 8 none (sp_same 8) :=
  callee_mk X G A.a__law_same (fun f fd F => F.binds (ps := ["_law_found", "_law_due"]) fun _ _ _ _ _ _ us hl => match us, hl with | [_, _], _ => rfl) fun f fd F => d__law_same T (c__law_same_6 X G T A TB hmL huL) mono_same F (fun _ _ _ ⟨_, e, _⟩ => by rw [e]; rfl) fun _ _ _ q => plain_same (fun _ _ _ h => h) q
theorem c_checked_woods : DL.Callee P w K mg base "checked_woods" 4 none (sp_cwT C_House C_BadWoods) :=
  callee_mk X G A.a_checked_woods (fun f fd F => F.binds (ps := ["house", "woods"]) fun _ _ _ _ _ _ us hl => match us, hl with | [_, _], _ => rfl) fun f fd F => d_checked_woods T (c_is_woods X G T A TB hmL huL) (mono_spT mono_isw) (err_BadWoods A.e_BadWoods) F (fun _ _ _ ⟨_, _, _, e, _⟩ => by rw [e]; rfl) fun _ _ _ q => plain_cwT q
theorem c_checked_room : DL.Callee P w K mg base "checked_room" 3 none (sp_room C_House C_NoRoom) :=
  callee_mk X G A.a_checked_room (fun f fd F => F.binds (ps := ["house", "room"]) fun _ _ _ _ _ _ us hl => match us, hl with | [_, _], _ => rfl) fun f fd F => d_checked_room T (err_NoRoom A.e_NoRoom) F (fun _ _ _ ⟨_, _, _, e, _⟩ => by rw [e]; rfl) fun _ _ _ q => plain_room q
theorem c_walked : DL.Callee P w K mg base "walked" 1 (some 2) (sp_walked C_House) :=
  callee_mk X G A.a_walked (fun f fd F => F.binds (ps := ["house", "start", "found"]) fun _ _ _ _ _ _ us hl => match us, hl with | [_, _, _], _ => rfl) fun f fd F => d_walked T  F (fun _ _ _ ⟨_, _, _, e, _⟩ => by rw [e]; rfl) fun _ _ _ q => plain_walked q
theorem c_way_of : DL.Callee P w K mg base "way_of" 2 none (sp_way_of C_House) :=
  callee_mk X G A.a_way_of (fun f fd F => F.binds (ps := ["house", "one", "other"]) fun _ _ _ _ _ _ us hl => match us, hl with | [_, _, _], _ => rfl) fun f fd F => d_way_of T (c_walked X G T A TB hmL huL) mono_walked F (fun _ _ _ ⟨_, _, _, _, e, _⟩ => by rw [e]; rfl) fun _ _ _ q => plain_way_of q
theorem c_spread_of : DL.Callee P w K mg base "spread_of" 3 none (sp_spread_of C_House) :=
  callee_mk X G A.a_spread_of (fun f fd F => F.binds (ps := ["house", "woods", "one", "other"]) fun _ _ _ _ _ _ us hl => match us, hl with | [_, _, _, _], _ => rfl) fun f fd F => d_spread_of T (c_way_of X G T A TB hmL huL) mono_way_of F (fun _ _ _ ⟨_, _, _, _, _, _, e, _⟩ => by rw [e]; rfl) fun _ _ _ q => plain_spread_of q
theorem c_spread : DL.Callee P w K mg base "spread" 5 none (sp_spr C_House C_BadWoods C_NoRoom) :=
  callee_mk X G A.a_spread (fun f fd F => F.binds (ps := ["house", "woods", "one", "other"]) fun _ _ _ _ _ _ us hl => match us, hl with | [_, _, _, _], _ => rfl) fun f fd F => d_spread T (c_checked_woods X G T A TB hmL huL) mono_cwT (c_checked_room X G T A TB hmL huL) mono_room (c_spread_of X G T A TB hmL huL) mono_spread_of F (fun _ _ _ ⟨_, _, _, _, _, e, _⟩ => by rw [e]; rfl) fun _ _ _ q => plain_spr q
theorem c__law_h_beside : DL.Callee P w K mg base "_law_h_beside" 1 none sp_beside :=
  callee_mk X G A.a__law_h_beside (fun f fd F => F.binds (ps := ["_law_doors", "_law_room"]) fun _ _ _ _ _ _ us hl => match us, hl with | [_, _], _ => rfl) fun f fd F => d__law_h_beside T  F (fun _ _ _ ⟨_, _, e, _⟩ => by rw [e]; rfl) fun _ _ _ q => plain_beside q
theorem c__law_h_way : DL.Callee P w K mg base "_law_h_way" 2 none sp_hway :=
  callee_mk X G A.a__law_h_way (fun f fd F => F.binds (ps := ["_law_doors", "_law_one", "_law_other"]) fun _ _ _ _ _ _ us hl => match us, hl with | [_, _, _], _ => rfl) fun f fd F => d__law_h_way T (c__law_h_beside X G T A TB hmL huL) mono_beside F (fun _ _ _ ⟨_, _, _, _, _, e, _⟩ => by rw [e]; rfl) fun _ _ _ q => plain_hway q
theorem c__law_spread : DL.Callee P w K mg base "_law_spread" 3 none sp_lspread :=
  callee_mk X G A.a__law_spread (fun f fd F => F.binds (ps := ["_law_doors", "_law_woods", "_law_one", "_law_other"]) fun _ _ _ _ _ _ us hl => match us, hl with | [_, _, _, _], _ => rfl) fun f fd F => d__law_spread T (c__law_h_way X G T A TB hmL huL) mono_hway F (fun _ _ _ ⟨_, _, _, _, _, _, _, e, _⟩ => by rw [e]; rfl) fun _ _ _ q => plain_lspread q
theorem c__law_all_right : DL.Callee P w K mg base "_law_all_right" 9 none (sp_right C_House) :=
  callee_mk X G A.a__law_all_right (fun f fd F => F.binds (ps := ["_law_house", "_law_rooms", "_law_doors", "_law_woods"]) fun _ _ _ _ _ _ us hl => match us, hl with | [_, _, _, _], _ => rfl) fun f fd F => d__law_all_right T (c__law_same X G T A TB hmL huL) mono_same (c_spread X G T A TB hmL huL) mono_spr (c__law_spread X G T A TB hmL huL) mono_lspread F (fun _ _ _ ⟨_, _, _, _, _, _, e, _⟩ => by rw [e]; rfl) fun _ _ _ q => plain_right q
theorem c__law_bent : DL.Callee P w K mg base "_law_bent" 3 (some 0) sp_bent :=
  callee_mk X G A.a__law_bent (fun f fd F => F.binds (ps := ["_law_stream", "_law_given"]) fun _ _ _ _ _ _ us hl => match us, hl with | [_, _], _ => rfl) fun f fd F => d__law_bent T (c__law_pick X G T A TB hmL huL) mono_pick F (fun _ _ _ ⟨_, _, _, e, _⟩ => by rw [e]; rfl) fun _ _ _ q => plain_bent q
theorem c__law_refused_right : DL.Callee P w K mg base "_law_refused_right" 9 (some 0) (sp_refused C_House) :=
  calleeC_mk X G A.a__law_refused_right (fun f fd F => F.binds (ps := ["_law_stream", "_law_house", "_law_rooms", "_law_woods"]) fun _ _ _ _ _ _ us hl => match us, hl with | [_, _, _, _], _ => rfl) fun f fd F => d__law_refused_right T (c__law_bent X G T A TB hmL huL) mono_bent (c_is_woods X G T A TB hmL huL) (mono_spT mono_isw) (c_spread X G T A TB hmL huL) mono_spr (c__law_same X G T A TB hmL huL) mono_same (met__law_met X G A.a__law_met A.e_BadWoods A.e_NoRoom A.ne_BadWoods_NoRoom A.x_BadWoods_BadWoods A.x_BadWoods_NoRoom A.x_NoRoom_BadWoods A.x_NoRoom_NoRoom) TB rfl (by decide +kernel) hmL huL F (fun _ _ _ ⟨_, _, _, _, _, _, _, e, _⟩ => by rw [e]; rfl) fun _ _ _ q => plain_refused A.ne_BadWoods_NoRoom q
theorem law_end {fa : Addr} (hfa : mg "law" = some (.ref fa)) : ∀ f fd, Fun K "law" "law" s_law f fd → fa = f → DL.FnOk P w K mg base (L2.CX P w) 10 fa fd ["_law_script"] (spOf none (sp_law K)) := fun f fd F e => by
  subst e
  exact d_law T (c__law_start X G T A TB hmL huL) mono_start (c__law_h_house X G T A TB hmL huL) mono_house0 (c_House_init X G T A TB hmL huL) mono_init (c__law_h_turned X G T A TB hmL huL) mono_turned (c__law_h_woods X G T A TB hmL huL) mono_woods (c__law_pick X G T A TB hmL huL) mono_pick (c_is_woods X G T A TB hmL huL) (mono_spT mono_isw) (c__law_all_right X G T A TB hmL huL) mono_right (c__law_refused_right X G T A TB hmL huL) mono_refused F (fun _ _ _ ⟨_, e, _⟩ => by rw [e]; rfl) fun _ _ _ q => plain_law (CW := C_BadWoods) (CN := C_NoRoom) q
end
end K06

/-! Zb: all that is looked up. -/
namespace K06
open PySem PySem.Spec PyProof.Rows L2 DL
theorem all_mk {P : Program} {w : World} {K : PySem.W.Frag} {h : Heap} {mg : Str → Option Value} {fa C_House C_BadWoods C_NoRoom cL PL : Addr} (X : K.In h) (G : h.Ns mainGlobals mg) (hfa : mg "law" = some (.ref fa))
    (aC : PySem.W.nsIn K mainGlobals "House" = some (some (.ref C_House))) (pg : PySem.W.plainGet K C_House Str.empty = true) (hd : PySem.W.hasDictIn K C_House = true) (po : PySem.W.plainOver K C_House = true) (sa : PySem.W.findIn K (.ref C_House) "__setattr__" = some (some (.builtin "object.__setattr__"))) (mks : PySem.W.makesIn K C_House = true) (kc : PySem.W.keepIn K (.ref C_House) = true)
    {t_m_FIGURES} (m_FIGURES : PySem.W.nsIn K mainGlobals "FIGURES" = some (some (.str "0123456789" t_m_FIGURES)))
    {t_m_SMALL} (m_SMALL : PySem.W.nsIn K mainGlobals "SMALL" = some (some (.str "abcdefghijklmnopqrstuvwxyz" t_m_SMALL)))
    (m_all : PySem.W.nsIn K mainGlobals "all" = some none)
    (m_bool : PySem.W.nsIn K mainGlobals "bool" = some none)
    (m_dict : PySem.W.nsIn K mainGlobals "dict" = some none)
    (m_enumerate : PySem.W.nsIn K mainGlobals "enumerate" = some none)
    (n_House_own_beside : PySem.W.findIn K (.ref C_House) "own_beside" = some none)
    (n_House_own_rooms : PySem.W.findIn K (.ref C_House) "own_rooms" = some none)
    (m_int : PySem.W.nsIn K mainGlobals "int" = some none)
    (m_isinstance : PySem.W.nsIn K mainGlobals "isinstance" = some none)
    (m_len : PySem.W.nsIn K mainGlobals "len" = some none)
    (m_list : PySem.W.nsIn K mainGlobals "list" = some none)
    (m_max : PySem.W.nsIn K mainGlobals "max" = some none)
    (m_range : PySem.W.nsIn K mainGlobals "range" = some none)
    (m_repr : PySem.W.nsIn K mainGlobals "repr" = some none)
    (m_sorted : PySem.W.nsIn K mainGlobals "sorted" = some none)
    (m_str : PySem.W.nsIn K mainGlobals "str" = some none)
    (m_sum : PySem.W.nsIn K mainGlobals "sum" = some none)
    (m_tuple : PySem.W.nsIn K mainGlobals "tuple" = some none)
    (m_zip : PySem.W.nsIn K mainGlobals "zip" = some none)
    (a__law_start : TopAt K "_law_start" s__law_start)
    (a__law_draw : TopAt K "_law_draw" s__law_draw)
    (a__law_mixed : TopAt K "_law_mixed" s__law_mixed)
    (a__law_h_names : TopAt K "_law_h_names" s__law_h_names)
    (a__law_h_doors : TopAt K "_law_h_doors" s__law_h_doors)
    (a__law_h_house : TopAt K "_law_h_house" s__law_h_house)
    (a_is_list : TopAt K "is_list" s_is_list)
    (a_is_name : TopAt K "is_name" s_is_name)
    (a_checked_rooms : TopAt K "checked_rooms" s_checked_rooms)
    (a_is_pair_of : TopAt K "is_pair_of" s_is_pair_of)
    (a_checked_doors : TopAt K "checked_doors" s_checked_doors)
    (a_House_init : MethAt K C_House "__init__" "House.__init__" s_House_init)
    (a__law_h_turned : TopAt K "_law_h_turned" s__law_h_turned)
    (a__law_h_woods : TopAt K "_law_h_woods" s__law_h_woods)
    (a__law_pick : TopAt K "_law_pick" s__law_pick)
    (a_House_len : MethAt K C_House "__len__" "House.__len__" s_House_len)
    (a_is_integer : TopAt K "is_integer" s_is_integer)
    (a_is_woods : TopAt K "is_woods" s_is_woods)
    (a__law_same : TopAt K "_law_same" s__law_same)
    (a_checked_woods : TopAt K "checked_woods" s_checked_woods)
    (a_checked_room : TopAt K "checked_room" s_checked_room)
    (a_walked : TopAt K "walked" s_walked)
    (a_way_of : TopAt K "way_of" s_way_of)
    (a_spread_of : TopAt K "spread_of" s_spread_of)
    (a_spread : TopAt K "spread" s_spread)
    (a__law_h_beside : TopAt K "_law_h_beside" s__law_h_beside)
    (a__law_h_way : TopAt K "_law_h_way" s__law_h_way)
    (a__law_spread : TopAt K "_law_spread" s__law_spread)
    (a__law_all_right : TopAt K "_law_all_right" s__law_all_right)
    (a__law_bent : TopAt K "_law_bent" s__law_bent)
    (a__law_refused_right : TopC K "_law_refused_right" s__law_refused_right (.ref cL))
    (a_law : TopAt K "law" s_law)
    (a__law_met : TopAt K "_law_met" s__law_met)
    (e_BadWoods : ErrAt K mg "BadWoods" C_BadWoods "BadWoods.__init__" s_BadWoods_init ["thing"])
    (e_NoRoom : ErrAt K mg "NoRoom" C_NoRoom "NoRoom.__init__" s_NoRoom_init ["thing"])
    (ne_BadWoods_NoRoom : C_BadWoods ≠ C_NoRoom)
    (x_BadWoods_BadWoods : PySem.W.subIn K (.ref C_BadWoods) (.ref C_BadWoods) = some true)
    (x_BadWoods_NoRoom : PySem.W.subIn K (.ref C_BadWoods) (.ref C_NoRoom) = some false)
    (x_NoRoom_BadWoods : PySem.W.subIn K (.ref C_NoRoom) (.ref C_BadWoods) = some false)
    (x_NoRoom_NoRoom : PySem.W.subIn K (.ref C_NoRoom) (.ref C_NoRoom) = some true)
    {e0 : Value} {dd0 : Option Addr} {vs0 : Array Value} {sl0 : Array (Option Value)} (lc : K.lookup cL = some ⟨e0, dd0, .fields vs0, sl0⟩) (hp : vs0[11]? = some (.ref PL)) (tK : K.lookup PL = none)
    : ∃ (c tp : Addr) (fd : FuncData), PySem.W.tabIn K "_law_refused_right" = some (c, tp) ∧ K.lookup tp = none ∧ (∀ (s : Shared) (u : Value), BindsTo s fd ⟨[u], []⟩ [("_law_script", u)]) ∧
        ∀ base : Heap, K.In base → base.Ns mainGlobals mg → LamX.TabB base mg c tp → DL.FnOk P w K mg base (L2.CX P w) 10 fa fd ["_law_script"] (@spOf ⟨[(tp, ("_law_refused_right.<locals>.<lambda>" : Str))]⟩ none (sp_law K)) := by
  obtain ⟨f, fd, a, F⟩ := a_law.ex
  have e := hfa.symm.trans (PySem.W.mg_of X G a)
  cases e
  have bd : ∀ (s : Shared) (v : Value), BindsTo s fd ⟨[v], []⟩ [("_law_script", v)] := by
    obtain ⟨oc, od, kV, doc, pm, an, cdv, ct, osl, e2, lk, hcd⟩ := F.ex
    rw [e2]
    exact fun s v => .of_eq rfl
  refine ⟨cL, PL, fd, tab_mk a__law_refused_right lc hp, tK, bd, fun base _ _ TB => ?_⟩
  letI : LamT := ⟨[(PL, ("_law_refused_right.<locals>.<lambda>" : Str))]⟩
  exact law_end X G ⟨⟨pg, hd, po, sa⟩, str_mk X G m_FIGURES, str_mk X G m_SMALL, PySem.W.mg_none_of X G m_all, PySem.W.mg_none_of X G m_bool, PySem.W.mg_none_of X G m_dict, PySem.W.mg_none_of X G m_enumerate, n_House_own_beside, n_House_own_rooms, PySem.W.mg_none_of X G m_int, PySem.W.mg_none_of X G m_isinstance, PySem.W.mg_none_of X G m_len, PySem.W.mg_none_of X G m_list, PySem.W.mg_none_of X G m_max, PySem.W.mg_none_of X G m_range, PySem.W.mg_none_of X G m_repr, PySem.W.mg_none_of X G m_sorted, PySem.W.mg_none_of X G m_str, PySem.W.mg_none_of X G m_sum, PySem.W.mg_none_of X G m_tuple, PySem.W.mg_none_of X G m_zip⟩ ⟨a__law_start, a__law_draw, a__law_mixed, a__law_h_names, a__law_h_doors, a__law_h_house, a_is_list, a_is_name, a_checked_rooms, a_is_pair_of, a_checked_doors, a_House_init, a__law_h_turned, a__law_h_woods, a__law_pick, a_House_len, a_is_integer, a_is_woods, a__law_same, a_checked_woods, a_checked_room, a_walked, a_way_of, a_spread_of, a_spread, a__law_h_beside, a__law_h_way, a__law_spread, a__law_all_right, a__law_bent, a__law_refused_right, a_law, a__law_met, e_BadWoods, e_NoRoom, ne_BadWoods_NoRoom, exm_at e_BadWoods x_BadWoods_BadWoods, exm_at e_NoRoom x_BadWoods_NoRoom, exm_at e_BadWoods x_NoRoom_BadWoods, exm_at e_NoRoom x_NoRoom_NoRoom, PySem.W.mg_of X G aC, mks, kc⟩ TB (List.mem_singleton.mpr rfl) (fun p hp _ => by rw [List.mem_singleton.mp hp]) hfa _ _ F rfl
end K06

open PySem PySem.W PyProof.Rows
set_option maxRecDepth 100000 in
set_option maxHeartbeats 0 in
theorem PySem.Challenge.cw_hearths_k03_whole_woods_and_spread_holds : PySem.Challenge.rw_hearths_k03_whole_woods_and_spread.Holds := by
  w_on; o_law; k_head; (case hw => w_witness2)
  k_fill
  refine DL.walk (dn := "_law_refused_right") (NM := "_law_refused_right.<locals>.<lambda>") (LVL := 10) (by decide) (l := PySem.Challenge.rw_hearths_k03_whole_woods_and_spread) rfl rfl (by kernel_rfl) (fun w h Y => PySem.W.km_in_of Y) ?F
  case F =>
    intro w mg fa h KX G hmg
    refine' K06.all_mk KX G hmg ?aC ?pg ?hd ?po ?sa ?mks ?kc ?m_FIGURES ?m_SMALL ?m_all ?m_bool ?m_dict ?m_enumerate ?n_House_own_beside ?n_House_own_rooms ?m_int ?m_isinstance ?m_len ?m_list ?m_max ?m_range ?m_repr ?m_sorted ?m_str ?m_sum ?m_tuple ?m_zip ?a__law_start ?a__law_draw ?a__law_mixed ?a__law_h_names ?a__law_h_doors ?a__law_h_house ?a_is_list ?a_is_name ?a_checked_rooms ?a_is_pair_of ?a_checked_doors ?a_House_init ?a__law_h_turned ?a__law_h_woods ?a__law_pick ?a_House_len ?a_is_integer ?a_is_woods ?a__law_same ?a_checked_woods ?a_checked_room ?a_walked ?a_way_of ?a_spread_of ?a_spread ?a__law_h_beside ?a__law_h_way ?a__law_spread ?a__law_all_right ?a__law_bent ?a__law_refused_right ?a_law ?a__law_met ?e_BadWoods ?e_NoRoom ?ne_BadWoods_NoRoom ?x_BadWoods_BadWoods ?x_BadWoods_NoRoom ?x_NoRoom_BadWoods ?x_NoRoom_NoRoom ?lc ?hp ?tK
    (case aC => k_is)
    (case pg => k_is); (case hd => k_is); (case po => k_is); (case sa => k_is); (case mks => k_is); (case kc => k_is); (case m_FIGURES => k_is); (case m_SMALL => k_is); (case m_all => k_is); (case m_bool => k_is); (case m_dict => k_is); (case m_enumerate => k_is); (case n_House_own_beside => k_is); (case n_House_own_rooms => k_is); (case m_int => k_is); (case m_isinstance => k_is); (case m_len => k_is); (case m_list => k_is); (case m_max => k_is); (case m_range => k_is); (case m_repr => k_is); (case m_sorted => k_is); (case m_str => k_is); (case m_sum => k_is); (case m_tuple => k_is); (case m_zip => k_is)
    (case a__law_start => refine' DL.top_mk ?a ?l ?c ?k; (case a => k_is); (case l => k_is); (case c => k_is); (case k => k_is))
    (case a__law_draw => refine' DL.top_mk ?a ?l ?c ?k; (case a => k_is); (case l => k_is); (case c => k_is); (case k => k_is))
    (case a__law_mixed => refine' DL.top_mk ?a ?l ?c ?k; (case a => k_is); (case l => k_is); (case c => k_is); (case k => k_is))
    (case a__law_h_names => refine' DL.top_mk ?a ?l ?c ?k; (case a => k_is); (case l => k_is); (case c => k_is); (case k => k_is))
    (case a__law_h_doors => refine' DL.top_mk ?a ?l ?c ?k; (case a => k_is); (case l => k_is); (case c => k_is); (case k => k_is))
    (case a__law_h_house => refine' DL.top_mk ?a ?l ?c ?k; (case a => k_is); (case l => k_is); (case c => k_is); (case k => k_is))
    (case a_is_list => refine' DL.top_mk ?a ?l ?c ?k; (case a => k_is); (case l => k_is); (case c => k_is); (case k => k_is))
    (case a_is_name => refine' DL.top_mk ?a ?l ?c ?k; (case a => k_is); (case l => k_is); (case c => k_is); (case k => k_is))
    (case a_checked_rooms => refine' DL.top_mk ?a ?l ?c ?k; (case a => k_is); (case l => k_is); (case c => k_is); (case k => k_is))
    (case a_is_pair_of => refine' DL.top_mk ?a ?l ?c ?k; (case a => k_is); (case l => k_is); (case c => k_is); (case k => k_is))
    (case a_checked_doors => refine' DL.top_mk ?a ?l ?c ?k; (case a => k_is); (case l => k_is); (case c => k_is); (case k => k_is))
    (case a_House_init => refine' DL.meth_mk ?a ?i ?l ?c ?k; (case a => k_is); (case i => k_is); (case l => k_is); (case c => k_is); (case k => k_is))
    (case a__law_h_turned => refine' DL.top_mk ?a ?l ?c ?k; (case a => k_is); (case l => k_is); (case c => k_is); (case k => k_is))
    (case a__law_h_woods => refine' DL.top_mk ?a ?l ?c ?k; (case a => k_is); (case l => k_is); (case c => k_is); (case k => k_is))
    (case a__law_pick => refine' DL.top_mk ?a ?l ?c ?k; (case a => k_is); (case l => k_is); (case c => k_is); (case k => k_is))
    (case a_House_len => refine' DL.meth_mk ?a ?i ?l ?c ?k; (case a => k_is); (case i => k_is); (case l => k_is); (case c => k_is); (case k => k_is))
    (case a_is_integer => refine' DL.top_mk ?a ?l ?c ?k; (case a => k_is); (case l => k_is); (case c => k_is); (case k => k_is))
    (case a_is_woods => refine' DL.top_mk ?a ?l ?c ?k; (case a => k_is); (case l => k_is); (case c => k_is); (case k => k_is))
    (case a__law_same => refine' DL.top_mk ?a ?l ?c ?k; (case a => k_is); (case l => k_is); (case c => k_is); (case k => k_is))
    (case a_checked_woods => refine' DL.top_mk ?a ?l ?c ?k; (case a => k_is); (case l => k_is); (case c => k_is); (case k => k_is))
    (case a_checked_room => refine' DL.top_mk ?a ?l ?c ?k; (case a => k_is); (case l => k_is); (case c => k_is); (case k => k_is))
    (case a_walked => refine' DL.top_mk ?a ?l ?c ?k; (case a => k_is); (case l => k_is); (case c => k_is); (case k => k_is))
    (case a_way_of => refine' DL.top_mk ?a ?l ?c ?k; (case a => k_is); (case l => k_is); (case c => k_is); (case k => k_is))
    (case a_spread_of => refine' DL.top_mk ?a ?l ?c ?k; (case a => k_is); (case l => k_is); (case c => k_is); (case k => k_is))
    (case a_spread => refine' DL.top_mk ?a ?l ?c ?k; (case a => k_is); (case l => k_is); (case c => k_is); (case k => k_is))
    (case a__law_h_beside => refine' DL.top_mk ?a ?l ?c ?k; (case a => k_is); (case l => k_is); (case c => k_is); (case k => k_is))
    (case a__law_h_way => refine' DL.top_mk ?a ?l ?c ?k; (case a => k_is); (case l => k_is); (case c => k_is); (case k => k_is))
    (case a__law_spread => refine' DL.top_mk ?a ?l ?c ?k; (case a => k_is); (case l => k_is); (case c => k_is); (case k => k_is))
    (case a__law_all_right => refine' DL.top_mk ?a ?l ?c ?k; (case a => k_is); (case l => k_is); (case c => k_is); (case k => k_is))
    (case a__law_bent => refine' DL.top_mk ?a ?l ?c ?k; (case a => k_is); (case l => k_is); (case c => k_is); (case k => k_is))
    (case a__law_refused_right => refine' DL.topC_mk ?a ?l ?c ?k; (case a => k_is); (case l => k_is); (case c => k_is); (case k => k_is))
    (case a_law => refine' DL.top_mk ?a ?l ?c ?k; (case a => k_is); (case l => k_is); (case c => k_is); (case k => k_is))
    (case a__law_met => refine' DL.top_mk ?a ?l ?c ?k; (case a => k_is); (case l => k_is); (case c => k_is); (case k => k_is))
    (case e_BadWoods => refine' DL.err_mk KX G ?m ?c0 ?c1 ?sa ?ex ?ty ?kC ?ga ?gg ?hd ?no ?a ?i ?l ?c ?k; (case m => k_is); (case c0 => k_is); (case c1 => decide +kernel); (case sa => k_is); (case ex => k_is); (case ty => k_is); (case kC => k_is); (case ga => k_is); (case gg => k_is); (case hd => k_is); (case no => intro g hg; rw [List.mem_singleton.mp hg]; k_is); (case a => k_is); (case i => k_is); (case l => k_is); (case c => k_is); (case k => k_is))
    (case e_NoRoom => refine' DL.err_mk KX G ?m ?c0 ?c1 ?sa ?ex ?ty ?kC ?ga ?gg ?hd ?no ?a ?i ?l ?c ?k; (case m => k_is); (case c0 => k_is); (case c1 => decide +kernel); (case sa => k_is); (case ex => k_is); (case ty => k_is); (case kC => k_is); (case ga => k_is); (case gg => k_is); (case hd => k_is); (case no => intro g hg; rw [List.mem_singleton.mp hg]; k_is); (case a => k_is); (case i => k_is); (case l => k_is); (case c => k_is); (case k => k_is))
    (case ne_BadWoods_NoRoom => decide)
    (case x_BadWoods_BadWoods => k_is)
    (case x_BadWoods_NoRoom => k_is)
    (case x_NoRoom_BadWoods => k_is)
    (case x_NoRoom_NoRoom => k_is)
    (case lc => k_is)
    (case hp => first | rfl | decide | k_is)
    (case tK => first | k_is | kernel_rfl | decide)
