import PyProof.Rows.All
import Wide.All
import OpenK.AllK
import Wide.FinOn
import HandS.ForMost
import HandS.HeadHook1
import HandS.Wide
import HandS.Deep
import HandS.TupAny
import HandS.TupMul
import HandS.Style
import HandS.NoneIn
import HandS.Zip
import HandS.Rev
import HandS.IsInst
import HandS.Gcd
import HandS.SortInts
import HandS.SortRule
import HandS.Conv
import KE.OsSort
import HandS.ForExc
import HandS.CallSlots
import HandS.ExcInit
import HandS.TryOnly
import KE.GoesMore
import KE.GoesEnum
import HandS.Iter
import HandS.ExcField
import KE.KExcIs
import HandS.Small
import HandS.WordsExc
import HandS.HotCalls
import PyProof.InstEq
import KE.KOpsOwn
import HandS.Dict
import HandS.More
import HandS.Defaults
import HandS.MakeKwOnly
import HandS.HeadHook2
import HandS.Head0
import HandS.Head1
import HandS.Head2
import HandS.HeadEnd
import HandS.HeadWalk
import PySem.Challenge.RW_tonesalike_k08_plan_checked
set_option Elab.async false
set_option linter.all false
set_option maxRecDepth 100000
set_option maxHeartbeats 4000000
/-! Ev, part A: data trees, what represents them in an abstract heap, ownership, the ghost state. -/
namespace Ev
open PySem PySem.Spec L2
inductive D where
  | non | bl (b : Bool) | int (i : Int) | str (s : Str)
  | tup (l : List D) | lst (l : List D) | ro (l : List D) | rot (l : List D)
  | ins (c : String) (ns : List String) (ds : List D)
  | dic (t : Bool) (ks vs : List D)
  | exn (c : String) (ns : List String) (ds : List D)
  | slf (c : String) (at_ : Nat) (ns : List String) (ds : List D)
  deriving Inhabited
/-- the tracked heap below another -/
abbrev Sub (H H' : Hp) : Prop := ∀ a o, H a = some o → H' a = some o
theorem Sub.rfl {H : Hp} : Sub H H := fun _ _ h => h
theorem Sub.tr {H H1 H2 : Hp} (a : Sub H H1) (b : Sub H1 H2) : Sub H H2 := fun c o h => b c o (a c o h)
theorem subUpd {H : Hp} {a : Addr} {o : HO} (h : H a = none) : Sub H (upd H a o) := fun b u e => by
  rw [upd_ne (ne_of_none e h)]; exact e
theorem Sub.sqL {K : PySem.W.Frag} {H H' : Hp} {a : Addr} {xs : List V} (s : Sub H H') (h : SqL K H a xs) : SqL K H' a xs := by
  rcases h with (h | ⟨o, h⟩) | h
  · exact .inl (.inl (s _ _ h))
  · exact .inl (.inr ⟨o, s _ _ h⟩)
  · exact .inr h
theorem Sub.sqT {K : PySem.W.Frag} {H H' : Hp} {a : Addr} {xs : List V} (s : Sub H H') (h : SqT K H a xs) : SqT K H' a xs := by
  rcases h with (h | ⟨o, h⟩) | h
  · exact .inl (.inl (s _ _ h))
  · exact .inl (.inr ⟨o, s _ _ h⟩)
  · exact .inr h
def cap : Nat := 16777216
theorem cap_eq : cap = sizeLine := by rw [sizeLine_eq]; rfl
def zipF (ns : List String) (vs : List V) : List (Str × V) := (ns.map Str.ofString).zip vs
/-- v stands for the key k of a dict -/
def keyOf : D → Option Key
  | .int i => some (.inl i)
  | .str s => some (.inr s)
  | _ => none
def keysG {κ : Type} (f : D → Option κ) : List D → Option (List κ)
  | [] => some []
  | d :: r => match f d, keysG f r with
    | some k, some ks => some (k :: ks)
    | _, _ => none
abbrev keysOf : List D → Option (List Key) := keysG keyOf
/-- keys of one kind: ints and texts | tuples of these -/
def keyT : D → Option (List Key)
  | .tup l => keysOf l
  | _ => none
abbrev keysT : List D → Option (List (List Key)) := keysG keyT
mutual
/-- v is the datum d in S -/
def Rp (K : PySem.W.Frag) (S : Hp) : D → V → Prop
  | .non, v => v = .non
  | .bl b, v => v = .bl b
  | .int i, v => v = .int i
  | .str s, v => v = .str s
  | .tup l, v => ∃ a vs, v = .ref a ∧ S a = some (.tup vs) ∧ vs.length ≤ cap ∧ RpL K S l vs
  | .rot l, v => ∃ a vs, v = .ref a ∧ SqT K S a vs ∧ vs.length ≤ cap ∧ RpL K S l vs
  | .lst l, v => ∃ a vs, v = .ref a ∧ S a = some (.lst vs) ∧ vs.length ≤ cap ∧ RpL K S l vs
  | .ro l, v => ∃ a vs, v = .ref a ∧ SqL K S a vs ∧ vs.length ≤ cap ∧ RpL K S l vs
  | .ins c ns ds, v => ∃ a dx vs, v = .ref a ∧ S a = some (.ins (He.ga K c) dx (zipF ns vs)) ∧ ns.length = vs.length ∧ ns.length ≤ 900 ∧ RpL K S ds vs
  | .dic false ks ds, v => ∃ a vs kk, v = .ref a ∧ RpL K S ds vs ∧ ks.length = vs.length ∧ vs.length ≤ cap ∧ keysOf ks = some kk ∧ S a = some (.dK (kk.zip vs))
  | .dic true ks ds, v => ∃ a vs kk, v = .ref a ∧ RpL K S ds vs ∧ ks.length = vs.length ∧ vs.length ≤ cap ∧ keysT ks = some kk ∧ S a = some (.dT (kk.zip vs))
  | .exn _ _ _, _ => True
  | .slf c a ns ds, v => v = .ref a ∧ ∃ dx vs, S a = some (.ins (He.ga K c) dx (zipF ns vs)) ∧ ns.length = vs.length ∧ ns.length ≤ 900 ∧ RpL K S ds vs
def RpL (K : PySem.W.Frag) (S : Hp) : List D → List V → Prop
  | [], vs => vs = []
  | d :: ds, vs => ∃ v r, vs = v :: r ∧ Rp K S d v ∧ RpL K S ds r
end
section
variable {K : PySem.W.Frag} {S S' H H' T : Hp}
mutual
theorem Rp.mono (s : Sub S S') : ∀ (d : D) (v : V), Rp K S d v → Rp K S' d v
  | .non, v, h => by simpa only [Rp] using h
  | .bl b, v, h => by simpa only [Rp] using h
  | .int i, v, h => by simpa only [Rp] using h
  | .str x, v, h => by simpa only [Rp] using h
  | .tup l, v, h => by
    simp only [Rp] at h ⊢
    obtain ⟨a, vs, e, q, z, r⟩ := h
    exact ⟨a, vs, e, s _ _ q, z, RpL.mono s l vs r⟩
  | .rot l, v, h => by
    simp only [Rp] at h ⊢
    obtain ⟨a, vs, e, q, z, r⟩ := h
    exact ⟨a, vs, e, s.sqT q, z, RpL.mono s l vs r⟩
  | .lst l, v, h => by
    simp only [Rp] at h ⊢
    obtain ⟨a, vs, e, q, z, r⟩ := h
    exact ⟨a, vs, e, s _ _ q, z, RpL.mono s l vs r⟩
  | .ro l, v, h => by
    simp only [Rp] at h ⊢
    obtain ⟨a, vs, e, q, z, r⟩ := h
    exact ⟨a, vs, e, s.sqL q, z, RpL.mono s l vs r⟩
  | .ins c ns ds, v, h => by
    simp only [Rp] at h ⊢
    obtain ⟨a, dx, vs, e, q, z, z2, r⟩ := h
    exact ⟨a, dx, vs, e, s _ _ q, z, z2, RpL.mono s ds vs r⟩
  | .dic false ks ds, v, h => by
    simp only [Rp] at h ⊢
    obtain ⟨a, vs, kk, e, r, z, z2, q1, q2⟩ := h
    exact ⟨a, vs, kk, e, RpL.mono s ds vs r, z, z2, q1, s _ _ q2⟩
  | .dic true ks ds, v, h => by
    simp only [Rp] at h ⊢
    obtain ⟨a, vs, kk, e, r, z, z2, q1, q2⟩ := h
    exact ⟨a, vs, kk, e, RpL.mono s ds vs r, z, z2, q1, s _ _ q2⟩
  | .exn _ _ _, v, h => by simp only [Rp]
  | .slf c b ns ds, v, h => by
    simp only [Rp] at h ⊢
    obtain ⟨e, dx, vs, q, z, z2, r⟩ := h
    exact ⟨e, dx, vs, s _ _ q, z, z2, RpL.mono s ds vs r⟩
theorem RpL.mono (s : Sub S S') : ∀ (ds : List D) (vs : List V), RpL K S ds vs → RpL K S' ds vs
  | [], vs, h => by simpa only [RpL] using h
  | d :: ds, vs, h => by
    simp only [RpL] at h ⊢
    obtain ⟨v, r, e, h1, h2⟩ := h
    exact ⟨v, r, e, Rp.mono s d v h1, RpL.mono s ds r h2⟩
end
theorem RpL.length : ∀ {ds : List D} {vs : List V}, RpL K S ds vs → ds.length = vs.length
  | [], vs, h => by simp only [RpL] at h; subst h; rfl
  | d :: ds, vs, h => by
    simp only [RpL] at h
    obtain ⟨v, r, e, _, h2⟩ := h
    subst e
    rw [List.length_cons, List.length_cons, RpL.length h2]
theorem RpL.get : ∀ {ds : List D} {vs : List V} {i : Nat} {d : D}, RpL K S ds vs → ds[i]? = some d → ∃ v, vs[i]? = some v ∧ Rp K S d v
  | [], _, _, _, _, e => by simp at e
  | d :: ds, vs, 0, x, h, e => by
    simp only [RpL] at h
    obtain ⟨v, r, e1, h1, h2⟩ := h
    subst e1
    simp at e
    subst e
    exact ⟨v, rfl, h1⟩
  | d :: ds, vs, i + 1, x, h, e => by
    simp only [RpL] at h
    obtain ⟨v, r, e1, h1, h2⟩ := h
    subst e1
    simp at e
    obtain ⟨w, e2, h3⟩ := RpL.get h2 e
    exact ⟨w, by simpa using e2, h3⟩
theorem RpL.getV {ds : List D} {vs : List V} {i : Nat} {v : V} (h : RpL K S ds vs) (e : vs[i]? = some v) : ∃ d, ds[i]? = some d ∧ Rp K S d v := by
  have hl := h.length
  have hi : i < ds.length := by
    rw [hl]
    exact (List.getElem?_eq_some_iff.mp e).1
  obtain ⟨w, e2, r⟩ := h.get (List.getElem?_eq_getElem hi)
  rw [e] at e2
  cases e2
  exact ⟨_, List.getElem?_eq_getElem hi, r⟩
theorem RpL.nil : RpL K S [] [] := by simp only [RpL]
theorem RpL.cons {d : D} {ds : List D} {v : V} {vs : List V} (h : Rp K S d v) (r : RpL K S ds vs) : RpL K S (d :: ds) (v :: vs) := by
  simp only [RpL]
  exact ⟨v, vs, rfl, h, r⟩
theorem RpL.nil_inv {vs : List V} (h : RpL K S [] vs) : vs = [] := by simpa only [RpL] using h
theorem RpL.cons_inv {d : D} {ds : List D} {vs : List V} (h : RpL K S (d :: ds) vs) : ∃ v r, vs = v :: r ∧ Rp K S d v ∧ RpL K S ds r := by simpa only [RpL] using h
theorem RpL.append : ∀ {ds es : List D} {vs ws : List V}, RpL K S ds vs → RpL K S es ws → RpL K S (ds ++ es) (vs ++ ws)
  | [], es, vs, ws, h, q => by rw [h.nil_inv]; exact q
  | d :: ds, es, vs, ws, h, q => by
    obtain ⟨v, r, e, h1, h2⟩ := h.cons_inv
    subst e
    exact .cons h1 (RpL.append h2 q)
theorem RpL.take : ∀ {ds : List D} {vs : List V} (n : Nat), RpL K S ds vs → RpL K S (ds.take n) (vs.take n)
  | _, _, 0, _ => by simpa using RpL.nil
  | [], vs, n + 1, h => by rw [h.nil_inv]; simpa using RpL.nil
  | d :: ds, vs, n + 1, h => by
    obtain ⟨v, r, e, h1, h2⟩ := h.cons_inv
    subst e
    exact .cons h1 (RpL.take n h2)
theorem RpL.drop : ∀ {ds : List D} {vs : List V} (n : Nat), RpL K S ds vs → RpL K S (ds.drop n) (vs.drop n)
  | _, _, 0, h => h
  | [], vs, n + 1, h => by rw [h.nil_inv]; simpa using RpL.nil
  | d :: ds, vs, n + 1, h => by
    obtain ⟨v, r, e, h1, h2⟩ := h.cons_inv
    subst e
    exact RpL.drop n h2
theorem RpL.reverse : ∀ {ds : List D} {vs : List V}, RpL K S ds vs → RpL K S ds.reverse vs.reverse
  | [], vs, h => by rw [h.nil_inv]; simpa using RpL.nil
  | d :: ds, vs, h => by
    obtain ⟨v, r, e, h1, h2⟩ := h.cons_inv
    subst e
    rw [List.reverse_cons, List.reverse_cons]
    exact (RpL.reverse h2).append (.cons h1 .nil)
/-! ### ownership -/
inductive All3 (P : D → V → List Addr → Prop) : List D → List V → List (List Addr) → Prop
  | nil : All3 P [] [] []
  | cons {d v f ds vs fs} : P d v f → All3 P ds vs fs → All3 P (d :: ds) (v :: vs) (f :: fs)
theorem All3.imp {P Q : D → V → List Addr → Prop} : ∀ {ds vs fs}, All3 P ds vs fs → (∀ d v f, f ∈ fs → P d v f → Q d v f) → All3 Q ds vs fs
  | _, _, _, .nil, _ => .nil
  | _, _, _, .cons h r, k => .cons (k _ _ _ List.mem_cons_self h) (All3.imp r fun d v f m => k d v f (List.mem_cons_of_mem _ m))
theorem All3.len {P : D → V → List Addr → Prop} : ∀ {ds vs fs}, All3 P ds vs fs → ds.length = vs.length ∧ ds.length = fs.length
  | _, _, _, .nil => ⟨rfl, rfl⟩
  | _, _, _, .cons _ r => by
    have := All3.len r
    simp only [List.length_cons]
    omega
/-- v is the datum d at the objects fp, which are owned to the depth n; below it stands in S -/
def Own (K : PySem.W.Frag) (S H : Hp) : Nat → D → V → List Addr → Prop
  | 0, d, v, fp => fp = [] ∧ Rp K S d v
  | n + 1, .lst l, v, fp => ∃ a vs fps, v = .ref a ∧ H a = some (.lst vs) ∧ vs.length ≤ cap ∧ All3 (Own K S H n) l vs fps ∧ fp = a :: fps.flatten
  | _ + 1, .dic false ks ds, v, fp => ∃ a vs kk, v = .ref a ∧ fp = [a] ∧ RpL K S ds vs ∧ ks.length = vs.length ∧ vs.length ≤ cap ∧ keysOf ks = some kk ∧ H a = some (.dK (kk.zip vs))
  | _ + 1, .dic true ks ds, v, fp => ∃ a vs kk, v = .ref a ∧ fp = [a] ∧ RpL K S ds vs ∧ ks.length = vs.length ∧ vs.length ≤ cap ∧ keysT ks = some kk ∧ H a = some (.dT (kk.zip vs))
  | _ + 1, .ins c ns ds, v, fp => ∃ a dx vs, v = .ref a ∧ fp = [a] ∧ H a = some (.ins (He.ga K c) dx (zipF ns vs)) ∧ ns.length = vs.length ∧ ns.length ≤ 900 ∧ RpL K S ds vs
  | _ + 1, .slf c a ns ds, v, fp => v = .ref a ∧ fp = [a] ∧ ∃ dx vs, H a = some (.ins (He.ga K c) dx (zipF ns vs)) ∧ ns.length = vs.length ∧ ns.length ≤ 900 ∧ RpL K S ds vs
  | _ + 1, d, v, fp => fp = [] ∧ Rp K S d v
theorem Own.zero {d : D} {v : V} {fp : List Addr} (h : Own K S H 0 d v fp) : fp = [] ∧ Rp K S d v := by simpa only [Own] using h
theorem Own.of0 {d : D} {v : V} (h : Rp K S d v) : Own K S H 0 d v [] := by unfold Own; exact ⟨rfl, h⟩
theorem Own.mono (sS : Sub S S') : ∀ (n : Nat) (d : D) (v : V) (fp : List Addr), (∀ a ∈ fp, ∀ o, H a = some o → H' a = some o) → Own K S H n d v fp → Own K S' H' n d v fp := by
  intro n
  induction n with
  | zero =>
    intro d v fp _ h
    have h2 := h.zero
    rw [h2.1]
    exact .of0 (Rp.mono sS d v h2.2)
  | succ n ih =>
    intro d v fp hs h
    cases d with
    | lst l =>
      simp only [Own] at h ⊢
      obtain ⟨a, vs, fps, e, q, z, r, ef⟩ := h
      subst ef
      refine ⟨a, vs, fps, e, hs a List.mem_cons_self _ q, z, r.imp fun d v f m h => ih d v f (fun b hb o => hs b (List.mem_cons_of_mem _ (List.mem_flatten.mpr ⟨f, m, hb⟩)) o) h, rfl⟩
    | dic t ks ds =>
      cases t <;> simp only [Own] at h ⊢ <;>
      · obtain ⟨a, vs, kk, e, ef, r, z, z2, q1, q2⟩ := h
        subst ef
        exact ⟨a, vs, kk, e, rfl, RpL.mono sS _ _ r, z, z2, q1, hs a List.mem_cons_self _ q2⟩
    | ins c ns ds =>
      simp only [Own] at h ⊢
      obtain ⟨a, dx, vs, e, ef, q, z, z2, r⟩ := h
      subst ef
      exact ⟨a, dx, vs, e, rfl, hs a List.mem_cons_self _ q, z, z2, RpL.mono sS _ _ r⟩
    | non => simp only [Own] at h ⊢; exact ⟨h.1, Rp.mono sS _ _ h.2⟩
    | bl b => simp only [Own] at h ⊢; exact ⟨h.1, Rp.mono sS _ _ h.2⟩
    | int b => simp only [Own] at h ⊢; exact ⟨h.1, Rp.mono sS _ _ h.2⟩
    | str b => simp only [Own] at h ⊢; exact ⟨h.1, Rp.mono sS _ _ h.2⟩
    | tup b => simp only [Own] at h ⊢; exact ⟨h.1, Rp.mono sS _ _ h.2⟩
    | ro b => simp only [Own] at h ⊢; exact ⟨h.1, Rp.mono sS _ _ h.2⟩
    | rot b => simp only [Own] at h ⊢; exact ⟨h.1, Rp.mono sS _ _ h.2⟩
    | exn b _ _ => simp only [Own] at h ⊢; exact ⟨h.1, Rp.mono sS _ _ h.2⟩
    | slf c b ns ds =>
      simp only [Own] at h ⊢
      obtain ⟨e, ef, dx, vs, q, z, z2, r⟩ := h
      subst ef
      exact ⟨e, rfl, dx, vs, hs b List.mem_cons_self _ q, z, z2, RpL.mono sS _ _ r⟩
end
end Ev
/-! Ev, part B: the ghost state and its steps. -/
namespace Ev
open PySem PySem.Spec L2
/-- cells: slots, then what is held for a while -/
abbrev CM := Nat → Option (D × Nat × V)
def setC (C : CM) (i : Nat) (c : Option (D × Nat × V)) : CM := fun j => if j = i then c else C j
theorem setC_same {C : CM} {i c} : setC C i c i = c := if_pos rfl
theorem setC_ne {C : CM} {i j c} (h : j ≠ i) : setC C i c j = C j := if_neg h
theorem setC_self {C : CM} {i c} (h : C i = c) : setC C i c = C := by
  funext j
  by_cases e : j = i
  · subst e; rw [setC_same, h]
  · rw [setC_ne e]
theorem setC_setC {C : CM} {i c c'} : setC (setC C i c) i c' = setC C i c' := by
  funext j
  by_cases e : j = i
  · subst e; rw [setC_same, setC_same]
  · rw [setC_ne e, setC_ne e, setC_ne e]
theorem setC_comm {C : CM} {i j c c'} (h : i ≠ j) : setC (setC C i c) j c' = setC (setC C j c') i c := by
  funext k
  by_cases e : k = j
  · subst e; rw [setC_same, setC_ne (Ne.symm h), setC_same]
  · rw [setC_ne e]
    by_cases e2 : k = i
    · subst e2; rw [setC_same, setC_same]
    · rw [setC_ne e2, setC_ne e2, setC_ne e]
/-- constants of a def's run: what was tracked at the entry; what was frozen then -/
structure Gh where
  T : Hp
  B : Hp
structure OwnF (K : PySem.W.Frag) (g : Gh) (S H : Hp) (C : CM) (fp : Nat → List Addr) : Prop where
  at_ : ∀ i d n v, C i = some (d, n, v) → Own K S H n d v (fp i)
  no : ∀ i, C i = none → fp i = []
  nd : ∀ i, (fp i).Nodup
  dis : ∀ i j a, a ∈ fp i → a ∈ fp j → i = j
  out : ∀ i a, a ∈ fp i → S a = none ∧ g.T a = none
  inH : ∀ i a, a ∈ fp i → ∃ o, H a = some o
structure Stt (K : PySem.W.Frag) (g : Gh) (S : Hp) (σ : St) (H : Hp) (C : CM) : Prop where
  sub : Sub S H
  pre : Sub g.T H
  lim : ∀ a, g.T a ≠ none → S a ≠ none → g.B a ≠ none ∨ ∃ l, S a = some (.tup l)
  own : ∃ fp : Nat → List Addr, OwnF K g S H C fp
  slot : ∀ i d n v, C i = some (d, n, v) → i < σ.length → σ[i]? = some (some v)
  fin : ∃ b, ∀ j, b ≤ j → C j = none
theorem mem_flat3 {P : D → V → List Addr → Prop} {a : Addr} : ∀ {ds vs fps}, All3 P ds vs fps → a ∈ fps.flatten → ∃ d v f, P d v f ∧ f ∈ fps ∧ a ∈ f
  | _, _, _, .nil, h => by simp at h
  | _, _, _, .cons (d := d) (v := v) (f := f) h r, m => by
    rw [List.flatten_cons] at m
    rcases List.mem_append.mp m with m | m
    · exact ⟨d, v, f, h, List.mem_cons_self, m⟩
    · obtain ⟨d', v', f', h1, h2, h3⟩ := mem_flat3 r m
      exact ⟨d', v', f', h1, List.mem_cons_of_mem _ h2, h3⟩
section
variable {K : PySem.W.Frag} {g : Gh} {S S' H H' : Hp} {σ : St} {C : CM}
theorem Own.nt : ∀ {n : Nat} {d : D} {v : V} {fp : List Addr}, Own K S H n d v fp → ∀ a ∈ fp, ∀ l, H a ≠ some (.tup l) := by
  intro n
  induction n with
  | zero =>
    intro d v fp h a ha
    rw [h.zero.1] at ha; cases ha
  | succ n ih =>
    intro d v fp h a ha
    cases d with
    | lst l =>
      simp only [Own] at h
      obtain ⟨b, vs, fps, e, q, z, r, ef⟩ := h
      subst ef
      rcases List.mem_cons.mp ha with e | ha
      · subst e; intro l' e'; rw [q] at e'; cases e'
      · obtain ⟨d', v', f', h1, h2, h3⟩ := mem_flat3 r ha
        exact ih h1 a h3
    | dic t ks ds =>
      cases t <;> simp only [Own] at h <;>
      · obtain ⟨b, vs, kk, e, ef, r, z, z2, q1, q2⟩ := h
        subst ef
        have e : a = b := by simpa using ha
        subst e
        intro l' e'
        rw [q2] at e'; cases e'
    | ins c ns ds =>
      simp only [Own] at h
      obtain ⟨b, dx, vs, e, ef, q, _⟩ := h
      subst ef
      have e : a = b := by simpa using ha
      subst e
      intro l' e'
      rw [q] at e'; cases e'
    | slf c b ns ds =>
      simp only [Own] at h
      obtain ⟨e, ef, dx, vs, q, _⟩ := h
      subst ef
      have e : a = b := by simpa using ha
      subst e
      intro l' e'
      rw [q] at e'; cases e'
    | _ => simp only [Own] at h; rw [h.1] at ha; cases ha
theorem Own.inH : ∀ {n : Nat} {d : D} {v : V} {fp : List Addr}, Own K S H n d v fp → ∀ a ∈ fp, ∃ o, H a = some o := by
  intro n
  induction n with
  | zero =>
    intro d v fp h a ha
    rw [h.zero.1] at ha; cases ha
  | succ n ih =>
    intro d v fp h a ha
    cases d with
    | lst l =>
      simp only [Own] at h
      obtain ⟨b, vs, fps, e, q, z, r, ef⟩ := h
      subst ef
      rcases List.mem_cons.mp ha with e | ha
      · subst e; exact ⟨_, q⟩
      · obtain ⟨d', v', f', h1, h2, h3⟩ := mem_flat3 r ha
        exact ih h1 a h3
    | dic t ks ds =>
      cases t <;> simp only [Own] at h <;>
      · obtain ⟨b, vs, kk, e, ef, r, z, z2, q1, q2⟩ := h
        subst ef
        have e : a = b := by simpa using ha
        subst e
        exact ⟨_, q2⟩
    | ins c ns ds =>
      simp only [Own] at h
      obtain ⟨b, dx, vs, e, ef, q, _⟩ := h
      subst ef
      have e : a = b := by simpa using ha
      subst e
      exact ⟨_, q⟩
    | non => simp only [Own] at h; rw [h.1] at ha; cases ha
    | bl b => simp only [Own] at h; rw [h.1] at ha; cases ha
    | int b => simp only [Own] at h; rw [h.1] at ha; cases ha
    | str b => simp only [Own] at h; rw [h.1] at ha; cases ha
    | tup b => simp only [Own] at h; rw [h.1] at ha; cases ha
    | ro b => simp only [Own] at h; rw [h.1] at ha; cases ha
    | rot b => simp only [Own] at h; rw [h.1] at ha; cases ha
    | exn b _ _ => simp only [Own] at h; rw [h.1] at ha; cases ha
    | slf c b ns ds =>
      simp only [Own] at h
      obtain ⟨e, ef, dx, vs, q, _⟩ := h
      subst ef
      have e : a = b := by simpa using ha
      subst e
      exact ⟨_, q⟩
/-- what is owned, frozen -/
theorem All3.rpl {P : D → V → List Addr → Prop} : ∀ {ds vs fps}, All3 P ds vs fps → (∀ d v f, f ∈ fps → P d v f → Rp K S d v) → RpL K S ds vs
  | _, _, _, .nil, _ => .nil
  | _, _, _, .cons h r, k => .cons (k _ _ _ List.mem_cons_self h) (All3.rpl r fun d v f m => k d v f (List.mem_cons_of_mem _ m))
theorem Own.freeze (sS : Sub S S') : ∀ {n : Nat} {d : D} {v : V} {fp : List Addr}, (∀ a ∈ fp, ∀ o, H a = some o → S' a = some o) → Own K S H n d v fp → Rp K S' d v := by
  intro n
  induction n with
  | zero =>
    intro d v fp _ h
    exact Rp.mono sS d v h.zero.2
  | succ n ih =>
    intro d v fp hs h
    cases d with
    | lst l =>
      simp only [Own] at h
      obtain ⟨a, vs, fps, e, q, z, r, ef⟩ := h
      subst ef
      simp only [Rp]
      exact ⟨a, vs, e, hs a List.mem_cons_self _ q, z, r.rpl fun d v f m h => ih (fun b hb o => hs b (List.mem_cons_of_mem _ (List.mem_flatten.mpr ⟨f, m, hb⟩)) o) h⟩
    | dic t ks ds =>
      cases t <;> simp only [Own, Rp] at h ⊢ <;>
      · obtain ⟨a, vs, kk, e, ef, r, z, z2, q1, q2⟩ := h
        subst ef
        exact ⟨a, vs, kk, e, RpL.mono sS _ _ r, z, z2, q1, hs a List.mem_cons_self _ q2⟩
    | ins c ns ds =>
      simp only [Own] at h
      obtain ⟨a, dx, vs, e, ef, q, z, z2, r⟩ := h
      subst ef
      simp only [Rp]
      exact ⟨a, dx, vs, e, hs a List.mem_cons_self _ q, z, z2, RpL.mono sS _ _ r⟩
    | non => simp only [Own] at h; exact Rp.mono sS _ _ h.2
    | bl b => simp only [Own] at h; exact Rp.mono sS _ _ h.2
    | int b => simp only [Own] at h; exact Rp.mono sS _ _ h.2
    | str b => simp only [Own] at h; exact Rp.mono sS _ _ h.2
    | tup b => simp only [Own] at h; exact Rp.mono sS _ _ h.2
    | ro b => simp only [Own] at h; exact Rp.mono sS _ _ h.2
    | rot b => simp only [Own] at h; exact Rp.mono sS _ _ h.2
    | exn b _ _ => simp only [Own] at h; exact Rp.mono sS _ _ h.2
    | slf c b ns ds =>
      simp only [Own] at h
      obtain ⟨e, ef, dx, vs, q, z, z2, r⟩ := h
      subst ef
      simp only [Rp]
      exact ⟨e, dx, vs, hs b List.mem_cons_self _ q, z, z2, RpL.mono sS _ _ r⟩
/-- a view: how it stands now -/
def View (K : PySem.W.Frag) (S H : Hp) (n : Nat) (d : D) (v : V) : Prop := ∃ fp, Own K S H n d v fp
theorem View.mono {n : Nat} {d : D} {v : V} (h : View K S H n d v) (sH : Sub H H') (sS : Sub S S') : View K S' H' n d v :=
  let ⟨fp, h⟩ := h
  ⟨fp, h.mono sS n d v fp fun a _ o => sH a o⟩
theorem View.rp {n : Nat} {d : D} {v : V} (h : View K S H n d v) (s : Sub S H) : Rp K H d v :=
  let ⟨_, h⟩ := h
  h.freeze (S' := H) s fun _ _ _ e => e
theorem View.of {d : D} {v : V} (h : Rp K S d v) : View K S H 0 d v := ⟨[], .of0 h⟩
/-- items of a list that is owned at most one deep are frozen -/
theorem All3.own0 : ∀ {ds vs fps}, All3 (Own K S H 0) ds vs fps → RpL K S ds vs
  | _, _, _, .nil => .nil
  | _, _, _, .cons h r => .cons h.zero.2 (All3.own0 r)
theorem All3.own0_nil : ∀ {ds vs fps}, All3 (Own K S H 0) ds vs fps → fps.flatten = []
  | _, _, _, .nil => rfl
  | _, _, _, .cons h r => by rw [List.flatten_cons, h.zero.1, All3.own0_nil r]; rfl
theorem All3.of0 : ∀ {ds : List D} {vs : List V}, RpL K S ds vs → ∃ fps, All3 (Own K S H 0) ds vs fps ∧ fps.flatten = []
  | [], vs, h => by rw [h.nil_inv]; exact ⟨[], .nil, rfl⟩
  | d :: ds, vs, h => by
    obtain ⟨v, r, e, h1, h2⟩ := h.cons_inv
    subst e
    obtain ⟨fps, a, b⟩ := All3.of0 h2
    exact ⟨[] :: fps, .cons (.of0 h1) a, by rw [List.flatten_cons, b]; rfl⟩
theorem View.lst1 {n : Nat} {l : List D} {v : V} (h : View K S H n (.lst l) v) (hn : n ≤ 1) (s : Sub S H) : ∃ a vs, v = .ref a ∧ H a = some (.lst vs) ∧ vs.length ≤ cap ∧ RpL K S l vs := by
  obtain ⟨fp, h⟩ := h
  match n, hn with
  | 0, _ =>
    have h2 := h.zero.2
    simp only [Rp] at h2
    obtain ⟨a, vs, e, q, z, r⟩ := h2
    exact ⟨a, vs, e, s _ _ q, z, r⟩
  | 1, _ =>
    simp only [Own] at h
    obtain ⟨a, vs, fps, e, q, z, r, _⟩ := h
    exact ⟨a, vs, e, q, z, All3.own0 (S := S) (H := H) (r.imp fun d v f _ h => by simpa only [Own] using h)⟩
theorem View.tup {n : Nat} {l : List D} {v : V} (h : View K S H n (.tup l) v) (s : Sub S H) : ∃ a vs, v = .ref a ∧ H a = some (.tup vs) ∧ vs.length ≤ cap ∧ RpL K S l vs := by
  obtain ⟨fp, h⟩ := h
  have h2 : Rp K S (.tup l) v := by
    cases n with
    | zero => exact h.zero.2
    | succ n => simp only [Own] at h; exact h.2
  simp only [Rp] at h2
  obtain ⟨a, vs, e, q, z, r⟩ := h2
  exact ⟨a, vs, e, s _ _ q, z, r⟩
theorem View.ro {n : Nat} {l : List D} {v : V} (h : View K S H n (.ro l) v) (s : Sub S H) : ∃ a vs, v = .ref a ∧ SqL K H a vs ∧ vs.length ≤ cap ∧ RpL K S l vs := by
  obtain ⟨fp, h⟩ := h
  have h2 : Rp K S (.ro l) v := by
    cases n with
    | zero => exact h.zero.2
    | succ n => simp only [Own] at h; exact h.2
  simp only [Rp] at h2
  obtain ⟨a, vs, e, q, z, r⟩ := h2
  exact ⟨a, vs, e, s.sqL q, z, r⟩
/-! ### steps -/
/-- the heap grows -/
theorem Stt.up (st : Stt K g S σ H C) (sH : Sub H H') : Stt K g S σ H' C := by
  obtain ⟨fp, o⟩ := st.own
  refine ⟨st.sub.tr sH, st.pre.tr sH, st.lim, ⟨fp, fun i d n v e => (o.at_ i d n v e).mono .rfl n d v _ fun a _ u => sH a u, o.no, o.nd, o.dis, o.out, fun i a h => ?_⟩, st.slot, st.fin⟩
  obtain ⟨u, e⟩ := o.inH i a h
  exact ⟨u, sH _ _ e⟩
theorem OwnF.nt {fp : Nat → List Addr} (o : OwnF K g S H C fp) {i : Nat} {a : Addr} (h : a ∈ fp i) (l : List V) : H a ≠ some (.tup l) := by
  cases e : C i with
  | none => rw [o.no i e] at h; cases h
  | some c => exact (o.at_ i c.1 c.2.1 c.2.2 e).nt a h l
theorem OwnF.apart {fp : Nat → List Addr} (o : OwnF K g S H C fp) (sH : Sub H H') (sSH : Sub S' H') (fr : ∀ a, S' a ≠ none → S a = none → H a = none ∨ ∃ l, S' a = some (.tup l)) {i : Nat} {a : Addr} (h : a ∈ fp i) : S' a = none := by
  cases e : S' a with
  | none => rfl
  | some u =>
    obtain ⟨w, h2⟩ := o.inH i a h
    rcases fr a (by rw [e]; simp) (o.out i a h).1 with h1 | ⟨l, h1⟩
    · rw [h1] at h2; cases h2
    · have e1 := sSH _ _ h1
      rw [sH _ _ h2] at e1
      rw [e1] at h2
      exact absurd h2 (o.nt h l)
/-- what is frozen grows by new things and by tuples -/
theorem Stt.upS (st : Stt K g S σ H C) (sH : Sub H H') (sS : Sub S S') (sSH : Sub S' H') (fr : ∀ a, S' a ≠ none → S a = none → H a = none ∨ ∃ l, S' a = some (.tup l)) : Stt K g S' σ H' C := by
  obtain ⟨fp, o⟩ := st.own
  refine ⟨sSH, st.pre.tr sH, fun a ht hs => ?_, ⟨fp, fun i d n v e => (o.at_ i d n v e).mono sS n d v _ fun a _ u => sH a u, o.no, o.nd, o.dis, fun i a h => ⟨?_, (o.out i a h).2⟩, fun i a h => ?_⟩, st.slot, st.fin⟩
  · cases e : S a with
    | some u =>
      rcases st.lim a ht (by rw [e]; simp) with z | ⟨l, z⟩
      · exact .inl z
      · exact .inr ⟨l, sS _ _ z⟩
    | none =>
      rcases fr a hs e with this | this
      · cases q : g.T a with
        | none => exact absurd q ht
        | some u => rw [st.pre _ _ q] at this; cases this
      · exact .inr this
  · exact o.apart sH sSH fr h
  · obtain ⟨u, e⟩ := o.inH i a h
    exact ⟨u, sH _ _ e⟩
theorem fresh_upd {p : Addr} {o : HO} (hp : H p = none) : ∀ a, upd S p o a ≠ none → S a = none → H a = none ∨ ∃ l, upd S p o a = some (.tup l) := fun a h e => by
  by_cases q : a = p
  · subst q; exact .inl hp
  · rw [upd_ne q] at h; exact absurd e h
/-- a new object, frozen at once -/
theorem Stt.new (st : Stt K g S σ H C) {p : Addr} {o : HO} (hp : H p = none) : Stt K g (upd S p o) σ (upd H p o) C := by
  have hS : S p = none := by
    cases e : S p with
    | none => rfl
    | some u => rw [st.sub _ _ e] at hp; cases hp
  refine st.upS (subUpd hp) (subUpd hS) (fun a u e => ?_) (fresh_upd hp)
  by_cases q : a = p
  · subst q; rw [upd_same] at e ⊢; exact e
  · rw [upd_ne q] at e ⊢; exact st.sub _ _ e
/-- a thing is let go -/
theorem Stt.drop (st : Stt K g S σ H C) (i : Nat) : Stt K g S σ H (setC C i none) := by
  obtain ⟨fp, o⟩ := st.own
  refine ⟨st.sub, st.pre, st.lim, ⟨fun j => if j = i then [] else fp j, fun j d n v e => ?_, fun j e => ?_, fun j => ?_, fun j k a h1 h2 => ?_, fun j a h => ?_, fun j a h => ?_⟩, fun j d n v e h => ?_, ?_⟩
  · by_cases q : j = i
    · subst q; rw [setC_same] at e; cases e
    · rw [setC_ne q] at e; simp only [q, if_false]; exact o.at_ j d n v e
  · by_cases q : j = i
    · simp only [q, if_true]
    · rw [setC_ne q] at e; simp only [q, if_false]; exact o.no j e
  · by_cases q : j = i
    · simp only [q, if_true]; exact List.nodup_nil
    · simp only [q, if_false]; exact o.nd j
  · by_cases q : j = i
    · simp only [q, if_true] at h1; cases h1
    · by_cases q2 : k = i
      · simp only [q2, if_true] at h2; cases h2
      · simp only [q, q2, if_false] at h1 h2; exact o.dis j k a h1 h2
  · by_cases q : j = i
    · simp only [q, if_true] at h; cases h
    · simp only [q, if_false] at h; exact o.out j a h
  · by_cases q : j = i
    · simp only [q, if_true] at h; cases h
    · simp only [q, if_false] at h; exact o.inH j a h
  · by_cases q : j = i
    · subst q; rw [setC_same] at e; cases e
    · rw [setC_ne q] at e; exact st.slot j d n v e h
  · obtain ⟨b, h⟩ := st.fin
    refine ⟨b, fun j hj => ?_⟩
    by_cases q : j = i
    · subst q; exact setC_same
    · rw [setC_ne q]; exact h j hj
theorem fin_set {b : Nat} {i : Nat} {c} (h : ∀ j, b ≤ j → C j = none) : ∀ j, max b (i + 1) ≤ j → setC C i c j = none := fun j hj => by
  rw [setC_ne (by omega)]
  exact h j (by omega)
/-- a new owned thing, held at a free place -/
theorem Stt.push (st : Stt K g S σ H C) {n : Nat} {d : D} {v : V} {fq : List Addr} (sH : Sub H H') (sS : Sub S S') (sSH : Sub S' H') (fr : ∀ a, S' a ≠ none → S a = none → H a = none ∨ ∃ l, S' a = some (.tup l)) {j : Nat} (hj : σ.length ≤ j) (hc : C j = none)
    (ow : Own K S' H' n d v fq) (nd : fq.Nodup) (ff : ∀ a ∈ fq, H a = none ∧ S' a = none) : Stt K g S' σ H' (setC C j (some (d, n, v))) := by
  have st2 := st.upS sH sS sSH fr
  obtain ⟨fp0, o0⟩ := st.own
  obtain ⟨fp, o⟩ : ∃ fp, OwnF K g S' H' C fp ∧ ∀ i a, a ∈ fp i → ∃ u, H a = some u := by
    refine ⟨fp0, ⟨fun i d n v e => (o0.at_ i d n v e).mono sS n d v _ fun a _ u => sH a u, o0.no, o0.nd, o0.dis, fun i a h => ⟨?_, (o0.out i a h).2⟩, fun i a h => ?_⟩, o0.inH⟩
    · exact o0.apart sH sSH fr h
    · obtain ⟨u, e⟩ := o0.inH i a h
      exact ⟨u, sH _ _ e⟩
  obtain ⟨o, inH⟩ := o
  have apart : ∀ k a, a ∈ fp k → a ∉ fq := fun k a h1 h2 => by
    obtain ⟨u, e⟩ := inH k a h1
    rw [(ff a h2).1] at e; cases e
  refine ⟨st2.sub, st2.pre, st2.lim, ⟨fun k => if k = j then fq else fp k, fun k d' n' v' e => ?_, fun k e => ?_, fun k => ?_, fun k l a h1 h2 => ?_, fun k a h => ?_, fun k a h => ?_⟩, fun k d' n' v' e h => ?_, ?_⟩
  · by_cases q : k = j
    · subst q; rw [setC_same] at e; cases e; simp only [if_true]; exact ow
    · rw [setC_ne q] at e; simp only [q, if_false]; exact o.at_ k d' n' v' e
  · by_cases q : k = j
    · subst q; rw [setC_same] at e; cases e
    · rw [setC_ne q] at e; simp only [q, if_false]; exact o.no k e
  · by_cases q : k = j
    · simp only [q, if_true]; exact nd
    · simp only [q, if_false]; exact o.nd k
  · by_cases q : k = j
    · by_cases q2 : l = j
      · rw [q, q2]
      · simp only [q, q2, if_true, if_false] at h1 h2; exact absurd h1 (apart l a h2)
    · by_cases q2 : l = j
      · simp only [q, q2, if_true, if_false] at h1 h2; exact absurd h2 (apart k a h1)
      · simp only [q, q2, if_false] at h1 h2; exact o.dis k l a h1 h2
  · by_cases q : k = j
    · simp only [q, if_true] at h
      refine ⟨(ff a h).2, ?_⟩
      cases e : g.T a with
      | none => rfl
      | some u =>
        have z := st.pre _ _ e
        rw [(ff a h).1] at z; cases z
    · simp only [q, if_false] at h; exact o.out k a h
  · by_cases q : k = j
    · simp only [q, if_true] at h; exact ow.inH a h
    · simp only [q, if_false] at h; exact o.inH k a h
  · by_cases q : k = j
    · subst q; exact absurd h (by omega)
    · rw [setC_ne q] at e; exact st.slot k d' n' v' e h
  · obtain ⟨b, h⟩ := st.fin
    exact ⟨_, fin_set h⟩
/-- frozen where it is -/
theorem Stt.freeze (st : Stt K g S σ H C) {i : Nat} {n : Nat} {d : D} {v : V} (e : C i = some (d, n, v)) : ∃ S', Sub S S' ∧ Rp K S' d v ∧ Stt K g S' σ H (setC C i (some (d, 0, v))) := by
  obtain ⟨fp, o⟩ := st.own
  have hn : ∀ a, a ∈ fp i → S a = none := fun a h => (o.out i a h).1
  refine ⟨fun a => if a ∈ fp i then H a else S a, fun a u q => ?_, ?_, ?_⟩
  · show (if a ∈ fp i then H a else S a) = some u
    split
    · exact st.sub _ _ q
    · exact q
  · refine (o.at_ i d n v e).freeze (fun a u q => ?_) fun a ha u q => ?_
    · show (if a ∈ fp i then H a else S a) = some u
      split
      · exact st.sub _ _ q
      · exact q
    · show (if a ∈ fp i then H a else S a) = some u
      rw [if_pos ha]; exact q
  · have sS : Sub S (fun a => if a ∈ fp i then H a else S a) := fun a u q => by
      show (if a ∈ fp i then H a else S a) = some u
      split
      · exact st.sub _ _ q
      · exact q
    refine ⟨fun a u q => ?_, st.pre, fun a h1 h2 => ?_, ⟨fun k => if k = i then [] else fp k, fun k d' n' v' ek => ?_, fun k ek => ?_, fun k => ?_, fun k l a h1 h2 => ?_, fun k a h => ?_, fun k a h => ?_⟩, fun k d' n' v' ek h => ?_, ?_⟩
    · have q : (if a ∈ fp i then H a else S a) = some u := q
      split at q
      · exact q
      · exact st.sub _ _ q
    · have h2 : (if a ∈ fp i then H a else S a) ≠ none := h2
      split at h2
      · rename_i hm
        exact absurd (o.out i a hm).2 h1
      · rename_i hm
        rcases st.lim a h1 h2 with z | ⟨l, z⟩
        · exact .inl z
        · refine .inr ⟨l, ?_⟩
          show (if a ∈ fp i then H a else S a) = _
          rw [if_neg hm]; exact z
    · by_cases q : k = i
      · subst q; rw [setC_same] at ek; cases ek
        simp only [if_true]
        refine .of0 ((o.at_ k d n v e).freeze sS fun a ha u q => ?_)
        show (if a ∈ fp k then H a else S a) = some u
        rw [if_pos ha]; exact q
      · rw [setC_ne q] at ek; simp only [q, if_false]
        exact (o.at_ k d' n' v' ek).mono sS n' d' v' _ fun a _ u => id
    · by_cases q : k = i
      · subst q; rw [setC_same] at ek; cases ek
      · rw [setC_ne q] at ek; simp only [q, if_false]; exact o.no k ek
    · by_cases q : k = i
      · simp only [q, if_true]; exact List.nodup_nil
      · simp only [q, if_false]; exact o.nd k
    · by_cases q : k = i
      · simp only [q, if_true] at h1; cases h1
      · by_cases q2 : l = i
        · simp only [q2, if_true] at h2; cases h2
        · simp only [q, q2, if_false] at h1 h2; exact o.dis k l a h1 h2
    · by_cases q : k = i
      · simp only [q, if_true] at h; cases h
      · simp only [q, if_false] at h
        refine ⟨?_, (o.out k a h).2⟩
        show (if a ∈ fp i then H a else S a) = none
        rw [if_neg fun z => q (o.dis k i a h z)]
        exact (o.out k a h).1
    · by_cases q : k = i
      · simp only [q, if_true] at h; cases h
      · simp only [q, if_false] at h; exact o.inH k a h
    · by_cases q : k = i
      · subst q; rw [setC_same] at ek; cases ek; exact st.slot k d n v e h
      · rw [setC_ne q] at ek; exact st.slot k d' n' v' ek h
    · obtain ⟨b, h⟩ := st.fin
      exact ⟨_, fin_set h⟩
/-- a frozen thing of a cell -/
theorem Stt.rp (st : Stt K g S σ H C) {i : Nat} {d : D} {v : V} (e : C i = some (d, 0, v)) : Rp K S d v := by
  obtain ⟨fp, o⟩ := st.own
  exact (o.at_ i d 0 v e).zero.2
theorem Stt.view (st : Stt K g S σ H C) {i n : Nat} {d : D} {v : V} (e : C i = some (d, n, v)) : View K S H n d v := by
  obtain ⟨fp, o⟩ := st.own
  exact ⟨_, o.at_ i d n v e⟩
/-- a frozen thing may be held anywhere free -/
theorem Stt.hold (st : Stt K g S σ H C) {d : D} {v : V} (r : Rp K S d v) {j : Nat} (hj : σ.length ≤ j) (hc : C j = none) : Stt K g S σ H (setC C j (some (d, 0, v))) :=
  st.push .rfl .rfl st.sub (fun a h e => absurd e h) hj hc (.of0 r) List.nodup_nil fun _ h => nomatch h
/-- what is held at j goes to slot i -/
theorem Stt.store (st : Stt K g S σ H C) {i j n : Nat} {d : D} {v : V} (e : C j = some (d, n, v)) (hi : i < σ.length) (hij : i ≠ j) : Stt K g S (σ.set i (some v)) H (setC (setC C j none) i (some (d, n, v))) := by
  obtain ⟨fp, o⟩ := st.own
  refine ⟨st.sub, st.pre, st.lim, ⟨fun k => if k = i then fp j else if k = j then [] else fp k, fun k d' n' v' ek => ?_, fun k ek => ?_, fun k => ?_, fun k l a h1 h2 => ?_, fun k a h => ?_, fun k a h => ?_⟩, fun k d' n' v' ek h => ?_, ?_⟩
  · by_cases q : k = i
    · subst q; rw [setC_same] at ek; cases ek; simp only [if_true]; exact o.at_ j d n v e
    · rw [setC_ne q] at ek
      by_cases q2 : k = j
      · subst q2; rw [setC_same] at ek; cases ek
      · rw [setC_ne q2] at ek; simp only [q, q2, if_false]; exact o.at_ k d' n' v' ek
  · by_cases q : k = i
    · subst q; rw [setC_same] at ek; cases ek
    · by_cases q2 : k = j
      · simp only [q, q2, if_false, if_true]
        split
        · rename_i z; exact absurd z.symm hij
        · rfl
      · rw [setC_ne q, setC_ne q2] at ek; simp only [q, q2, if_false]; exact o.no k ek
  · show (if k = i then fp j else if k = j then [] else fp k).Nodup
    split
    · exact o.nd j
    · split
      · exact List.nodup_nil
      · exact o.nd k
  · have h1 : a ∈ (if k = i then fp j else if k = j then [] else fp k) := h1
    have h2 : a ∈ (if l = i then fp j else if l = j then [] else fp l) := h2
    by_cases q : k = i
    · by_cases q2 : l = i
      · rw [q, q2]
      · rw [if_pos q] at h1; rw [if_neg q2] at h2
        by_cases q3 : l = j
        · rw [if_pos q3] at h2; cases h2
        · rw [if_neg q3] at h2; exact absurd (o.dis j l a h1 h2).symm q3
    · rw [if_neg q] at h1
      by_cases q3 : k = j
      · rw [if_pos q3] at h1; cases h1
      · rw [if_neg q3] at h1
        by_cases q2 : l = i
        · rw [if_pos q2] at h2; exact absurd (o.dis k j a h1 h2) q3
        · rw [if_neg q2] at h2
          by_cases q4 : l = j
          · rw [if_pos q4] at h2; cases h2
          · rw [if_neg q4] at h2; exact o.dis k l a h1 h2
  · have h : a ∈ (if k = i then fp j else if k = j then [] else fp k) := h
    split at h
    · exact o.out j a h
    · split at h
      · cases h
      · exact o.out k a h
  · have h : a ∈ (if k = i then fp j else if k = j then [] else fp k) := h
    split at h
    · exact o.inH j a h
    · split at h
      · cases h
      · exact o.inH k a h
  · rw [List.length_set] at h
    by_cases q : k = i
    · subst q; rw [setC_same] at ek; cases ek; exact List.getElem?_set_self h
    · rw [setC_ne q] at ek
      by_cases q2 : k = j
      · subst q2; rw [setC_same] at ek; cases ek
      · rw [setC_ne q2] at ek
        rw [List.getElem?_set_ne (Ne.symm q)]
        exact st.slot k d' n' v' ek h
  · obtain ⟨b, h⟩ := st.fin
    refine ⟨max (max b (j + 1)) (i + 1), fun k hk => ?_⟩
    rw [setC_ne (by omega), setC_ne (by omega)]
    exact h k (by omega)
/-- a free place -/
theorem Stt.free (st : Stt K g S σ H C) : ∃ j, σ.length ≤ j ∧ C j = none := by
  obtain ⟨b, h⟩ := st.fin
  exact ⟨max b σ.length, by omega, h _ (by omega)⟩
/-! ### the pure environment -/
abbrev Cell := Option (D × Nat)
abbrev Env := List Cell
def GR (C : CM) (Γ : Env) (σ : St) : Prop := Γ.length = σ.length ∧ ∀ i, i < Γ.length → Γ[i]? = some ((C i).map fun c => (c.1, c.2.1))
theorem GR.at_ {Γ : Env} (r : GR C Γ σ) {i : Nat} {d : D} {n : Nat} (e : Γ[i]? = some (some (d, n))) : ∃ v, C i = some (d, n, v) ∧ i < σ.length := by
  have hi : i < Γ.length := (List.getElem?_eq_some_iff.mp e).1
  have h := r.2 i hi
  rw [e] at h
  have h := Option.some.inj h
  cases q : C i with
  | none => rw [q] at h; cases h
  | some c =>
    obtain ⟨d', n', v⟩ := c
    rw [q] at h
    cases h
    exact ⟨v, rfl, by rw [← r.1]; exact hi⟩
theorem GR.set {Γ : Env} (r : GR C Γ σ) {i : Nat} {d : D} {n : Nat} {v w : V} : GR (setC C i (some (d, n, v))) (Γ.set i (some (d, n))) (σ.set i (some w)) := by
  refine ⟨by rw [List.length_set, List.length_set, r.1], fun k hk => ?_⟩
  rw [List.length_set] at hk
  by_cases q : k = i
  · subst q; rw [setC_same, List.getElem?_set_self hk]; rfl
  · rw [setC_ne q, List.getElem?_set_ne (Ne.symm q)]; exact r.2 k hk
theorem GR.setΓ {Γ : Env} (r : GR C Γ σ) {i : Nat} {d : D} {n : Nat} {v : V} : GR (setC C i (some (d, n, v))) (Γ.set i (some (d, n))) σ := by
  refine ⟨by rw [List.length_set, r.1], fun k hk => ?_⟩
  rw [List.length_set] at hk
  by_cases q : k = i
  · subst q; rw [setC_same, List.getElem?_set_self hk]; rfl
  · rw [setC_ne q, List.getElem?_set_ne (Ne.symm q)]; exact r.2 k hk
theorem GR.none {Γ : Env} (r : GR C Γ σ) {i : Nat} : GR (setC C i Option.none) (Γ.set i Option.none) σ := by
  refine ⟨by rw [List.length_set, r.1], fun k hk => ?_⟩
  rw [List.length_set] at hk
  by_cases q : k = i
  · subst q; rw [setC_same, List.getElem?_set_self hk]; rfl
  · rw [setC_ne q, List.getElem?_set_ne (Ne.symm q)]; exact r.2 k hk
theorem GR.tmp {Γ : Env} (r : GR C Γ σ) {j : Nat} {c} (hj : σ.length ≤ j) : GR (setC C j c) Γ σ :=
  ⟨r.1, fun k hk => by rw [setC_ne (by rw [r.1] at hk; omega)]; exact r.2 k hk⟩
end
end Ev
/-! Ev, part C: codes and their pure run. -/
namespace Ev
open PySem PySem.Spec L2
inductive Res (α : Type) where
  | ok (a : α) | exc (c : String) (ns : List String) (ds : List D) | fail
def Res.bind {α β : Type} : Res α → (α → Res β) → Res β
  | .ok a, f => f a
  | .exc c ns ds, _ => .exc c ns ds
  | .fail, _ => .fail
@[simp] theorem Res.bind_ok {α β : Type} (a : α) (f : α → Res β) : (Res.ok a).bind f = f a := rfl
@[simp] theorem Res.bind_exc {α β : Type} (c ns ds) (f : α → Res β) : (Res.exc c ns ds : Res α).bind f = .exc c ns ds := rfl
@[simp] theorem Res.bind_fail {α β : Type} (f : α → Res β) : (Res.fail : Res α).bind f = .fail := rfl
inductive Bop where | add | sub | mul | fdiv | mod | pow
  deriving DecidableEq
inductive Cop where | eq | ne | lt | le | gt | ge | is_ | isn | inn | nin
  deriving DecidableEq
inductive Bi where | len | tuple | list | sum | max | min | abs | int | sorted | bool | all | any | gcd | str
  deriving DecidableEq
/-! ### data as the library compares it -/
mutual
def py : D → PyData
  | .non => .none
  | .bl b => .bool b
  | .int i => .int i
  | .str s => .str s
  | .tup l => .tuple (pyL l)
  | .lst l => .list (pyL l)
  | _ => .none
def pyL : List D → List PyData
  | [] => []
  | d :: r => py d :: pyL r
end
mutual
/-- plain data, of a depth that may be compared -/
def isPy : Nat → D → Bool
  | _, .non => true
  | _, .bl _ => true
  | _, .int _ => true
  | _, .str s => PyData.strOk s
  | k + 1, .tup l => isPyL k l
  | k + 1, .lst l => isPyL k l
  | _, _ => false
def isPyL : Nat → List D → Bool
  | _, [] => true
  | k, d :: r => isPy k d && isPyL k r
end
def eqD (a b : D) : Res Bool := if isPy 60 a && isPy 60 b then .ok (PyData.eqv (py a) (py b)) else .fail
def mulOk (i j : Int) : Prop := i.natAbs < 2 ^ 64 ∨ j.natAbs < 2 ^ 64 ∨ i.natAbs.log2 + j.natAbs.log2 < 900000
instance (i j : Int) : Decidable (mulOk i j) := by unfold mulOk; infer_instance
def binI : Bop → Int → Int → Res (D × Nat)
  | .add, i, j => .ok (.int (i + j), 0)
  | .sub, i, j => .ok (.int (i - j), 0)
  | .mul, i, j => if mulOk i j then .ok (.int (i * j), 0) else .fail
  | .fdiv, i, j => if (j ≠ 0 ∧ j.natAbs < 1073741824) ∨ (0 < j ∧ j.natAbs.log2 < 9000) then .ok (.int (i.fdiv j), 0) else .fail
  | .mod, i, j => if j ≠ 0 then .ok (.int (i.fmod j), 0) else .fail
  | .pow, i, j => if 0 ≤ j ∧ j ≤ 1000000 ∧ i.natAbs < 2 ^ 64 then .ok (.int (i ^ j.toNat), 0) else .fail
def binD : Bop → D × Nat → D × Nat → Res (D × Nat)
  | o, (.int i, _), (.int j, _) => binI o i j
  | .add, (.lst l, n), (.lst m, k) => if n ≤ 1 ∧ k ≤ 1 ∧ l.length + m.length ≤ cap then .ok (.lst (l ++ m), 1) else .fail
  | .add, (.tup l, _), (.tup m, _) => if l.length + m.length ≤ cap then .ok (.tup (l ++ m), 0) else .fail
  | .mul, (.lst l, n), (.int k, _) => if n ≤ 1 ∧ -(2 ^ 63) ≤ k ∧ k < 2 ^ 63 ∧ l.length * k.toNat ≤ cap then .ok (.lst (List.replicate k.toNat l).flatten, 1) else .fail
  | .mul, (.tup l, _), (.int k, _) => if l ≠ [] ∧ 2 ≤ k ∧ k ≤ 1000 ∧ l.length ≤ 1000 then .ok (.tup (List.replicate k.toNat l).flatten, 0) else .fail
  | _, _, _ => .fail
def negD : D → Res (D × Nat)
  | .int i => .ok (.int (-i), 0)
  | _ => .fail
def flatD : D → Bool
  | .non => true | .bl _ => true | .int _ => true | .str _ => true
  | _ => false
def isKey : Bool → D → Bool
  | false, x => (keyOf x).isSome
  | true, x => (keyT x).isSome
/-- the same key -/
def keyEq : Bool → D → D → Bool
  | false, x, y => decide (keyOf x = keyOf y)
  | true, x, y => decide (keyT x = keyT y)
def dicLook (t : Bool) : List D → List D → D → Option D
  | k :: ks, v :: vs, x => if keyEq t k x then some v else dicLook t ks vs x
  | _, _, _ => none
def dicPut (t : Bool) (ks vs : List D) (x y : D) : List D × List D :=
  if ks.any (fun k => keyEq t k x) then (ks, ks.zipWith (fun k v => if keyEq t k x then y else v) vs) else (ks ++ [x], vs ++ [y])
def inD (x : D) (l : List D) : Bool := l.any fun y => PyData.eqv (py y) (py x)
def cmpD : Cop → D × Nat → D × Nat → Res Bool
  | .eq, a, b => eqD a.1 b.1
  | .ne, a, b => (eqD a.1 b.1).bind fun c => .ok (!c)
  | .lt, (.int i, _), (.int j, _) => .ok (decide (i < j))
  | .le, (.int i, _), (.int j, _) => .ok (decide (i ≤ j))
  | .gt, (.int i, _), (.int j, _) => .ok (decide (j < i))
  | .ge, (.int i, _), (.int j, _) => .ok (decide (j ≤ i))
  | .is_, (.exn _ _ _, _), _ => .fail
  | .isn, (.exn _ _ _, _), _ => .fail
  | .is_, (.bl a, _), (.bl b, _) => .ok (decide (a = b))
  | .isn, (.bl a, _), (.bl b, _) => .ok (!decide (a = b))
  | .is_, (.non, _), (.non, _) => .ok true
  | .is_, _, (.non, _) => .ok false
  | .isn, (.non, _), (.non, _) => .ok false
  | .isn, _, (.non, _) => .ok true
  | .inn, (x, _), (.lst l, n) => if n ≤ 1 ∧ isPy 60 x = true ∧ isPyL 60 l = true then .ok (inD x l) else .fail
  | .inn, (x, _), (.tup l, _) => if isPy 60 x = true ∧ isPyL 60 l = true then .ok (inD x l) else .fail
  | .inn, (x, _), (.dic t ks vs, _) => if isKey t x then .ok (dicLook t ks vs x).isSome else .fail
  | .nin, (x, _), (.lst l, n) => if n ≤ 1 ∧ isPy 60 x = true ∧ isPyL 60 l = true then .ok (!inD x l) else .fail
  | .nin, (x, _), (.tup l, _) => if isPy 60 x = true ∧ isPyL 60 l = true then .ok (!inD x l) else .fail
  | .nin, (x, _), (.dic t ks vs, _) => if isKey t x then .ok (!(dicLook t ks vs x).isSome) else .fail
  | _, _, _ => .fail
def optR {α : Type} : Option α → Res α
  | some a => .ok a
  | none => .fail
def idxD : D × Nat → D → Res (D × Nat)
  | (.lst l, n), .int i => (optR (atI l i)).bind fun x => .ok (x, n - 1)
  | (.tup l, _), .int i => (optR (atI l i)).bind fun x => .ok (x, 0)
  | (.ro l, _), .int i => (optR (atI l i)).bind fun x => .ok (x, 0)
  | (.dic t ks vs, _), x => if isKey t x then (optR (dicLook t ks vs x)).bind fun y => .ok (y, 0) else .fail
  | (.rot l, _), .int i => (optR (atI l i)).bind fun x => .ok (x, 0)
  | _, _ => .fail
def fldD (f : String) : List String → List D → Option D
  | n :: ns, d :: ds => if n = f then some d else fldD f ns ds
  | _, _ => none
def cutD (l : List D) (lo hi : Option Int) : List D := (l.drop (HT.sIx l.length 0 lo)).take (HT.sIx l.length l.length hi - HT.sIx l.length 0 lo)
def slcD : D × Nat → Option Int → Option Int → Res (D × Nat)
  | (.lst l, n), lo, hi => if n ≤ 1 then .ok (.lst (cutD l lo hi), 1) else .fail
  | (.tup l, _), lo, hi => .ok (.tup (cutD l lo hi), 0)
  | _, _, _ => .fail
def revD : D × Nat → Res (D × Nat)
  | (.lst l, n) => if n ≤ 1 then .ok (.lst l.reverse, 1) else .fail
  | _ => .fail
def intsD : List D → Option (List Int)
  | [] => some []
  | .int i :: r => (intsD r).map (i :: ·)
  | _ :: _ => none
def blsD : List D → Option (List Bool)
  | [] => some []
  | .bl b :: r => (blsD r).map (b :: ·)
  | _ :: _ => none
def maxI : Int → List Int → Int
  | m, [] => m
  | m, x :: r => maxI (if m < x then x else m) r
def minI : Int → List Int → Int
  | m, [] => m
  | m, x :: r => minI (if x < m then x else m) r
def lenD : D → Res (D × Nat)
  | .lst l => .ok (.int l.length, 0)
  | .tup l => .ok (.int l.length, 0)
  | .ro l => .ok (.int l.length, 0)
  | .rot l => .ok (.int l.length, 0)
  | _ => .fail
def tupleD (n : Nat) : D → Res (D × Nat)
  | .lst l => if n ≤ 1 then .ok (.tup l, 0) else .fail
  | .tup l => .ok (.tup l, 0)
  | _ => .fail
def listD (n : Nat) : D → Res (D × Nat)
  | .lst l => if n ≤ 1 then .ok (.lst l, 1) else .fail
  | .tup l => .ok (.lst l, 1)
  | .dic _ ks _ => .ok (.lst ks, 1)
  | _ => .fail
/-- pairs of ints -/
def prD (p : Int × Int) : D := .tup [.int p.1, .int p.2]
def prsD : List D → Option (List (Int × Int))
  | [] => some []
  | .tup [.int i, .int j] :: r => (prsD r).map ((i, j) :: ·)
  | _ :: _ => none
def lexLe (a b : Int × Int) : Bool := decide (a.1 < b.1 ∨ (a.1 = b.1 ∧ a.2 ≤ b.2))
def sortL (l : List D) : Res (D × Nat) := match intsD l with
  | some xs => .ok (.lst ((xs.mergeSort (fun a b => decide (a ≤ b))).map .int), 1)
  | none => match prsD l with
    | some ps => .ok (.lst ((ps.mergeSort lexLe).map prD), 1)
    | none => .fail
def sortD (n : Nat) : D → Res (D × Nat)
  | .lst l => if n ≤ 1 then sortL l else .fail
  | _ => .fail
def ints1 (n : Nat) : D → (List Int → Res (D × Nat)) → Res (D × Nat)
  | .lst l, f => if n ≤ 1 then (optR (intsD l)).bind f else .fail
  | _, _ => .fail
def bls1 (n : Nat) : D → (List Bool → Res (D × Nat)) → Res (D × Nat)
  | .lst l, f => if n ≤ 1 then (optR (blsD l)).bind f else .fail
  | _, _ => .fail
def absD : D → Res (D × Nat)
  | .int i => .ok (.int (if i < 0 then -i else i), 0)
  | _ => .fail
def intD : D → Res (D × Nat)
  | .int i => .ok (.int i, 0)
  | .bl b => .ok (.int (if b then 1 else 0), 0)
  | _ => .fail
def maxL : List Int → Res (D × Nat)
  | [] => .fail
  | x :: xs => .ok (.int (maxI x xs), 0)
def minL : List Int → Res (D × Nat)
  | [] => .fail
  | x :: xs => .ok (.int (minI x xs), 0)
def bi1D : Bi → D → Nat → Res (D × Nat)
  | .len, d, _ => lenD d
  | .tuple, d, n => tupleD n d
  | .list, d, n => listD n d
  | .sum, d, n => ints1 n d fun xs => .ok (.int xs.sum, 0)
  | .max, d, n => ints1 n d maxL
  | .min, d, n => ints1 n d minL
  | .abs, d, _ => absD d
  | .int, d, _ => intD d
  | .sorted, d, n => sortD n d
  | .all, d, n => bls1 n d fun bs => .ok (.bl (bs.all id), 0)
  | .any, d, n => bls1 n d fun bs => .ok (.bl (bs.any id), 0)
  | _, _, _ => .fail
def int2 : D → D → (Int → Int → Res (D × Nat)) → Res (D × Nat)
  | .int i, .int j, f => f i j
  | _, _, _ => .fail
def bi2D : Bi → D → D → Res (D × Nat)
  | .max, a, b => int2 a b fun i j => .ok (.int (if j > i then j else i), 0)
  | .min, a, b => int2 a b fun i j => .ok (.int (if j < i then j else i), 0)
  | .gcd, a, b => int2 a b fun i j => .ok (.int (Nat.gcd i.natAbs j.natAbs : Nat), 0)
  | _, _, _ => .fail
def biD (f : Bi) : List (D × Nat) → Res (D × Nat)
  | [a] => bi1D f a.1 a.2
  | [a, b] => bi2D f a.1 b.1
  | _ => .fail
/-- the kinds of isinstance -/
def isT (sb : String → String → Bool) : D → String → Bool
  | .non, _ => false
  | .bl _, t => t == "bool" || t == "int"
  | .int _, t => t == "int"
  | .str _, t => t == "str"
  | .tup _, t => t == "tuple"
  | .lst _, t => t == "list"
  | .ro _, t => t == "list"
  | .dic _ _ _, t => t == "dict"
  | .rot _, t => t == "tuple"
  | .ins c _ _, t => sb c t
  | .exn c _ _, t => sb c t
  | .slf _ _ _ _, _ => false
/-- its class is known -/
def knows (cls : List String) : D → Bool
  | .ins c _ _ => cls.contains c
  | .exn _ _ _ => false
  | .slf _ _ _ _ => false
  | _ => true
/-- an instance of the class that has no own attribute of the name -/
def insOk (c m : String) : D → Bool
  | .ins c' ns _ => c' == c && !ns.contains m
  | _ => false
/-- a method that is called by its name -/
def plainM (m : String) : Bool := !(m == "__len__" || m == "__add__" || m == "__sub__" || m == "__mul__" || m == "__neg__")
/-- what a method that an operator calls asks more: of the right operand, of a length -/
def dunM (c m : String) (ds : List D) (r : Res (D × Nat)) : Res (D × Nat) :=
  if m = "__len__" then match r with
    | .ok (.int n, 0) => if 0 ≤ n ∧ n < 2 ^ 63 then .ok (.int n, 0) else .fail
    | _ => .fail
  else if ds.all (insOk c m) then r else .fail
def negB (neg : Bool) : D × Nat → Res Bool
  | (.bl c, _) => .ok (if neg then !c else c)
  | _ => .fail
mutual
/-- no list in it -/
def noL : D → Bool
  | .non => true | .bl _ => true | .int _ => true | .str _ => true | .exn _ _ _ => true
  | .tup l => noLs l
  | .ins _ _ ds => noLs ds
  | .dic _ _ ds => noLs ds
  | _ => false
def noLs : List D → Bool
  | [] => true
  | d :: r => noL d && noLs r
end
/-- nothing frozen in it that is a list -/
def noLn : Nat → D → Bool
  | n + 1, .lst l => l.all (noLn n)
  | _, d => noL d
/-- owned lists alone -/
def lstN : Nat → D → Bool
  | n + 1, .lst l => l.all (lstN n)
  | _ + 1, .dic _ _ _ => false
  | _ + 1, .ins _ _ _ => false
  | _ + 1, .slf _ _ _ _ => false
  | _, _ => true
def lendR : Res (D × Nat) → Res (D × Nat)
  | .ok c => if noLn c.2 c.1 then .ok c else .fail
  | .exc c ns ds => if ds.all noL then .exc c ns ds else .fail
  | .fail => .fail
def lendB : Res Bool → Res Bool
  | .exc c ns ds => if ds.all noL then .exc c ns ds else .fail
  | r => r
def lentG (Γ : Env) (i : Nat) : Option Env := match Γ[i]? with
  | some (some (d, n)) => if lstN n d then some (Γ.set i (some (d, 0))) else none
  | _ => none
def dgetD (d x z : D) : Res (D × Nat) := match d with
  | .dic t ks vs => if isKey t x then .ok ((dicLook t ks vs x).getD z, 0) else .fail
  | _ => .fail
def isDic : D → Bool
  | .dic _ _ _ => true
  | _ => false
def dgetF (x y : D × Nat) : List (D × Nat) → Res (D × Nat)
  | [] => dgetD x.1 y.1 .non
  | [z] => dgetD x.1 y.1 z.1
  | _ => .fail
/-- what a program's names stand for -/
structure Glb where
  fns : List (List D → Res (D × Nat)) := []
  cns : List (String × D) := []
  sb : String → String → Bool := fun _ _ => false
  /-- the classes that isinstance may meet; the fields that may be read, of instances, of exceptions -/
  cls : List String := []
  xcs : List String := []
  okA : String → String → Bool := fun _ _ => false
  okX : String → String → Bool := fun _ _ => false
inductive TG where
  | nm (i : Nat)
  | tp (ts : List TG)
mutual
inductive EC where
  | var (i : Nat)
  | lit (d : D)
  | glb (x : String)
  | tup (es : List EC)
  | lst (m : Nat) (es : List EC)
  | bin (o : Bop) (a b : BC)
  | neg (a : EC)
  | tst (t : TC)
  | ifx (t : TC) (a b : EC)
  | idx (b : BC) (e : EC)
  | slc (b : BC) (lo hi : List EC)
  | rev (b : BC)
  | att (b : BC) (f : String)
  | call (i : Nat) (es : List EC)
  | bi (f : Bi) (bs : List BC)
  | comp (m : Nat) (t : TG) (s : SRC) (ifs : List TC) (e : EC)
  | comp2 (m : Nat) (t : TG) (s : SRC) (ifs : List TC) (t2 : TG) (s2 : SRC) (ifs2 : List TC) (e : EC)
  | mth (c m : String) (i : Nat) (o : EC) (es : List EC)
  | dnew (t : Bool)
  | exf (i : Nat) (f : String)
  | lend (i : Nat) (e : EC)
  | dget (b : BC) (k : EC) (d : List EC)
  | kcall (i : Nat) (es ks : List EC)
inductive BC where
  | var (i : Nat)
  | idx (b : BC) (e : EC)
  | att (b : BC) (f : String)
  | val (e : EC)
inductive TC where
  | cmp (o : Cop) (a b : BC)
  | chn (o p : Cop) (a b c : BC)
  | and (a b : TC)
  | or (a b : TC)
  | not (a : TC)
  | tru (b : BC)
  | isi (b : BC) (ts : List String)
  | isx (i : Nat) (ts : List String)
  | ceq (neg : Bool) (c : String) (i : Nat) (a b : EC)
  | lend (i : Nat) (t : TC)
inductive SRC where
  | seq (b : BC)
  | made (e : EC)
  | rng (es : List EC)
  | enm (b : BC)
  | zip (a b : BC)
  | rev (b : BC)
end
inductive SC where
  | skip
  | seq (a b : SC)
  | ret (e : EC)
  | reto (i : Nat)
  | asg (t : TG) (fz : Bool) (e : EC)
  | frz (i : Nat)
  | sti (i : Nat) (p : List EC) (m : Nat) (e : EC)
  | app (i : Nat) (p : List EC) (m : Nat) (e : EC)
  | pop (dst : Option Nat) (i : Nat) (k : List EC)
  | popA (o i : Nat) (k : List EC)
  | ins (i : Nat) (k e : EC)
  | aug (i : Nat) (o : Bop) (e : EC)
  | ife (t : TC) (a b : SC)
  | for (t : TG) (s : SRC) (b : SC)
  | whl (m : Env → Nat) (t : TC) (b : SC)
  | brk | cnt
  | exp (e : EC)
  | rse (c : String) (fs : List String) (es : List EC)
  | try (b : SC) (c : String) (i : Nat) (h : SC)
  | stf (f : String) (e : EC)
def TG.slots : TG → List Nat
  | .nm i => [i]
  | .tp ts => slotsL ts
where slotsL : List TG → List Nat
  | [] => []
  | t :: r => t.slots ++ slotsL r
/-- the slots of a block's own names forgotten -/
def wipeG (Γ : Env) : List Nat → Env
  | [] => Γ
  | v :: vs => (wipeG Γ vs).set v none
/-- a walked thing's items; fz: it must be frozen -/
def seqItems (fz : Bool) : D × Nat → Res (List D)
  | (.lst l, n) => if n = 0 ∨ (fz = false ∧ n ≤ 1) then .ok l else .fail
  | (.tup l, _) => .ok l
  | (.ro l, _) => .ok l
  | (.rot l, _) => .ok l
  | _ => .fail
mutual
def asgT : TG → D × Nat → Env → Res Env
  | .nm i, c, Γ => .ok (Γ.set i (some c))
  | .tp ts, (.tup l, _), Γ => asgL ts l Γ
  | .tp ts, (.lst l, n), Γ => if n ≤ 1 then asgL ts l Γ else .fail
  | .tp _, _, _ => .fail
def asgL : List TG → List D → Env → Res Env
  | [], [], Γ => .ok Γ
  | t :: ts, d :: ds, Γ => (asgT t (d, 0) Γ).bind fun Γ1 => asgL ts ds Γ1
  | _, _, _ => .fail
end
def rngOk (i : Int) : Prop := -(2 ^ 62) ≤ i ∧ i < 2 ^ 62
instance (i : Int) : Decidable (rngOk i) := by unfold rngOk; infer_instance
def partOf : List (D × Nat) → Res (Option Int)
  | [] => .ok none
  | [(.int i, _)] => .ok (some i)
  | _ => .fail
def upTo (lo : Int) (n : Nat) : List D := (List.range n).map fun (k : Nat) => D.int (lo + (k : Int))
def rngItems : List D → Res (List D)
  | [.int j] => if rngOk j then .ok (upTo 0 j.toNat) else .fail
  | [.int i, .int j] => if rngOk i ∧ rngOk j then .ok (upTo i (j - i).toNat) else .fail
  | [.int i, .int j, .int c] => if rngOk i ∧ rngOk j ∧ c = -1 then .ok ((List.range (i - j).toNat).map fun (k : Nat) => D.int (i - (k : Int))) else .fail
  | _ => .fail
/-- the turns of a comprehension's clause -/
def compAll (asg : D → Env → Res Env) (test : Env → Res Bool) (body : Env → Res (List D)) (Γ : Env) : List D → Res (List D)
  | [] => .ok []
  | x :: xs => match asg x Γ with
    | .ok Γ1 => match test Γ1 with
      | .ok true => match body Γ1 with
        | .ok ds => (compAll asg test body Γ xs).bind fun r => .ok (ds ++ r)
        | _ => .fail
      | .ok false => compAll asg test body Γ xs
      | _ => .fail
    | _ => .fail
def one1 (m : Nat) : Res (D × Nat) → Res (List D)
  | .ok (d, n) => if m = 0 ∨ n = m then .ok [d] else .fail
  | _ => .fail
def nxR {α : Type} : Res α → Res α
  | .ok a => .ok a
  | _ => .fail
def capL (m : Nat) (r : Res (List D)) : Res (D × Nat) := r.bind fun ds => if ds.length ≤ cap then .ok (.lst ds, m + 1) else .fail
def mapMR {α β : Type} (f : α → Res β) : List α → Res (List β)
  | [] => .ok []
  | x :: xs => (f x).bind fun y => (mapMR f xs).bind fun r => .ok (y :: r)
def fzR (r : Res (D × Nat)) : Res D := r.bind fun c => .ok c.1
def enmItems (l : List D) : List D := (List.range l.length).zipWith (fun (k : Nat) d => D.tup [.int k, d]) l
def zipItems (l m : List D) : List D := l.zipWith (fun a b => D.tup [a, b]) m
mutual
def ev (G : Glb) : EC → Env → Res (D × Nat)
  | .var i, Γ => match Γ[i]? with
    | some (some (d, 0)) => .ok (d, 0)
    | _ => .fail
  | .lit d, _ => .ok (d, 0)
  | .glb x, _ => (optR (G.cns.lookup x)).bind fun d => .ok (d, 0)
  | .tup es, Γ => (evs G es Γ).bind fun ds => .ok (.tup (ds.map (·.1)), 0)
  | .lst m es, Γ => (evs G es Γ).bind fun ds => if m = 0 ∨ ds.all (fun c => c.2 == m) then .ok (.lst (ds.map (·.1)), m + 1) else .fail
  | .bin o a b, Γ => (vw G a Γ).bind fun x => (vw G b Γ).bind fun y => binD o x y
  | .neg a, Γ => (ev G a Γ).bind fun x => negD x.1
  | .tst t, Γ => (ts G t Γ).bind fun b => .ok (.bl b, 0)
  | .ifx t a b, Γ => (ts G t Γ).bind fun c => if c then ev G a Γ else ev G b Γ
  | .idx b e, Γ => (vw G b Γ).bind fun x => (ev G e Γ).bind fun y => (idxD x y.1).bind fun r => if r.2 = 0 then .ok r else .fail
  | .slc b lo hi, Γ => (vw G b Γ).bind fun x => (evs G lo Γ).bind fun l => (partOf l).bind fun l => (evs G hi Γ).bind fun h => (partOf h).bind fun h => slcD x l h
  | .rev b, Γ => (vw G b Γ).bind revD
  | .att b f, Γ => (vw G b Γ).bind fun
    | (.ins c ns ds, _) => if G.okA c f then (optR (fldD f ns ds)).bind fun d => .ok (d, 0) else .fail
    | (.slf c _ ns ds, _) => if G.okA c f then (optR (fldD f ns ds)).bind fun d => .ok (d, 0) else .fail
    | _ => .fail
  | .call i es, Γ => (evs G es Γ).bind fun ds => match G.fns[i]? with
    | some φ => φ (ds.map (·.1))
    | none => .fail
  | .bi f bs, Γ => (vws G bs Γ).bind fun ds => biD f ds
  | .comp m t s ifs e, Γ => (src G false s Γ).bind fun items => capL m (compAll (fun d Γ1 => asgT t (d, 0) Γ1) (fun Γ1 => tss G ifs Γ1) (fun Γ1 => one1 m (ev G e Γ1)) (wipeG Γ t.slots) items)
  | .comp2 m t s ifs t2 s2 ifs2 e, Γ => (src G false s Γ).bind fun items => capL m (compAll (fun d Γ1 => asgT t (d, 0) Γ1) (fun Γ1 => tss G ifs Γ1)
      (fun Γ1 => (nxR (src G true s2 Γ1)).bind fun items2 => compAll (fun d Γ2 => asgT t2 (d, 0) Γ2) (fun Γ2 => tss G ifs2 Γ2) (fun Γ2 => one1 m (ev G e Γ2)) (wipeG Γ1 t2.slots) items2)
      (wipeG Γ (t.slots ++ t2.slots)) items)
  | .mth c m i o es, Γ => (ev G o Γ).bind fun x => if insOk c m x.1 then (evs G es Γ).bind fun ds => match G.fns[i]? with
      | some φ => if plainM m then φ (x.1 :: ds.map (·.1)) else dunM c m (ds.map (·.1)) (φ (x.1 :: ds.map (·.1)))
      | none => .fail
    else .fail
  | .dnew t, _ => .ok (.dic t [] [], 1)
  | .exf i f, Γ => match Γ[i]? with
    | some (some (.exn c ns ds, 0)) => if G.okX c f then (optR (fldD f ns ds)).bind fun d => .ok (d, 0) else .fail
    | _ => .fail
  | .lend i e, Γ => match lentG Γ i with
    | some Γ1 => lendR (ev G e Γ1)
    | none => .fail
  | .dget b k d, Γ => (vw G b Γ).bind fun x => if isDic x.1 then (ev G k Γ).bind fun y => (evs G d Γ).bind (dgetF x y) else .fail
  | .kcall i es ks, Γ => (evs G es Γ).bind fun ds => (evs G ks Γ).bind fun zs => match G.fns[i]? with
    | some φ => φ (ds.map (·.1) ++ zs.map (·.1))
    | none => .fail
def vw (G : Glb) : BC → Env → Res (D × Nat)
  | .var i, Γ => match Γ[i]? with
    | some (some c) => .ok c
    | _ => .fail
  | .idx b e, Γ => (vw G b Γ).bind fun x => (ev G e Γ).bind fun y => idxD x y.1
  | .att b f, Γ => (vw G b Γ).bind fun
    | (.ins c ns ds, _) => if G.okA c f then (optR (fldD f ns ds)).bind fun d => .ok (d, 0) else .fail
    | (.slf c _ ns ds, _) => if G.okA c f then (optR (fldD f ns ds)).bind fun d => .ok (d, 0) else .fail
    | _ => .fail
  | .val e, Γ => ev G e Γ
def evs (G : Glb) : List EC → Env → Res (List (D × Nat))
  | [], _ => .ok []
  | e :: es, Γ => (ev G e Γ).bind fun d => (evs G es Γ).bind fun r => .ok (d :: r)
def vws (G : Glb) : List BC → Env → Res (List (D × Nat))
  | [], _ => .ok []
  | e :: es, Γ => (vw G e Γ).bind fun d => (vws G es Γ).bind fun r => .ok (d :: r)
def ts (G : Glb) : TC → Env → Res Bool
  | .cmp o a b, Γ => (vw G a Γ).bind fun x => (vw G b Γ).bind fun y => cmpD o x y
  | .chn o p a b c, Γ => (vw G a Γ).bind fun x => (vw G b Γ).bind fun y => (cmpD o x y).bind fun k =>
    if k then (vw G c Γ).bind fun z => cmpD p y z else .ok false
  | .and a b, Γ => (ts G a Γ).bind fun c => if c then ts G b Γ else .ok false
  | .or a b, Γ => (ts G a Γ).bind fun c => if c then .ok true else ts G b Γ
  | .not a, Γ => (ts G a Γ).bind fun c => .ok (!c)
  | .tru b, Γ => (vw G b Γ).bind fun
    | (.bl b, _) => .ok b
    | _ => .fail
  | .isi b tys, Γ => (vw G b Γ).bind fun c => if knows G.cls c.1 then .ok (tys.any fun t => isT G.sb c.1 t) else .fail
  | .isx i tys, Γ => match Γ[i]? with
    | some (some (.exn c ns ds, _)) => if G.xcs.contains c then .ok (tys.any fun t => isT G.sb (.exn c ns ds) t) else .fail
    | _ => .fail
  | .ceq neg c i a b, Γ => (ev G a Γ).bind fun x => (ev G b Γ).bind fun y => if insOk c "__eq__" x.1 && knows G.cls y.1 then match G.fns[i]? with
      | some φ => (φ [x.1, y.1]).bind (negB neg)
      | none => .fail
    else .fail
  | .lend i t, Γ => match lentG Γ i with
    | some Γ1 => lendB (ts G t Γ1)
    | none => .fail
def tss (G : Glb) : List TC → Env → Res Bool
  | [], _ => .ok true
  | t :: r, Γ => (ts G t Γ).bind fun c => if c then tss G r Γ else .ok false
def src (G : Glb) (fz : Bool) : SRC → Env → Res (List D)
  | .seq b, Γ => (vw G b Γ).bind (seqItems fz)
  | .made e, Γ => (ev G e Γ).bind fun c => seqItems true (c.1, 0)
  | .rng es, Γ => (evs G es Γ).bind fun ds => rngItems (ds.map (·.1))
  | .enm b, Γ => (vw G b Γ).bind fun x => (seqItems fz x).bind fun l => .ok (enmItems l)
  | .zip a b, Γ => (vw G a Γ).bind fun x => (vw G b Γ).bind fun y => (seqItems fz x).bind fun l => (seqItems fz y).bind fun m => .ok (zipItems l m)
  | .rev b, Γ => (vw G b Γ).bind fun x => (seqItems fz x).bind fun l => .ok l.reverse
end
inductive Out where
  | nx (Γ : Env) | ret (d : D) (n : Nat) | brk (Γ : Env) | cnt (Γ : Env)
  | exc (c : String) (ns : List String) (ds : List D) (Γ : Env) | fail
def Res.out {α : Type} (r : Res α) (Γ : Env) (f : α → Out) : Out := match r with
  | .ok a => f a
  | .exc c ns ds => .exc c ns ds Γ
  | .fail => .fail
@[simp] theorem Res.out_ok {α : Type} (a : α) (Γ) (f : α → Out) : (Res.ok a).out Γ f = f a := rfl
@[simp] theorem Res.out_exc {α : Type} (c ns ds Γ) (f : α → Out) : (Res.exc c ns ds : Res α).out Γ f = .exc c ns ds Γ := rfl
@[simp] theorem Res.out_fail {α : Type} (Γ) (f : α → Out) : (Res.fail : Res α).out Γ f = .fail := rfl
def Out.bind : Out → (Env → Out) → Out
  | .nx Γ, f => f Γ
  | o, _ => o
@[simp] theorem Out.bind_nx (Γ f) : (Out.nx Γ).bind f = f Γ := rfl
@[simp] theorem Out.bind_ret (d n f) : (Out.ret d n).bind f = .ret d n := rfl
@[simp] theorem Out.bind_brk (Γ f) : (Out.brk Γ).bind f = .brk Γ := rfl
@[simp] theorem Out.bind_cnt (Γ f) : (Out.cnt Γ).bind f = .cnt Γ := rfl
@[simp] theorem Out.bind_exc (c ns ds Γ f) : (Out.exc c ns ds Γ).bind f = .exc c ns ds Γ := rfl
@[simp] theorem Out.bind_fail (f) : Out.fail.bind f = .fail := rfl
def forRun (asg : D → Env → Res Env) (body : Env → Out) : List D → Env → Out
  | [], Γ => .nx Γ
  | x :: xs, Γ => match asg x Γ with
    | .ok Γ1 => match body Γ1 with
      | .nx Γ2 => forRun asg body xs Γ2
      | .cnt Γ2 => forRun asg body xs Γ2
      | .brk Γ2 => .nx Γ2
      | o => o
    | _ => .fail
def whlRun (test : Env → Res Bool) (body : Env → Out) : Nat → Env → Out
  | 0, _ => .fail
  | n + 1, Γ => (test Γ).out Γ fun b => if b then match body Γ with
      | .nx Γ2 => whlRun test body n Γ2
      | .cnt Γ2 => whlRun test body n Γ2
      | .brk Γ2 => .nx Γ2
      | o => o
    else .nx Γ
/-- x[k] = y in a list | a dict -/
def put1 : D → D → D → Option D
  | .lst l, .int k, y => (ixN l.length k).map fun j => .lst (l.set j y)
  | .dic t ks vs, x, y => if isKey t x ∧ ks.length < cap then some (.dic t (dicPut t ks vs x y).1 (dicPut t ks vs x y).2) else none
  | _, _, _ => none
/-- the list at the place k of a list of lists -/
def innerAt : D × Nat → D → Option (List D × Nat × List D)
  | (.lst l, n), .int k => if n = 2 then (ixN l.length k).bind fun j => match l[j]? with
      | some (.lst m) => some (l, j, m)
      | _ => none
    else none
  | _, _ => none
/-- an owned thing put into a list of owned things -/
def putN : D × Nat → D → D × Nat → Option D
  | (.lst l, n), .int k, y => if n = y.2 + 1 ∧ 1 ≤ y.2 then (ixN l.length k).map fun j => .lst (l.set j y.1) else none
  | _, _, _ => none
/-- the list at a path; another list put there -/
def pAt : List Nat → D → Option (List D)
  | [], .lst l => some l
  | j :: js, .lst l => (l[j]?).bind (pAt js)
  | _, _ => none
def pSet : List Nat → D → List D → D
  | [], _, m => .lst m
  | j :: js, .lst l, m => .lst (l.set j (pSet js (l[j]?.getD .non) m))
  | _ :: _, d, _ => d
def at3 : D × Nat → D → Option (Nat × List D)
  | (.lst l, 3), .int a => (ixN l.length a).bind fun j => (pAt [j] (.lst l)).map fun l2 => (j, l2)
  | _, _ => none
def at3b (d : D) (r : Nat × List D) : D → Option (Nat × List D)
  | .int b => (ixN r.2.length b).bind fun j2 => (pAt [r.1, j2] d).map fun m => (j2, m)
  | _ => none
def put3 (d : D) (j j2 : Nat) (m : List D) (y : D) : D → Option D
  | .int c => (ixN m.length c).map fun j3 => pSet [j, j2] d (m.set j3 y)
  | _ => none
def inLen : Nat → List D → D → Option Nat
  | _ + 1, l, .int k => (ixN l.length k).bind fun j => (pAt [j] (.lst l)).map List.length
  | _, _, _ => none
def pop0 : D → Option (D × D)
  | .lst l => (l[l.length - 1]?).map fun y => (.lst l.dropLast, y)
  | _ => none
def pop1 : D → D → Option (D × D)
  | .lst l, .int i => if -(2 ^ 63) ≤ i ∧ i < 2 ^ 63 then (seqIndex? i l.length).bind fun k => (l[k]?).map fun y => (.lst (l.eraseIdx k), y) else none
  | _, _ => none
def popC (c : D × Nat) : List D → Option ((D × Nat) × D)
  | [] => if c.2 = 1 then (pop0 c.1).map fun r => ((r.1, 1), r.2) else none
  | [k] => if c.2 = 1 then (pop1 c.1 k).map fun r => ((r.1, 1), r.2) else none
  | _ => none
def putFd (f : String) (d : D) : List String → List D → List String × List D
  | n :: ns, e :: ds => if n = f then (n :: ns, d :: ds) else let r := putFd f d ns ds; (n :: r.1, e :: r.2)
  | _, _ => ([f], [d])
def optO {α : Type} : Option α → (α → Out) → Out
  | some a, f => f a
  | none, _ => .fail
@[simp] theorem optO_some {α : Type} (a : α) (f) : optO (some a) f = f a := rfl
@[simp] theorem optO_none {α : Type} (f : α → Out) : optO none f = .fail := rfl
def catch1 (G : Glb) (c : String) (i : Nat) (h : Env → Out) : Out → Out
  | .exc c' ns ds Γ => if (G.xcs.contains c' && G.xcs.contains c && decide (i < Γ.length)) = false then .fail else if G.sb c' c then match h (Γ.set i (some (.exn c' ns ds, 0))) with
      | .nx Γ2 => .nx (Γ2.set i none)
      | .ret d n => .ret d n
      | _ => .fail
    else .exc c' ns ds Γ
  | o => o
def ex (G : Glb) : SC → Env → Out
  | .skip, Γ => .nx Γ
  | .seq a b, Γ => (ex G a Γ).bind fun Γ1 => ex G b Γ1
  | .ret e, Γ => (ev G e Γ).out Γ fun c => .ret c.1 c.2
  | .reto i, Γ => match Γ[i]? with
    | some (some (d, n)) => .ret d n
    | _ => .fail
  | .asg t fz e, Γ => (ev G e Γ).out Γ fun c => (asgT t (if fz then (c.1, 0) else c) Γ).out Γ .nx
  | .frz i, Γ => match Γ[i]? with
    | some (some (d, _)) => .nx (Γ.set i (some (d, 0)))
    | _ => .nx Γ
  | .sti i p _ e, Γ => match Γ[i]? with
    | some (some c) => (ev G e Γ).out Γ fun y => match p with
      | [k] => (ev G k Γ).out Γ fun kk => if c.2 = 1 then optO (put1 c.1 kk.1 y.1) fun d => .nx (Γ.set i (some (d, 1))) else optO (putN c kk.1 y) fun d => .nx (Γ.set i (some (d, c.2)))
      | [k, k2] => (ev G k Γ).out Γ fun kk => optO (innerAt c kk.1) fun r => (ev G k2 Γ).out Γ fun kk2 => optO (put1 (.lst r.2.2) kk2.1 y.1) fun d => .nx (Γ.set i (some (.lst (r.1.set r.2.1 d), 2)))
      | [k, k2, k3] => (ev G k Γ).out Γ fun kk => optO (at3 c kk.1) fun r => (ev G k2 Γ).out Γ fun kk2 => optO (at3b c.1 r kk2.1) fun r2 => (ev G k3 Γ).out Γ fun kk3 => optO (put3 c.1 r.1 r2.1 r2.2 y.1 kk3.1) fun d => .nx (Γ.set i (some (d, 3)))
      | _ => .fail
    | _ => .fail
  | .app i p _ e, Γ => match Γ[i]? with
    | some (some (.lst l, n + 1)) => match p with
      | [] => (ev G e Γ).out Γ fun y => if l.length < cap ∧ (n = 0 ∨ y.2 = n) then .nx (Γ.set i (some (.lst (l ++ [y.1]), n + 1))) else .fail
      | [k] => (ev G k Γ).out Γ fun kk => optO (inLen n l kk.1) fun z => (ev G e Γ).out Γ fun _ => if z < cap then .nx (Γ.set i none) else .fail
      | _ => .fail
    | _ => .fail
  | .pop dst i k, Γ => match Γ[i]? with
    | some (some (.lst l, 1)) => (evs G k Γ).out Γ fun ks => optO (popC (.lst l, 1) (ks.map (·.1))) fun r => match dst with
      | some j => .nx ((Γ.set i (some r.1)).set j (some (r.2, 0)))
      | none => .nx (Γ.set i (some r.1))
    | _ => .fail
  | .popA o i k, Γ => match Γ[o]?, Γ[i]? with
    | some (some (.lst l, 1)), some (some (.lst m, 1)) => (evs G k Γ).out Γ fun ks => optO (popC (.lst m, 1) (ks.map (·.1))) fun r => if l.length < cap ∧ o ≠ i then .nx ((Γ.set i (some r.1)).set o (some (.lst (l ++ [r.2]), 1))) else .fail
    | _, _ => .fail
  | .ins i k e, Γ => match Γ[i]? with
    | some (some (.lst l, 1)) => (ev G k Γ).out Γ fun kk => (ev G e Γ).out Γ fun y => match kk.1 with
      | .int j => if l.length < cap ∧ 0 ≤ j ∧ j < 2 ^ 63 then .nx (Γ.set i (some (.lst (l.take j.toNat ++ [y.1] ++ l.drop j.toNat), 1))) else .fail
      | _ => .fail
    | _ => .fail
  | .aug i o e, Γ => match Γ[i]? with
    | some (some (.int x, 0)) => (ev G e Γ).out Γ fun y => match y.1 with
      | .int j => (binI o x j).out Γ fun c => .nx (Γ.set i (some c))
      | _ => .fail
    | _ => .fail
  | .ife t a b, Γ => (ts G t Γ).out Γ fun c => if c then ex G a Γ else ex G b Γ
  | .for t s b, Γ => (src G true s Γ).out Γ fun items => forRun (fun d Γ1 => asgT t (d, 0) Γ1) (fun Γ1 => ex G b Γ1) items Γ
  | .whl m t b, Γ => whlRun (fun Γ1 => ts G t Γ1) (fun Γ1 => ex G b Γ1) (m Γ) Γ
  | .brk, Γ => .brk Γ
  | .cnt, Γ => .cnt Γ
  | .exp e, Γ => (ev G e Γ).out Γ fun _ => .nx Γ
  | .rse c fs es, Γ => (evs G es Γ).out Γ fun ds => .exc c fs.reverse (ds.map (·.1)).reverse Γ
  | .try b c i h, Γ => catch1 G c i (fun Γ1 => ex G h Γ1) (ex G b Γ)
  | .stf f e, Γ => (ev G e Γ).out Γ fun y => match Γ.head? with
    | some (some (.slf c a ns ds, 1)) => if G.okA c f = true ∧ ns.length < 800 then .nx (Γ.set 0 (some (.slf c a (putFd f y.1 ns ds).1 (putFd f y.1 ns ds).2, 1))) else .fail
    | _ => .fail
/-- a def's run: a parameters, N slots -/
def runDef (G : Glb) (a N : Nat) (c : SC) (ds : List D) : Res (D × Nat) :=
  if ds.length = a then match ex G c (ds.map (fun d => some (d, 0)) ++ List.replicate (N - a) none) with
    | .nx _ => .ok (.non, 0)
    | .ret d n => .ok (d, n)
    | .exc c ns es _ => .exc c ns es
    | _ => .fail
  else .fail
/-- a new instance by its __init__ (a: parameters without self) -/
def runMk (G : Glb) (cls : String) (me : Nat) (a N : Nat) (c : SC) (ds : List D) : Res (D × Nat) :=
  if ds.length = a then match ex G c (some (.slf cls me [] [], 1) :: ds.map (fun d => some (d, 0)) ++ List.replicate (N - (a + 1)) none) with
    | .nx Γ => match Γ.head? with
      | some (some (.slf c b ns es, 1)) => if b = me ∧ c = cls then .ok (.ins c ns es, 0) else .fail
      | _ => .fail
    | .exc c ns es _ => .exc c ns es
    | _ => .fail
  else .fail
/-- where a parameter's value comes from: the call's k-th value; the j-th keyword-only default -/
inductive KA where
  | arg (k : Nat) | int (j : Nat) (i : Int) | unit (j : Nat) | non (j : Nat) | bl (j : Nat) (b : Bool)
  deriving DecidableEq
def KA.dat : KA → Option D
  | .arg _ => none
  | .int _ i => some (.int i)
  | .unit _ => some (.rot [])
  | .non _ => some .non
  | .bl _ b => some (.bl b)
def goK {α : Type} (l : List α) : List KA → List α → List α
  | [], _ => []
  | .arg k :: r, mv => (l[k]?).toList ++ goK l r mv
  | _ :: r, m :: mv => m :: goK l r mv
  | _ :: r, [] => goK l r []
/-- what a place of the table stands for: a def, a class, a method, nothing yet; a def or a class that is called by .kw alone; a way to call it -/
inductive Ent where
  | fn (x : String) | mk (c : String) | mt (c m : String) | stub (x : String)
  | hot (x : String)
  | fb (x : String) (ps : List Str) | mb (c : String) (ps : List Str)
  | kw (x : String) (cl : Bool) (n : Nat) (ks : List Str) (base : Nat) (pm : List KA)
  deriving DecidableEq
/-- a def's code: its slots' names, its parameters' number -/
structure DefC where
  N : List Str
  a : Nat
  code : SC
  kd : Ent := .fn ""
def runKd (G : Glb) (d : DefC) : List D → Res (D × Nat) := match d.kd with
  | .fn _ => runDef G d.a d.N.length d.code
  | .mt _ _ => runDef G d.a d.N.length d.code
  | .mk c => runMk G c 0 d.a d.N.length d.code
  | .stub _ => fun _ => .fail
  | .hot _ => runDef G d.a d.N.length d.code
  | .fb _ _ => runDef G d.a d.N.length d.code
  | .mb c _ => runMk G c 0 d.a d.N.length d.code
  | .kw _ _ n ks base pm => fun l => if l.length = n + ks.length then match G.fns[base]? with
    | some φ => φ (goK l pm (pm.filterMap KA.dat))
    | none => .fail
    else .fail
/-- an __init__'s run does not hang on where the new instance stands -/
def ParI (G : Glb) (d : DefC) : Prop := ∀ c, (d.kd = .mk c ∨ ∃ ps, d.kd = .mb c ps) → ∀ fns me l, runMk { G with fns := fns } c me d.a d.N.length d.code l = runMk { G with fns := fns } c 0 d.a d.N.length d.code l
/-- the runs, one after another -/
def build (G : Glb) : List DefC → List (List D → Res (D × Nat)) → List (List D → Res (D × Nat))
  | [], acc => acc
  | d :: ds, acc => build G ds (acc ++ [runKd { G with fns := acc } d])
example (G Γ) : ev G (.tup [.lit .non]) Γ = .ok (.tup [.non], 0) := rfl
example (G Γ) : ex G (.seq .skip (.ret (.lit (.int 3)))) Γ = .ret (.int 3) 0 := rfl
end Ev
/-! Ev, part D: operators and built-ins by their data. -/
namespace Ev
open PySem PySem.Spec L2
/-- a value that is made: owned at new objects, or frozen -/
structure New (K : PySem.W.Frag) (S H S' H' : Hp) (n : Nat) (d : D) (v : V) (fq : List Addr) : Prop where
  sH : Sub H H'
  sS : Sub S S'
  sSH : Sub S' H'
  fr : ∀ a, S' a ≠ none → S a = none → H a = none ∨ ∃ l, S' a = some (.tup l)
  ow : Own K S' H' n d v fq
  nd : fq.Nodup
  ff : ∀ a ∈ fq, H a = none ∧ S' a = none
def Done (K : PySem.W.Frag) (S H : Hp) (Q : VK) (c : D × Nat) : Prop := ∀ v S' H' fq, New K S H S' H' c.2 c.1 v fq → Q v H'
section
variable {K : PySem.W.Frag} {S S' H H' : Hp} {Q : VK}
theorem Done.at_ {d : D} {v : V} (h : Done K S H Q (d, 0)) (s : Sub S H) (r : Rp K S d v) : Q v H :=
  h v S H [] ⟨.rfl, .rfl, s, fun a x e => absurd e x, .of0 r, List.nodup_nil, fun _ z => nomatch z⟩
theorem Done.int {i : Int} (h : Done K S H Q (.int i, 0)) (s : Sub S H) : Q (.int i) H := h.at_ s (by simp only [Rp])
theorem Done.bl {i : Bool} (h : Done K S H Q (.bl i, 0)) (s : Sub S H) : Q (.bl i) H := h.at_ s (by simp only [Rp])
theorem none_of_sub (s : Sub S H) {p : Addr} (hp : H p = none) : S p = none := by
  cases e : S p with
  | none => rfl
  | some u => rw [s _ _ e] at hp; cases hp
theorem subUpd2 (s : Sub S H) {p : Addr} {o : HO} : Sub (upd S p o) (upd H p o) := fun a u e => by
  by_cases q : a = p
  · subst q; rw [upd_same] at e ⊢; exact e
  · rw [upd_ne q] at e ⊢; exact s _ _ e
theorem Done.more {c : D × Nat} {S2 : Hp} (h : Done K S H Q c) (sS : Sub S S2) (ft : ∀ a, S2 a ≠ none → S a = none → ∃ l, S2 a = some (.tup l)) : Done K S2 H Q c := fun v S' H' fq n =>
  h v S' H' fq ⟨n.sH, sS.tr n.sS, n.sSH, fun a h1 h2 => by
    by_cases q : S2 a = none
    · exact n.fr a h1 q
    · obtain ⟨l, e⟩ := ft a q h2
      exact .inr ⟨l, n.sS _ _ e⟩, n.ow, n.nd, n.ff⟩
theorem Done.tup {l : List D} {vs : List V} {p : Addr} (h : Done K S H Q (.tup l, 0)) (s : Sub S H) (hp : H p = none) (r : RpL K S l vs) (z : vs.length ≤ cap) : Q (.ref p) (upd H p (.tup vs)) := by
  have hS := none_of_sub s hp
  refine h _ (upd S p (.tup vs)) _ [] ⟨subUpd hp, subUpd hS, (subUpd2 s), fresh_upd hp, .of0 ?_, List.nodup_nil, fun _ z => nomatch z⟩
  simp only [Rp]
  exact ⟨p, vs, rfl, upd_same, z, RpL.mono (subUpd hS) _ _ r⟩
theorem Done.lst {l : List D} {vs : List V} {p : Addr} (h : Done K S H Q (.lst l, 1)) (s : Sub S H) (hp : H p = none) (r : RpL K S l vs) (z : vs.length ≤ cap) : Q (.ref p) (upd H p (.lst vs)) := by
  have hS := none_of_sub s hp
  obtain ⟨fps, a3, ef⟩ := All3.of0 (S := S) (H := upd H p (.lst vs)) r
  refine h _ S _ [p] ⟨subUpd hp, .rfl, s.tr (subUpd hp), fun a x e => absurd e x, ?_, by simp, fun a z => ?_⟩
  · simp only [Own]
    exact ⟨p, vs, fps, rfl, upd_same, z, a3.imp fun _ _ _ _ h => by simpa only [Own] using h, by rw [ef]⟩
  · have e : a = p := by simpa using z
    subst e
    exact ⟨hp, hS⟩
/-- data as the library reads it -/
theorem isPyL_cons {k : Nat} {d : D} {l : List D} (h : isPyL k (d :: l) = true) : isPy k d = true ∧ isPyL k l = true := by
  simpa only [isPyL, Bool.and_eq_true] using h
mutual
theorem dp_of : ∀ (d : D) (k : Nat) (v : V), isPy k d = true → Rp K H d v → Dp K H v (py d)
  | .non, k, v, _, h => by simp only [Rp] at h; subst h; simp only [py]; exact .non
  | .bl b, k, v, _, h => by simp only [Rp] at h; subst h; simp only [py]; exact .bl b
  | .int i, k, v, _, h => by simp only [Rp] at h; subst h; simp only [py]; exact .int i
  | .str s, k, v, _, h => by simp only [Rp] at h; subst h; simp only [py]; exact .str s
  | .tup l, k + 1, v, p, h => by
    simp only [Rp] at h
    obtain ⟨a, vs, e, q, z, r⟩ := h
    subst e
    simp only [isPy] at p
    simp only [py]
    exact .tup (.of q) (dp_ofL l k vs p r)
  | .lst l, k + 1, v, p, h => by
    simp only [Rp] at h
    obtain ⟨a, vs, e, q, z, r⟩ := h
    subst e
    simp only [isPy] at p
    simp only [py]
    exact .lst (.of q) (dp_ofL l k vs p r)
  | .tup l, 0, v, p, h => by simp [isPy] at p
  | .lst l, 0, v, p, h => by simp [isPy] at p
  | .ro l, k, v, p, h => by simp [isPy] at p
  | .ins _ _ _, k, v, p, h => by simp [isPy] at p
  | .dic _ _ _, k, v, p, h => by simp [isPy] at p
  | .rot l, k, v, p, h => by simp [isPy] at p
  | .exn _ _ _, k, v, p, h => by simp [isPy] at p
  | .slf _ _ _ _, k, v, p, h => by simp [isPy] at p
theorem dp_ofL : ∀ (ds : List D) (k : Nat) (vs : List V), isPyL k ds = true → RpL K H ds vs → DpAll K H vs (pyL ds)
  | [], k, vs, _, h => by rw [h.nil_inv]; simp only [pyL]; exact .nil
  | d :: ds, k, vs, p, h => by
    obtain ⟨v, r, e, h1, h2⟩ := h.cons_inv
    subst e
    obtain ⟨p1, p2⟩ := isPyL_cons p
    simp only [pyL]
    exact .cons (dp_of d k v p1 h1) (dp_ofL ds k r p2 h2)
end
mutual
theorem lay_of : ∀ (d : D) (k : Nat), isPy k d = true → (py d).canLay0 = true ∧ (py d).depth ≤ k
  | .non, k, _ => by simp only [py, PyData.canLay0, PyData.depth]; exact ⟨trivial, Nat.zero_le _⟩
  | .bl b, k, _ => by simp only [py, PyData.canLay0, PyData.depth]; exact ⟨trivial, Nat.zero_le _⟩
  | .int i, k, _ => by simp only [py, PyData.canLay0, PyData.depth]; exact ⟨trivial, Nat.zero_le _⟩
  | .str s, k, p => by
    simp only [isPy] at p
    simp only [py, PyData.canLay0, PyData.depth]; exact ⟨p, Nat.zero_le _⟩
  | .tup l, k + 1, p => by
    simp only [isPy] at p
    have h := lay_ofL l k p
    simp only [py, PyData.canLay0, PyData.depth]
    exact ⟨h.1, Nat.succ_le_succ h.2⟩
  | .lst l, k + 1, p => by
    simp only [isPy] at p
    have h := lay_ofL l k p
    simp only [py, PyData.canLay0, PyData.depth]
    exact ⟨h.1, Nat.succ_le_succ h.2⟩
  | .tup l, 0, p => by simp [isPy] at p
  | .lst l, 0, p => by simp [isPy] at p
  | .ro l, k, p => by simp [isPy] at p
  | .ins _ _ _, k, p => by simp [isPy] at p
  | .dic _ _ _, k, p => by simp [isPy] at p
  | .rot l, k, p => by simp [isPy] at p
  | .exn _ _ _, k, p => by simp [isPy] at p
  | .slf _ _ _ _, k, p => by simp [isPy] at p
theorem lay_ofL : ∀ (ds : List D) (k : Nat), isPyL k ds = true → PyData.canLayAll0 (pyL ds) = true ∧ PyData.depthAll (pyL ds) ≤ k
  | [], k, _ => by simp only [pyL, PyData.canLayAll0, PyData.depthAll]; exact ⟨trivial, Nat.zero_le _⟩
  | d :: ds, k, p => by
    obtain ⟨p1, p2⟩ := isPyL_cons p
    have h1 := lay_of d k p1
    have h2 := lay_ofL ds k p2
    simp only [pyL, PyData.canLayAll0, PyData.depthAll]
    exact ⟨by rw [h1.1, h2.1]; rfl, Nat.max_le.mpr ⟨h1.2, h2.2⟩⟩
end
theorem shaped_of {d : D} {k : Nat} (hk : k ≤ 64) (p : isPy k d = true) : SeqAt.shaped (py d) = true := by
  have h := lay_of d k p
  unfold SeqAt.shaped
  rw [h.1, decide_eq_true (Nat.le_trans h.2 hk)]
  rfl
theorem shaped_lst {l : List D} {k : Nat} (hk : k < 64) (p : isPyL k l = true) : SeqAt.shaped (.list (pyL l)) = true := by
  have := shaped_of (d := .lst l) (k := k + 1) hk (by simpa only [isPy] using p)
  simpa only [py] using this
theorem shaped_tup {l : List D} {k : Nat} (hk : k < 64) (p : isPyL k l = true) : SeqAt.shaped (.tuple (pyL l)) = true := by
  have := shaped_of (d := .tup l) (k := k + 1) hk (by simpa only [isPy] using p)
  simpa only [py] using this
theorem pyL_any {x : D} : ∀ (l : List D), (pyL l).any (fun z => PyData.eqv z (py x)) = inD x l
  | [] => by simp only [pyL]; rfl
  | d :: r => by
    have ih := pyL_any (x := x) r
    simp only [pyL, List.any_cons, ih]
    rfl
/-! ### operators -/
abbrev opOf : Bop → Operator
  | .add => .Add | .sub => .Sub | .mul => .Mult | .fdiv => .FloorDiv | .mod => .Mod | .pow => .Pow
def rBin (K : PySem.W.Frag) (o : Bop) : R2 := fun x y H Q => ∃ (S : Hp) (a b : D × Nat), Sub S H ∧ View K S H a.2 a.1 x ∧ View K S H b.2 b.1 y ∧ ∃ c, binD o a b = .ok c ∧ Done K S H Q c
variable {X : Cx}
theorem rp_int {i : Int} {v : V} (h : Rp K S (.int i) v) : v = .int i := by simpa only [Rp] using h
theorem rp_bl {i : Bool} {v : V} (h : Rp K S (.bl i) v) : v = .bl i := by simpa only [Rp] using h
theorem View.int {n : Nat} {i : Int} {v : V} (h : View K S H n (.int i) v) (s : Sub S H) : v = .int i := rp_int (h.rp s)
theorem View.bl {n : Nat} {i : Bool} {v : V} (h : View K S H n (.bl i) v) (s : Sub S H) : v = .bl i := rp_bl (h.rp s)
theorem View.non {n : Nat} {v : V} (h : View K S H n .non v) (s : Sub S H) : v = .non := by simpa only [Rp] using h.rp s
theorem opr_int (o : Bop) : OpR X (binaryOp (opOf o)) (fun x y H Q => ∃ i j c, x = .int i ∧ y = .int j ∧ binI o i j = .ok (.int c, 0) ∧ Q (.int c) H) := by
  intro pins s σ H x y v u Q I rx ry h
  obtain ⟨i, j, c, rfl, rfl, e, q⟩ := h
  cases o with
  | add => simp only [binI, Res.ok.injEq, Prod.mk.injEq, D.int.injEq, and_true] at e; subst e; exact op_add pins s σ H _ _ v u Q I rx ry ⟨i, j, rfl, rfl, q⟩
  | sub => simp only [binI, Res.ok.injEq, Prod.mk.injEq, D.int.injEq, and_true] at e; subst e; exact op_sub pins s σ H _ _ v u Q I rx ry ⟨i, j, rfl, rfl, q⟩
  | mul =>
    simp only [binI] at e
    split at e
    · rename_i h
      simp only [Res.ok.injEq, Prod.mk.injEq, D.int.injEq, and_true] at e; subst e
      by_cases h1 : i.natAbs < 2 ^ 64
      · exact op_mul pins s σ H _ _ v u Q I rx ry ⟨i, j, rfl, rfl, .inl ⟨by omega, by omega⟩, q⟩
      · by_cases h2 : j.natAbs < 2 ^ 64
        · exact op_mul pins s σ H _ _ v u Q I rx ry ⟨i, j, rfl, rfl, .inr ⟨by omega, by omega⟩, q⟩
        · have h3 : i.natAbs.log2 + j.natAbs.log2 < 900000 := by
            rcases h with h | h | h
            · exact absurd h h1
            · exact absurd h h2
            · exact h
          exact op_mulW pins s σ H _ _ v u Q I rx ry ⟨i, j, rfl, rfl, Nat.lt_trans h3 (by decide), q⟩
    · cases e
  | fdiv =>
    simp only [binI] at e
    split at e
    · rename_i h
      simp only [Res.ok.injEq, Prod.mk.injEq, D.int.injEq, and_true] at e; subst e
      rcases h with h | h
      · exact op_fdivN pins s σ H _ _ v u Q I rx ry ⟨i, j, rfl, rfl, h, q⟩
      · refine op_fdivW pins s σ H _ _ v u Q I rx ry ⟨i, j, rfl, rfl, h, ?_⟩
        have e : i / j = i.fdiv j := (Int.fdiv_eq_ediv_of_nonneg i (by omega)).symm
        show Q (.int (i / j)) H
        rw [e]
        exact q
    · cases e
  | mod =>
    simp only [binI] at e
    split at e
    · rename_i h
      simp only [Res.ok.injEq, Prod.mk.injEq, D.int.injEq, and_true] at e; subst e
      exact op_modN pins s σ H _ _ v u Q I rx ry ⟨i, j, rfl, rfl, h, q⟩
    · cases e
  | pow =>
    simp only [binI] at e
    split at e
    · rename_i h
      simp only [Res.ok.injEq, Prod.mk.injEq, D.int.injEq, and_true] at e; subst e
      exact op_pow pins s σ H _ _ v u Q I rx ry ⟨i, j, rfl, rfl, h, q⟩
    · cases e
theorem binI_int {o : Bop} {i j : Int} {c} (h : binI o i j = .ok c) : ∃ k, c = (.int k, 0) := by
  cases o <;> simp only [binI] at h
  · cases h; exact ⟨_, rfl⟩
  · cases h; exact ⟨_, rfl⟩
  · split at h
    · cases h; exact ⟨_, rfl⟩
    · cases h
  · split at h
    · cases h; exact ⟨_, rfl⟩
    · cases h
  · split at h
    · cases h; exact ⟨_, rfl⟩
    · cases h
  · split at h
    · cases h; exact ⟨_, rfl⟩
    · cases h
theorem rBin_int {o : Bop} {S : Hp} {i j : Int} {n m : Nat} {c} (s : Sub S H) (e : binD o (.int i, n) (.int j, m) = .ok c) (q : Done K S H Q c) : ∃ k, binI o i j = .ok (.int k, 0) ∧ Q (.int k) H := by
  have e' : binI o i j = .ok c := by cases o <;> simpa only [binD] using e
  obtain ⟨k, rfl⟩ := binI_int e'
  exact ⟨k, e', q.int s⟩
theorem cap_le {n : Nat} (h : n ≤ cap) : n ≤ sizeLine := by rw [← cap_eq]; exact h
/-- no text, no data of another kind where an op is not told -/
theorem opr_add : OpR X (binaryOp .Add) (rBin X.K .add) := by
  intro pins s σ H x y v u Q I rx ry h
  obtain ⟨S, ⟨a, n⟩, ⟨b, m⟩, sS, va, vb, c, e, q⟩ := h
  cases a with
  | int i =>
    cases b with
    | int j =>
      obtain ⟨k, e', q'⟩ := rBin_int sS e q
      exact opr_int .add pins s σ H x y v u Q I rx ry ⟨i, j, k, va.int sS, vb.int sS, e', q'⟩
    | _ => cases e
  | lst l =>
    cases b with
    | lst l2 =>
      simp only [binD] at e
      split at e
      · rename_i hc
        cases e
        obtain ⟨p, xs, rfl, hp, z1, r1⟩ := va.lst1 hc.1 sS
        obtain ⟨p2, ys, rfl, hp2, z2, r2⟩ := vb.lst1 hc.2.1 sS
        have hl : xs.length + ys.length ≤ cap := by rw [← r1.length, ← r2.length]; exact hc.2.2
        exact op_cat pins s σ H _ _ v u Q I rx ry ⟨p, p2, xs, ys, rfl, rfl, hp, hp2, cap_le hl, fun t ht => q.lst sS ht (r1.append r2) (by rw [List.length_append]; exact hl)⟩
      · cases e
    | _ => cases e
  | tup l =>
    cases b with
    | tup l2 =>
      simp only [binD] at e
      split at e
      · rename_i hc
        cases e
        obtain ⟨p, xs, rfl, hp, z1, r1⟩ := va.tup sS
        obtain ⟨p2, ys, rfl, hp2, z2, r2⟩ := vb.tup sS
        have hl : xs.length + ys.length ≤ cap := by rw [← r1.length, ← r2.length]; exact hc
        have w1 : Rp X.K S (.tup l) (.ref p) := by
          obtain ⟨fp, h⟩ := va
          cases n with
          | zero => exact h.zero.2
          | succ n => simp only [Own] at h; exact h.2
        have w2 : Rp X.K S (.tup l2) (.ref p2) := by
          obtain ⟨fp, h⟩ := vb
          cases m with
          | zero => exact h.zero.2
          | succ n => simp only [Own] at h; exact h.2
        refine op_catA pins s σ H _ _ v u Q I rx ry ⟨p, p2, xs, ys, rfl, rfl, .of hp, .of hp2, cap_le hl, fun z => ?_, fun _ z => ?_, fun _ _ t ht => q.tup sS ht (r1.append r2) (by rw [List.length_append]; exact hl)⟩
        · have : l = [] := List.length_eq_zero_iff.mp (by rw [r1.length, z]; rfl)
          subst this
          exact q.at_ sS (by simpa using w2)
        · have : l2 = [] := List.length_eq_zero_iff.mp (by rw [r2.length, z]; rfl)
          subst this
          exact q.at_ sS (by simpa using w1)
      · cases e
    | _ => cases e
  | _ => cases e
theorem opr_mul : OpR X (binaryOp .Mult) (rBin X.K .mul) := by
  intro pins s σ H x y v u Q I rx ry h
  obtain ⟨S, ⟨a, n⟩, ⟨b, m⟩, sS, va, vb, c, e, q⟩ := h
  cases a with
  | int i =>
    cases b with
    | int j =>
      obtain ⟨k, e', q'⟩ := rBin_int sS e q
      exact opr_int .mul pins s σ H x y v u Q I rx ry ⟨i, j, k, va.int sS, vb.int sS, e', q'⟩
    | _ => cases e
  | lst l =>
    cases b with
    | int k =>
      simp only [binD] at e
      split at e
      · rename_i hc
        cases e
        obtain ⟨p, xs, rfl, hp, z1, r1⟩ := va.lst1 hc.1 sS
        have hl : xs.length * k.toNat ≤ cap := by rw [← r1.length]; exact hc.2.2.2
        refine op_rep pins s σ H _ _ v u Q I rx ry ⟨p, k, xs, rfl, vb.int sS, hp, hc.2.1, hc.2.2.1, cap_le hl, fun t ht => q.lst sS ht ?_ ?_⟩
        · have rep : ∀ n : Nat, RpL X.K S (List.replicate n l).flatten (List.replicate n xs).flatten := fun n => by
            induction n with
            | zero => exact .nil
            | succ n ih => rw [List.replicate_succ, List.replicate_succ, List.flatten_cons, List.flatten_cons]; exact r1.append ih
          exact rep _
        · rw [PyProof.Rows.lm_len_rep_flat, Nat.mul_comm]; exact hl
      · cases e
    | _ => cases e
  | tup l =>
    cases b with
    | int k =>
      simp only [binD] at e
      split at e
      · rename_i hc
        cases e
        obtain ⟨p, xs, rfl, hp, z1, r1⟩ := va.tup sS
        refine op_repT pins s σ H _ _ v u Q I rx ry ⟨p, k, xs, rfl, vb.int sS, .of hp, fun z => hc.1 (List.length_eq_zero_iff.mp (by rw [r1.length, z]; rfl)), hc.2.1, hc.2.2.1, by rw [← r1.length]; exact hc.2.2.2, fun t ht => q.tup sS ht ?_ ?_⟩
        · have rep : ∀ n : Nat, RpL X.K S (List.replicate n l).flatten (List.replicate n xs).flatten := fun n => by
            induction n with
            | zero => exact .nil
            | succ n ih => rw [List.replicate_succ, List.replicate_succ, List.flatten_cons, List.flatten_cons]; exact r1.append ih
          exact rep _
        · rw [PyProof.Rows.lm_len_rep_flat]
          have h1 : k.toNat * xs.length ≤ 1000 * 1000 := Nat.mul_le_mul (by omega) (by rw [← r1.length]; exact hc.2.2.2)
          unfold cap
          omega
      · cases e
    | _ => cases e
  | _ => cases e
theorem opr_bin : ∀ o : Bop, OpR X (binaryOp (opOf o)) (rBin X.K o)
  | .add => opr_add
  | .mul => opr_mul
  | .sub => fun pins s σ H x y v u Q I rx ry ⟨S, ⟨a, n⟩, ⟨b, m⟩, sS, va, vb, c, e, q⟩ => by
    cases a with
    | int i =>
      cases b with
      | int j =>
        obtain ⟨k, e', q'⟩ := rBin_int sS e q
        exact opr_int .sub pins s σ H x y v u Q I rx ry ⟨i, j, k, va.int sS, vb.int sS, e', q'⟩
      | _ => cases e
    | _ => cases b <;> cases e
  | .fdiv => fun pins s σ H x y v u Q I rx ry ⟨S, ⟨a, n⟩, ⟨b, m⟩, sS, va, vb, c, e, q⟩ => by
    cases a with
    | int i =>
      cases b with
      | int j =>
        obtain ⟨k, e', q'⟩ := rBin_int sS e q
        exact opr_int .fdiv pins s σ H x y v u Q I rx ry ⟨i, j, k, va.int sS, vb.int sS, e', q'⟩
      | _ => cases e
    | _ => cases b <;> cases e
  | .mod => fun pins s σ H x y v u Q I rx ry ⟨S, ⟨a, n⟩, ⟨b, m⟩, sS, va, vb, c, e, q⟩ => by
    cases a with
    | int i =>
      cases b with
      | int j =>
        obtain ⟨k, e', q'⟩ := rBin_int sS e q
        exact opr_int .mod pins s σ H x y v u Q I rx ry ⟨i, j, k, va.int sS, vb.int sS, e', q'⟩
      | _ => cases e
    | _ => cases b <;> cases e
  | .pow => fun pins s σ H x y v u Q I rx ry ⟨S, ⟨a, n⟩, ⟨b, m⟩, sS, va, vb, c, e, q⟩ => by
    cases a with
    | int i =>
      cases b with
      | int j =>
        obtain ⟨k, e', q'⟩ := rBin_int sS e q
        exact opr_int .pow pins s σ H x y v u Q I rx ry ⟨i, j, k, va.int sS, vb.int sS, e', q'⟩
      | _ => cases e
    | _ => cases b <;> cases e
/-! ### comparisons -/
abbrev cpOf : Cop → CmpOp
  | .eq => .Eq | .ne => .NotEq | .lt => .Lt | .le => .LtE | .gt => .Gt | .ge => .GtE | .is_ => .Is | .isn => .IsNot | .inn => .In | .nin => .NotIn
def rCmp (K : PySem.W.Frag) (o : Cop) : R2 := fun x y H Q => ∃ (S : Hp) (a b : D × Nat), Sub S H ∧ View K S H a.2 a.1 x ∧ View K S H b.2 b.1 y ∧ ∃ c, cmpD o a b = .ok c ∧ Q (.bl c) H
theorem non_iff {n : Nat} {d : D} {v : V} (h : View K S H n d v) (s : Sub S H) (hx : ∀ c ns ds, d ≠ .exn c ns ds) : decide (v = .non) = (match d with | .non => true | _ => false) := by
  have r := h.rp s
  cases d with
  | non => simp only [Rp] at r; subst r; rfl
  | bl b => simp only [Rp] at r; subst r; rfl
  | int b => simp only [Rp] at r; subst r; rfl
  | str b => simp only [Rp] at r; subst r; rfl
  | tup b => simp only [Rp] at r; obtain ⟨a, vs, e, _⟩ := r; subst e; rfl
  | lst b => simp only [Rp] at r; obtain ⟨a, vs, e, _⟩ := r; subst e; rfl
  | ro b => simp only [Rp] at r; obtain ⟨a, vs, e, _⟩ := r; subst e; rfl
  | ins b ns ds => simp only [Rp] at r; obtain ⟨a, dx, vs, e, _⟩ := r; subst e; rfl
  | rot b => simp only [Rp] at r; obtain ⟨a, vs, e, _⟩ := r; subst e; rfl
  | dic t ks vs => cases t <;> simp only [Rp] at r <;> obtain ⟨a, vs, kk, e, _⟩ := r <;> subst e <;> rfl
  | exn c ns ds => exact absurd rfl (hx c ns ds)
  | slf c a ns ds => simp only [Rp] at r; obtain ⟨e, _⟩ := r; subst e; rfl
theorem opr_eq (hu : X.A.units + 64 < cLine) : OpR X (compareOp .Eq) (rCmp X.K .eq) := by
  intro pins s σ H x y v u Q I rx ry h
  obtain ⟨S, ⟨a, n⟩, ⟨b, m⟩, sS, va, vb, c, e, q⟩ := h
  simp only [cmpD, eqD] at e
  split at e
  · rename_i hp
    cases e
    rw [Bool.and_eq_true] at hp
    exact op_eqD hu pins s σ H x y v u Q I rx ry ⟨_, _, dp_of a 60 x hp.1 (va.rp sS), dp_of b 60 y hp.2 (vb.rp sS), shaped_of (by decide) hp.1, shaped_of (by decide) hp.2, q⟩
  · cases e
theorem opr_ne (hu : X.A.units + 64 < cLine) : OpR X (compareOp .NotEq) (rCmp X.K .ne) := by
  intro pins s σ H x y v u Q I rx ry h
  obtain ⟨S, ⟨a, n⟩, ⟨b, m⟩, sS, va, vb, c, e, q⟩ := h
  simp only [cmpD, eqD] at e
  split at e
  · rename_i hp
    cases e
    rw [Bool.and_eq_true] at hp
    exact op_neD hu pins s σ H x y v u Q I rx ry ⟨_, _, dp_of a 60 x hp.1 (va.rp sS), dp_of b 60 y hp.2 (vb.rp sS), shaped_of (by decide) hp.1, shaped_of (by decide) hp.2, q⟩
  · cases e
theorem opr_ord {o : Cop} {op : Int → Int → Bool} (ho : OpR X (compareOp (cpOf o)) (rI0 fun i j => .bl (op i j))) (hc : ∀ a b c, cmpD o a b = .ok c → ∃ i j, a.1 = .int i ∧ b.1 = .int j ∧ c = op i j) : OpR X (compareOp (cpOf o)) (rCmp X.K o) := by
  intro pins s σ H x y v u Q I rx ry h
  obtain ⟨S, a, b, sS, va, vb, c, e, q⟩ := h
  obtain ⟨i, j, e1, e2, e3⟩ := hc a b c e
  rw [e1] at va
  rw [e2] at vb
  rw [e3] at q
  exact ho pins s σ H x y v u Q I rx ry ⟨i, j, va.int sS, vb.int sS, q⟩
theorem opr_lt : OpR X (compareOp .Lt) (rCmp X.K .lt) := opr_ord (o := .lt) op_lt fun ⟨a, n⟩ ⟨b, m⟩ c e => by
  cases a with
  | int i =>
    cases b with
    | int j => cases e; exact ⟨i, j, rfl, rfl, rfl⟩
    | _ => cases e
  | _ => cases b <;> cases e
theorem opr_le : OpR X (compareOp .LtE) (rCmp X.K .le) := opr_ord (o := .le) op_le fun ⟨a, n⟩ ⟨b, m⟩ c e => by
  cases a with
  | int i =>
    cases b with
    | int j => cases e; exact ⟨i, j, rfl, rfl, rfl⟩
    | _ => cases e
  | _ => cases b <;> cases e
theorem opr_gt : OpR X (compareOp .Gt) (rCmp X.K .gt) := opr_ord (o := .gt) op_gt fun ⟨a, n⟩ ⟨b, m⟩ c e => by
  cases a with
  | int i =>
    cases b with
    | int j => cases e; exact ⟨i, j, rfl, rfl, rfl⟩
    | _ => cases e
  | _ => cases b <;> cases e
theorem opr_ge : OpR X (compareOp .GtE) (rCmp X.K .ge) := opr_ord (o := .ge) op_ge fun ⟨a, n⟩ ⟨b, m⟩ c e => by
  cases a with
  | int i =>
    cases b with
    | int j => cases e; exact ⟨i, j, rfl, rfl, rfl⟩
    | _ => cases e
  | _ => cases b <;> cases e
theorem opr_is : OpR X (compareOp .Is) (rCmp X.K .is_) := by
  intro pins s σ H x y v u Q I rx ry h
  obtain ⟨S, ⟨a, n⟩, ⟨b, m⟩, sS, va, vb, c, e, q⟩ := h
  have hx : ∀ c ns ds, a ≠ .exn c ns ds := fun _ _ _ z => by subst z; cases e
  have hb : b = .non ∨ ∃ z w, a = .bl z ∧ b = .bl w := by cases b <;> first | exact .inl rfl | (cases a <;> first | exact .inr ⟨_, _, rfl, rfl⟩ | (exfalso; cases e))
  rcases hb with hb | ⟨z, w, rfl, rfl⟩
  rotate_left
  · cases e
    exact op_isBl pins s σ H x y v u Q I rx ry ⟨z, w, va.bl sS, vb.bl sS, q⟩
  subst hb
  refine op_isN pins s σ H x y v u Q I rx ry ⟨vb.non sS, ?_⟩
  rw [non_iff va sS hx]
  cases a <;> first | (cases e; exact q) | cases e
theorem opr_isn : OpR X (compareOp .IsNot) (rCmp X.K .isn) := by
  intro pins s σ H x y v u Q I rx ry h
  obtain ⟨S, ⟨a, n⟩, ⟨b, m⟩, sS, va, vb, c, e, q⟩ := h
  have hx : ∀ c ns ds, a ≠ .exn c ns ds := fun _ _ _ z => by subst z; cases e
  have hb : b = .non ∨ ∃ z w, a = .bl z ∧ b = .bl w := by cases b <;> first | exact .inl rfl | (cases a <;> first | exact .inr ⟨_, _, rfl, rfl⟩ | (exfalso; cases e))
  rcases hb with hb | ⟨z, w, rfl, rfl⟩
  rotate_left
  · cases e
    exact op_notBl pins s σ H x y v u Q I rx ry ⟨z, w, va.bl sS, vb.bl sS, q⟩
  subst hb
  refine op_notN pins s σ H x y v u Q I rx ry ⟨vb.non sS, ?_⟩
  rw [non_iff va sS hx]
  cases a <;> first | (cases e; exact q) | cases e
end
end Ev
/-! Ev, part E: dicts, membership, subscripts, slices, built-ins by their data. -/
namespace Ev
open PySem PySem.Spec L2
section
variable {κ : Type} [DecidableEq κ] {f : D → Option κ}
theorem keysG_len : ∀ {ks : List D} {kk : List κ}, keysG f ks = some kk → ks.length = kk.length
  | [], kk, h => by simp only [keysG, Option.some.injEq] at h; subst h; rfl
  | d :: r, kk, h => by
    simp only [keysG] at h
    split at h
    · rename_i k ks h1 h2
      cases h
      rw [List.length_cons, List.length_cons, keysG_len h2]
    · cases h
theorem keysG_cons {d : D} {r : List D} {kk : List κ} (h : keysG f (d :: r) = some kk) : ∃ k ks, f d = some k ∧ keysG f r = some ks ∧ kk = k :: ks := by
  simp only [keysG] at h
  split at h
  · rename_i k ks h1 h2
    cases h
    exact ⟨k, ks, h1, h2, rfl⟩
  · cases h
theorem keysG_snoc : ∀ {ks : List D} {kk : List κ} {x : D} {k : κ}, keysG f ks = some kk → f x = some k → keysG f (ks ++ [x]) = some (kk ++ [k])
  | [], kk, x, k, h, hx => by
    simp only [keysG, Option.some.injEq] at h
    subst h
    simp [keysG, hx]
  | d :: r, kk, x, k, h, hx => by
    obtain ⟨k', ks, h1, h2, rfl⟩ := keysG_cons h
    rw [List.cons_append]
    simp only [keysG, h1, keysG_snoc h2 hx]
    rfl
theorem keysG_any {ks : List D} {kk : List κ} {x : D} {k : κ} {vs : List V} (eq : D → D → Bool) (he : ∀ y j, f y = some j → eq y x = decide (j = k)) (h : keysG f ks = some kk) (hl : ks.length = vs.length) :
    ((kk.zip vs).any fun kv => decide (kv.1 = k)) = ks.any fun y => eq y x := by
  induction ks generalizing kk vs with
  | nil => simp only [keysG, Option.some.injEq] at h; subst h; rfl
  | cons d r ih =>
    obtain ⟨k', ks, h1, h2, rfl⟩ := keysG_cons h
    cases vs with
    | nil => cases hl
    | cons v vs =>
      rw [List.zip_cons_cons, List.any_cons, List.any_cons, ih h2 (by simpa using hl), he d k' h1]
end
section
variable {K : PySem.W.Frag} {S S' H H' : Hp} {Q : VK} {X : Cx}
theorem look_ok {κ : Type} [DecidableEq κ] {f : D → Option κ} {t : Bool} {x : D} {k : κ} (he : ∀ y j, f y = some j → keyEq t y x = decide (j = k)) : ∀ {ks : List D} {kk : List κ} {ds : List D} {vs : List V}, keysG f ks = some kk → RpL K S ds vs → ks.length = vs.length →
    (∀ d, dicLook t ks ds x = some d → ∃ v, valV (kk.zip vs) k = some v ∧ Rp K S d v) ∧ (valV (kk.zip vs) k).isSome = (dicLook t ks ds x).isSome
  | [], kk, ds, vs, h, r, hl => by
    simp only [keysG, Option.some.injEq] at h
    subst h
    refine ⟨fun d e => ?_, ?_⟩
    · unfold dicLook at e; cases e
    · unfold dicLook; rfl
  | d :: r', kk, ds, vs, h, r, hl => by
    obtain ⟨k', ks, h1, h2, rfl⟩ := keysG_cons h
    cases ds with
    | nil => rw [r.nil_inv] at hl; cases hl
    | cons e ds =>
      obtain ⟨v, vs', ev, r1, r2⟩ := r.cons_inv
      subst ev
      have ih := look_ok he h2 r2 (by simpa using hl)
      rw [List.zip_cons_cons]
      unfold dicLook
      rw [he d k' h1]
      by_cases q : k' = k
      · rw [valV_pos (p := (k', v)) q, decide_eq_true q]
        refine ⟨fun d' e' => ?_, rfl⟩
        cases e'
        exact ⟨v, rfl, r1⟩
      · rw [valV_neg (p := (k', v)) q, decide_eq_false q]
        exact ih
theorem keyEq_f {x y : D} {k j : Key} (hx : keyOf x = some k) (hy : keyOf y = some j) : keyEq false y x = decide (j = k) := by
  unfold keyEq
  simp only [hx, hy, Option.some.injEq]
theorem keyEq_t {x y : D} {k j : List Key} (hx : keyT x = some k) (hy : keyT y = some j) : keyEq true y x = decide (j = k) := by
  unfold keyEq
  simp only [hx, hy, Option.some.injEq]
theorem rp_key {d : D} {k : Key} {v : V} (h : keyOf d = some k) (r : Rp K S d v) : v = kV k := by
  cases d with
  | int i => simp only [keyOf] at h; simp only [Rp] at r; subst r; cases h; rfl
  | str i => simp only [keyOf] at h; simp only [Rp] at r; subst r; cases h; rfl
  | _ => simp only [keyOf] at h; cases h
theorem rpl_keys : ∀ {l : List D} {kk : List Key} {vs : List V}, keysOf l = some kk → RpL K S l vs → vs = kk.map kV
  | [], kk, vs, h, r => by
    simp only [keysG, Option.some.injEq] at h
    subst h
    rw [r.nil_inv]; rfl
  | d :: l, kk, vs, h, r => by
    obtain ⟨k, ks, h1, h2, rfl⟩ := keysG_cons h
    obtain ⟨v, vs', e, r1, r2⟩ := r.cons_inv
    subst e
    rw [List.map_cons, rp_key h1 r1, rpl_keys h2 r2]
theorem rp_keyT {d : D} {k : List Key} {v : V} (h : keyT d = some k) (r : Rp K H d v) : ∃ b, v = .ref b ∧ H b = some (.tup (k.map kV)) := by
  cases d with
  | tup l =>
    simp only [keyT] at h
    simp only [Rp] at r
    obtain ⟨a, vs, e, q, z, r⟩ := r
    rw [rpl_keys h r] at q
    exact ⟨a, e, q⟩
  | _ => simp only [keyT] at h; cases h
/-- a dict as it stands -/
def DicH (K : PySem.W.Frag) (S H : Hp) (t : Bool) (ks ds : List D) (v : V) : Prop :=
  ∃ a vs, v = .ref a ∧ RpL K S ds vs ∧ ks.length = vs.length ∧ vs.length ≤ cap ∧ (match t with
    | false => ∃ kk, keysOf ks = some kk ∧ H a = some (.dK (kk.zip vs))
    | true => ∃ kk, keysT ks = some kk ∧ H a = some (.dT (kk.zip vs)))
theorem View.dic {n : Nat} {t : Bool} {ks ds : List D} {v : V} (h : View K S H n (.dic t ks ds) v) (s : Sub S H) : DicH K S H t ks ds v := by
  obtain ⟨fp, h⟩ := h
  cases n with
  | zero =>
    have h2 := h.zero.2
    cases t <;> simp only [Rp] at h2 <;> obtain ⟨a, vs, kk, e, r, z, z2, q1, q2⟩ := h2 <;> exact ⟨a, vs, e, r, z, z2, kk, q1, s _ _ q2⟩
  | succ n => cases t <;> simp only [Own] at h <;> obtain ⟨a, vs, kk, e, _, r, z, z2, q1, q2⟩ := h <;> exact ⟨a, vs, e, r, z, z2, kk, q1, q2⟩
theorem dic_get {t : Bool} {ks ds : List D} {v y : V} {x : D} (h : DicH K S H t ks ds v) (hk : isKey t x = true) (rx : Rp K H x y) :
    ∃ a o, v = .ref a ∧ DGet H a y o ∧ o.isSome = (dicLook t ks ds x).isSome ∧ ∀ d, dicLook t ks ds x = some d → ∃ w, o = some w ∧ Rp K S d w := by
  obtain ⟨a, vs, e, r, z, z2, q⟩ := h
  cases t with
  | false =>
    obtain ⟨kk, q1, q2⟩ := q
    obtain ⟨k, ek⟩ := Option.isSome_iff_exists.mp (show (keyOf x).isSome = true from hk)
    have ey := rp_key ek rx
    have L := look_ok (K := K) (S := S) (f := keyOf) (t := false) (fun y j hy => keyEq_f ek hy) q1 r z
    refine ⟨a, _, e, ey ▸ DGet.k q2, L.2, fun d hd => ?_⟩
    obtain ⟨w, h1, h2⟩ := L.1 d hd
    exact ⟨w, h1, h2⟩
  | true =>
    obtain ⟨kk, q1, q2⟩ := q
    obtain ⟨k, ek⟩ := Option.isSome_iff_exists.mp (show (keyT x).isSome = true from hk)
    obtain ⟨b, ey, eb⟩ := rp_keyT ek rx
    have L := look_ok (K := K) (S := S) (f := keyT) (t := true) (fun y j hy => keyEq_t ek hy) q1 r z
    refine ⟨a, _, e, ey ▸ DGet.t q2 eb, L.2, fun d hd => ?_⟩
    obtain ⟨w, h1, h2⟩ := L.1 d hd
    exact ⟨w, h1, h2⟩
theorem zip_map_put {κ : Type} [DecidableEq κ] {f : D → Option κ} {x : D} {k : κ} {w : V} (eq : D → D → Bool) (he : ∀ y j, f y = some j → eq y x = decide (j = k)) : ∀ {ks : List D} {kk : List κ} {vs : List V}, keysG f ks = some kk → ks.length = vs.length →
    (kk.zip vs).map (fun kv => if kv.1 = k then (kv.1, w) else kv) = kk.zip (ks.zipWith (fun y v => if eq y x then w else v) vs)
  | [], kk, vs, h, hl => by
    simp only [keysG, Option.some.injEq] at h
    subst h; rfl
  | d :: r, kk, vs, h, hl => by
    obtain ⟨k', ks, h1, h2, rfl⟩ := keysG_cons h
    cases vs with
    | nil => cases hl
    | cons v vs =>
      rw [List.zip_cons_cons, List.map_cons, List.zipWith_cons_cons, List.zip_cons_cons, zip_map_put eq he h2 (by simpa using hl), he d k' h1]
      by_cases q : k' = k
      · simp [q]
      · simp [q]
theorem rpl_put {x y : D} {w : V} (eq : D → D → Bool) (ry : Rp K S y w) : ∀ {ks ds : List D} {vs : List V}, RpL K S ds vs → ks.length = vs.length →
    RpL K S (ks.zipWith (fun k v => if eq k x then y else v) ds) (ks.zipWith (fun k v => if eq k x then w else v) vs)
  | [], ds, vs, r, hl => by simpa using RpL.nil
  | k :: ks, ds, vs, r, hl => by
    cases ds with
    | nil => rw [r.nil_inv] at hl; cases hl
    | cons d ds =>
      obtain ⟨v, vs', e, r1, r2⟩ := r.cons_inv
      subst e
      rw [List.zipWith_cons_cons, List.zipWith_cons_cons]
      refine .cons ?_ (rpl_put eq ry r2 (by simpa using hl))
      split
      · exact ry
      · exact r1
theorem dic_put {t : Bool} {ks ds : List D} {v y w : V} {x z : D} (h : DicH K S H t ks ds v) (hk : isKey t x = true) (rx : Rp K H x y) (rz : Rp K S z w) (hl : ks.length < cap) :
    ∃ a H', v = .ref a ∧ DPut H a y w H' ∧ (∃ o, H' = upd H a o) ∧ DicH K S H' t (dicPut t ks ds x z).1 (dicPut t ks ds x z).2 (.ref a) := by
  obtain ⟨a, vs, e, r, hz, z2, q⟩ := h
  have hlen : vs.length < cap := by rw [← hz]; exact hl
  have hsz : vs.length < sizeLine := by rw [← cap_eq]; exact hlen
  cases t with
  | false =>
    obtain ⟨kk, q1, q2⟩ := q
    obtain ⟨k, ek⟩ := Option.isSome_iff_exists.mp (show (keyOf x).isSome = true from hk)
    have ey := rp_key ek rx
    have hkl : kk.length = vs.length := by rw [← keysG_len q1]; exact hz
    have he : ∀ y j, keyOf y = some j → keyEq false y x = decide (j = k) := fun y j hy => keyEq_f ek hy
    refine ⟨a, _, e, ey ▸ DPut.k q2 (by rw [List.length_zip, hkl, Nat.min_self]; exact hsz), ⟨_, rfl⟩, ?_⟩
    have ha := keysG_any (vs := vs) (keyEq false) he q1 hz
    unfold dicPut putK
    rw [ha]
    by_cases c : (ks.any fun y => keyEq false y x) = true
    · rw [if_pos c, if_pos c, zip_map_put (keyEq false) he q1 hz]
      exact ⟨a, _, rfl, rpl_put (keyEq false) rz r hz, by rw [List.length_zipWith, hz, Nat.min_self], by rw [List.length_zipWith, hz, Nat.min_self]; exact z2, kk, q1, upd_same⟩
    · rw [if_neg c, if_neg c]
      refine ⟨a, vs ++ [w], rfl, r.append (.cons rz .nil), by rw [List.length_append, List.length_append, hz]; rfl, by rw [List.length_append]; exact hlen, kk ++ [k], keysG_snoc q1 ek, ?_⟩
      rw [List.zip_append hkl]
      exact upd_same
  | true =>
    obtain ⟨kk, q1, q2⟩ := q
    obtain ⟨k, ek⟩ := Option.isSome_iff_exists.mp (show (keyT x).isSome = true from hk)
    obtain ⟨b, ey, eb⟩ := rp_keyT ek rx
    have hkl : kk.length = vs.length := by rw [← keysG_len q1]; exact hz
    have he : ∀ y j, keyT y = some j → keyEq true y x = decide (j = k) := fun y j hy => keyEq_t ek hy
    refine ⟨a, _, e, ey ▸ DPut.t q2 eb (by rw [List.length_zip, hkl, Nat.min_self]; exact hsz), ⟨_, rfl⟩, ?_⟩
    have ha := keysG_any (vs := vs) (keyEq true) he q1 hz
    unfold dicPut putK
    rw [ha]
    by_cases c : (ks.any fun y => keyEq true y x) = true
    · rw [if_pos c, if_pos c, zip_map_put (keyEq true) he q1 hz]
      exact ⟨a, _, rfl, rpl_put (keyEq true) rz r hz, by rw [List.length_zipWith, hz, Nat.min_self], by rw [List.length_zipWith, hz, Nat.min_self]; exact z2, kk, q1, upd_same⟩
    · rw [if_neg c, if_neg c]
      refine ⟨a, vs ++ [w], rfl, r.append (.cons rz .nil), by rw [List.length_append, List.length_append, hz]; rfl, by rw [List.length_append]; exact hlen, kk ++ [k], keysG_snoc q1 ek, ?_⟩
      rw [List.zip_append hkl]
      exact upd_same
end
end Ev
/-! Ev, part F: membership, subscripts, slices, built-ins by their data. -/
namespace Ev
open PySem PySem.Spec L2
section
variable {K : PySem.W.Frag} {S S' H H' : Hp} {Q : VK} {X : Cx}
theorem View.of_tup {n : Nat} {l : List D} {v : V} (h : View K S H n (.tup l) v) : Rp K S (.tup l) v := by
  obtain ⟨fp, h⟩ := h
  cases n with
  | zero => exact h.zero.2
  | succ n => simp only [Own] at h; exact h.2
theorem dp_tup {n : Nat} {l : List D} {v : V} (h : View K S H n (.tup l) v) (s : Sub S H) (p : isPyL 60 l = true) : Dp K H v (.tuple (pyL l)) := by
  have := dp_of (.tup l) 61 v (by simpa only [isPy] using p) (h.rp s)
  simpa only [py] using this
theorem dp_lst {n : Nat} {l : List D} {v : V} (h : View K S H n (.lst l) v) (s : Sub S H) (p : isPyL 60 l = true) : Dp K H v (.list (pyL l)) := by
  have := dp_of (.lst l) 61 v (by simpa only [isPy] using p) (h.rp s)
  simpa only [py] using this
theorem opr_in (hu : X.A.units + 65 < cLine) : OpR X (compareOp .In) (rCmp X.K .inn) := by
  intro pins s σ H x y v u Q I rx ry h
  obtain ⟨S, ⟨a, n⟩, ⟨b, m⟩, sS, va, vb, c, e, q⟩ := h
  cases b with
  | lst l =>
    simp only [cmpD] at e
    split at e
    · rename_i hc
      cases e
      refine op_inD hu pins s σ H x y v u Q I rx ry ⟨_, _, dp_of a 60 x hc.2.1 (va.rp sS), dp_lst vb sS hc.2.2, shaped_of (by decide) hc.2.1, shaped_lst (by decide) hc.2.2, ?_⟩
      rw [pyL_any]; exact q
    · cases e
  | tup l =>
    simp only [cmpD] at e
    split at e
    · rename_i hc
      cases e
      obtain ⟨as, r1⟩ := Dp.reads I _ x v (dp_of a 60 x hc.1 (va.rp sS)) rx
      obtain ⟨bs, r2⟩ := Dp.reads I _ y u (dp_tup vb sS hc.2) ry
      refine SeqAt.in_tuple_reads r2 r1 (SeqAt.canLay_of_shaped (shaped_tup (by decide) hc.2)) (SeqAt.canLay_of_shaped (shaped_of (by decide) hc.1)) (PyProof.Rows.room_in_shaped (shaped_of (by decide) hc.1) hu) ?_
      rw [pyL_any]
      exact ⟨.bl _, H, I, rfl, q⟩
    · cases e
  | dic t ks ds =>
    simp only [cmpD] at e
    split at e
    · rename_i hc
      cases e
      obtain ⟨p, o, e1, g, e2, _⟩ := dic_get (vb.dic sS) hc (va.rp sS)
      subst e1
      obtain rfl : u = Value.ref p := ry
      exact d_in (by omega) I g rx fun s' I' => ⟨.bl o.isSome, H, I', rfl, by rw [e2]; exact q⟩
    · cases e
  | _ => cases e
theorem opr_nin (hu : X.A.units + 65 < cLine) : OpR X (compareOp .NotIn) (rCmp X.K .nin) := by
  intro pins s σ H x y v u Q I rx ry h
  obtain ⟨S, ⟨a, n⟩, ⟨b, m⟩, sS, va, vb, c, e, q⟩ := h
  cases b with
  | lst l =>
    simp only [cmpD] at e
    split at e
    · rename_i hc
      cases e
      refine op_notInD hu pins s σ H x y v u Q I rx ry ⟨_, _, dp_of a 60 x hc.2.1 (va.rp sS), dp_lst vb sS hc.2.2, shaped_of (by decide) hc.2.1, shaped_lst (by decide) hc.2.2, ?_⟩
      rw [pyL_any]; exact q
    · cases e
  | tup l =>
    simp only [cmpD] at e
    split at e
    · rename_i hc
      cases e
      obtain ⟨as, r1⟩ := Dp.reads I _ x v (dp_of a 60 x hc.1 (va.rp sS)) rx
      obtain ⟨bs, r2⟩ := Dp.reads I _ y u (dp_tup vb sS hc.2) ry
      refine SeqAt.notIn_tuple_reads r2 r1 (SeqAt.canLay_of_shaped (shaped_tup (by decide) hc.2)) (SeqAt.canLay_of_shaped (shaped_of (by decide) hc.1)) (PyProof.Rows.room_in_shaped (shaped_of (by decide) hc.1) hu) ?_
      rw [pyL_any]
      exact ⟨.bl _, H, I, rfl, q⟩
    · cases e
  | dic t ks ds =>
    simp only [cmpD] at e
    split at e
    · rename_i hc
      cases e
      obtain ⟨p, o, e1, g, e2, _⟩ := dic_get (vb.dic sS) hc (va.rp sS)
      subst e1
      obtain rfl : u = Value.ref p := ry
      exact d_notIn (by omega) I g rx fun s' I' => ⟨.bl (!o.isSome), H, I', rfl, by rw [e2]; exact q⟩
    · cases e
  | _ => cases e
theorem opr_cmp (hu : X.A.units + 65 < cLine) : ∀ o : Cop, OpR X (compareOp (cpOf o)) (rCmp X.K o)
  | .eq => opr_eq (by omega)
  | .ne => opr_ne (by omega)
  | .lt => opr_lt
  | .le => opr_le
  | .gt => opr_gt
  | .ge => opr_ge
  | .is_ => opr_is
  | .isn => opr_isn
  | .inn => opr_in hu
  | .nin => opr_nin hu
/-! ### subscripts -/
theorem atI_rpl {l : List D} {vs : List V} {i : Int} {d : D} (r : RpL K S l vs) (e : atI l i = some d) : ∃ v, atI vs i = some v ∧ Rp K S d v := by
  unfold atI at e ⊢
  rw [← r.length]
  cases q : ixN l.length i with
  | none => rw [q] at e; cases e
  | some j =>
    rw [q] at e
    exact r.get e
theorem atI_all3 {P : D → V → List Addr → Prop} : ∀ {l : List D} {vs : List V} {fps : List (List Addr)} {j : Nat} {d : D}, All3 P l vs fps → l[j]? = some d → ∃ v f, vs[j]? = some v ∧ fps[j]? = some f ∧ P d v f
  | _, _, _, _, _, .nil, e => by simp at e
  | _, _, _, 0, d, .cons h r, e => by
    simp at e; subst e
    exact ⟨_, _, rfl, rfl, h⟩
  | _, _, _, j + 1, d, .cons h r, e => by
    obtain ⟨v, f, h1, h2, h3⟩ := atI_all3 (j := j) r (by simpa using e)
    exact ⟨v, f, by simpa using h1, by simpa using h2, h3⟩
theorem atI_view {n : Nat} {l : List D} {v : V} {i : Int} {d : D} (h : View K S H n (.lst l) v) (s : Sub S H) (e : atI l i = some d) : ∃ a vs w, v = .ref a ∧ H a = some (.lst vs) ∧ atI vs i = some w ∧ View K S H (n - 1) d w := by
  obtain ⟨fp, h⟩ := h
  cases n with
  | zero =>
    have h2 := h.zero.2
    simp only [Rp] at h2
    obtain ⟨a, vs, e1, q, z, r⟩ := h2
    obtain ⟨w, h3, h4⟩ := atI_rpl r e
    exact ⟨a, vs, w, e1, s _ _ q, h3, .of h4⟩
  | succ n =>
    simp only [Own] at h
    obtain ⟨a, vs, fps, e1, q, z, r, _⟩ := h
    unfold atI at e
    cases hj : ixN l.length i with
    | none => rw [hj] at e; cases e
    | some j =>
      rw [hj] at e
      obtain ⟨w, f, h1, h2, h3⟩ := atI_all3 r e
      refine ⟨a, vs, w, e1, q, ?_, ⟨f, h3⟩⟩
      unfold atI
      rw [← r.len.1, hj]
      exact h1
def rIdx (K : PySem.W.Frag) : R2 := fun x y H Q => ∃ (S : Hp) (a : D × Nat) (b : D), Sub S H ∧ View K S H a.2 a.1 x ∧ Rp K H b y ∧ ∃ c, idxD a b = .ok c ∧ ∀ w, View K S H c.2 c.1 w → Q w H
theorem optR_ok {α β : Type} {o : Option α} {f : α → Res β} {c : β} (h : (optR o).bind f = .ok c) : ∃ a, o = some a ∧ f a = .ok c := by
  cases o with
  | none => cases h
  | some a => exact ⟨a, rfl, h⟩
theorem ixr_idx (hu : X.A.units + 1 < cLine) : IxR X (rIdx X.K) := by
  intro value slice pins s σ H x y v u Q I rx ry h hs
  obtain ⟨S, ⟨a, n⟩, b, sS, va, vb, c, e, q⟩ := h
  cases a with
  | lst l =>
    cases b with
    | int i =>
      simp only [idxD] at e
      obtain ⟨d, e1, e2⟩ := optR_ok e
      cases e2
      obtain ⟨p, vs, w, rfl, hp, hw, vw⟩ := atI_view va sS e1
      exact ix_list value slice pins s σ H _ y v u Q I rx ry ⟨p, vs, i, w, rfl, rp_int vb, .of hp, hw, q w vw⟩ hs
    | _ => cases e
  | tup l =>
    cases b with
    | int i =>
      simp only [idxD] at e
      obtain ⟨d, e1, e2⟩ := optR_ok e
      cases e2
      obtain ⟨p, vs, rfl, hp, z, r⟩ := va.tup sS
      obtain ⟨w, hw, rw'⟩ := atI_rpl r e1
      exact ix_tup value slice pins s σ H _ y v u Q I rx ry ⟨p, vs, i, w, rfl, rp_int vb, .of hp, hw, q w (.of rw')⟩ hs
    | _ => cases e
  | ro l =>
    cases b with
    | int i =>
      simp only [idxD] at e
      obtain ⟨d, e1, e2⟩ := optR_ok e
      cases e2
      obtain ⟨p, vs, rfl, hp, z, r⟩ := va.ro sS
      obtain ⟨w, hw, rw'⟩ := atI_rpl r e1
      exact ix_list value slice pins s σ H _ y v u Q I rx ry ⟨p, vs, i, w, rfl, rp_int vb, hp, hw, q w (.of rw')⟩ hs
    | _ => cases e
  | rot l =>
    cases b with
    | int i =>
      simp only [idxD] at e
      obtain ⟨d, e1, e2⟩ := optR_ok e
      cases e2
      have h2 : Rp X.K S (.rot l) x := by
        obtain ⟨fp, h⟩ := va
        cases n with
        | zero => exact h.zero.2
        | succ n => simp only [Own] at h; exact h.2
      simp only [Rp] at h2
      obtain ⟨p, vs, rfl, hp, z, r⟩ := h2
      obtain ⟨w, hw, rw'⟩ := atI_rpl r e1
      exact ix_tup value slice pins s σ H _ y v u Q I rx ry ⟨p, vs, i, w, rfl, rp_int vb, sS.sqT hp, hw, q w (.of rw')⟩ hs
    | _ => cases e
  | dic t ks ds =>
    have e : (if isKey t b then (optR (dicLook t ks ds b)).bind fun y => Res.ok (y, 0) else .fail) = .ok c := by cases b <;> exact e
    split at e
    · rename_i hk
      obtain ⟨d, e1, e2⟩ := optR_ok e
      cases e2
      obtain ⟨p, o, rfl, g, _, g2⟩ := dic_get (va.dic sS) hk vb
      obtain ⟨w, rfl, rw'⟩ := g2 d e1
      obtain rfl : v = Value.ref p := rx
      exact PyProof.Rows.tail_any (dict_typeIs I g) PySem.F.slot_dict_getitem.lookup (d_getItem hu I g ry fun w' s3 I3 rw2 => ⟨w, H, I3, rw2, q w (.of rw')⟩) hs
    · cases e
  | _ => cases b <;> cases e
/-! ### slices -/
def rSlc (K : PySem.W.Frag) : V → Option Int → Option Int → Hp → VK → Prop := fun x lo hi H Q => ∃ (S : Hp) (a : D × Nat), Sub S H ∧ View K S H a.2 a.1 x ∧ ∃ c, slcD a lo hi = .ok c ∧ Done K S H Q c
theorem cut_rpl {l : List D} {vs : List V} (r : RpL K S l vs) (lo hi : Option Int) : RpL K S (cutD l lo hi) (cutV vs lo hi) := by
  unfold cutD cutV
  rw [r.length]
  exact (r.drop _).take _
theorem slr_slc : SlR X (rSlc X.K) := by
  intro pins s σ H x v vl vu lo hi sl Q I rx hs pl pu h
  obtain ⟨S, ⟨a, n⟩, sS, va, c, e, q⟩ := h
  cases a with
  | lst l =>
    simp only [slcD] at e
    split at e
    · rename_i hn
      cases e
      obtain ⟨p, vs, rfl, hp, z, r⟩ := va.lst1 hn sS
      exact sl_list pins s σ H _ v vl vu lo hi sl Q I rx hs pl pu ⟨p, vs, rfl, .of hp, fun t ht => q.lst sS ht (cut_rpl r lo hi) (Nat.le_trans (cutV_length vs lo hi) z)⟩
    · cases e
  | tup l =>
    simp only [slcD] at e
    cases e
    obtain ⟨p, vs, rfl, hp, z, r⟩ := va.tup sS
    refine sl_tupA pins s σ H _ v vl vu lo hi sl Q I rx hs pl pu ⟨p, vs, rfl, .of hp, fun hw => ?_, fun _ t ht => q.tup sS ht (cut_rpl r lo hi) (Nat.le_trans (cutV_length vs lo hi) z)⟩
    have el : cutD l lo hi = l := by
      unfold cutD
      rw [r.length, hw.1, hw.2, List.drop_zero, Nat.sub_zero, ← r.length, List.take_length]
    rw [el] at q
    exact q.at_ sS va.of_tup
  | _ => cases e
/-! ### built-ins -/
def rBi (K : PySem.W.Frag) (f : Bi) : List V → Hp → VK → Prop := fun xs H Q => ∃ (S : Hp) (ds : List (D × Nat)), Sub S H ∧ Paired (fun (c : D × Nat) v => View K S H c.2 c.1 v) ds xs ∧ ∃ c, biD f ds = .ok c ∧ Done K S H Q c
theorem intsD_ok : ∀ {l : List D} {ns : List Int} {vs : List V}, intsD l = some ns → RpL K S l vs → vs = ns.map V.int
  | [], ns, vs, h, r => by
    simp only [intsD, Option.some.injEq] at h
    subst h
    rw [r.nil_inv]; rfl
  | d :: l, ns, vs, h, r => by
    cases d with
    | int i =>
      simp only [intsD] at h
      cases q : intsD l with
      | none => rw [q] at h; cases h
      | some ms =>
        rw [q] at h
        cases h
        obtain ⟨v, vs', e, r1, r2⟩ := r.cons_inv
        subst e
        rw [List.map_cons, rp_int r1, intsD_ok q r2]
    | _ => simp only [intsD] at h; cases h
theorem blsD_ok : ∀ {l : List D} {ns : List Bool} {vs : List V}, blsD l = some ns → RpL K S l vs → vs = ns.map V.bl
  | [], ns, vs, h, r => by
    simp only [blsD, Option.some.injEq] at h
    subst h
    rw [r.nil_inv]; rfl
  | d :: l, ns, vs, h, r => by
    cases d with
    | bl i =>
      simp only [blsD] at h
      cases q : blsD l with
      | none => rw [q] at h; cases h
      | some ms =>
        rw [q] at h
        cases h
        obtain ⟨v, vs', e, r1, r2⟩ := r.cons_inv
        subst e
        rw [List.map_cons, rp_bl r1, blsD_ok q r2]
    | _ => simp only [blsD] at h; cases h
theorem maxI_spec : ∀ (xs : List Int) (m : Int), (maxI m xs = m ∨ maxI m xs ∈ xs) ∧ m ≤ maxI m xs ∧ ∀ y ∈ xs, y ≤ maxI m xs
  | [], m => by unfold maxI; exact ⟨.inl rfl, Int.le_refl _, fun _ h => nomatch h⟩
  | x :: r, m => by
    unfold maxI
    obtain ⟨h1, h2, h3⟩ := maxI_spec r (if m < x then x else m)
    refine ⟨?_, ?_, fun y hy => ?_⟩
    · rcases h1 with h1 | h1
      · by_cases c : m < x
        · rw [if_pos c] at h1 ⊢; rw [h1]; exact .inr List.mem_cons_self
        · rw [if_neg c] at h1 ⊢; exact .inl h1
      · exact .inr (List.mem_cons_of_mem _ h1)
    · refine Int.le_trans ?_ h2
      split <;> omega
    · rcases List.mem_cons.mp hy with e | hy
      · subst e
        refine Int.le_trans ?_ h2
        split <;> omega
      · exact h3 y hy
theorem minI_spec : ∀ (xs : List Int) (m : Int), (minI m xs = m ∨ minI m xs ∈ xs) ∧ minI m xs ≤ m ∧ ∀ y ∈ xs, minI m xs ≤ y
  | [], m => by unfold minI; exact ⟨.inl rfl, Int.le_refl _, fun _ h => nomatch h⟩
  | x :: r, m => by
    unfold minI
    obtain ⟨h1, h2, h3⟩ := minI_spec r (if x < m then x else m)
    refine ⟨?_, ?_, fun y hy => ?_⟩
    · rcases h1 with h1 | h1
      · by_cases c : x < m
        · rw [if_pos c] at h1 ⊢; rw [h1]; exact .inr List.mem_cons_self
        · rw [if_neg c] at h1 ⊢; exact .inl h1
      · exact .inr (List.mem_cons_of_mem _ h1)
    · refine Int.le_trans h2 ?_
      split <;> omega
    · rcases List.mem_cons.mp hy with e | hy
      · subst e
        refine Int.le_trans h2 ?_
        split <;> omega
      · exact h3 y hy
theorem bi1 {f : Bi} {xs : List V} {H : Hp} {Q : VK} {P : List V → Hp → VK → Prop} (h : rBi K f xs H Q) (k : ∀ (S : Hp) (d : D) (n : Nat) (v : V) (c : D × Nat), Sub S H → View K S H n d v → biD f [(d, n)] = .ok c → Done K S H Q c → P [v] H Q)
    (k2 : ∀ (S : Hp) (d : D) (n : Nat) (v : V) (d2 : D) (n2 : Nat) (v2 : V) (c : D × Nat), Sub S H → View K S H n d v → View K S H n2 d2 v2 → biD f [(d, n), (d2, n2)] = .ok c → Done K S H Q c → P [v, v2] H Q)
    (no : ∀ ds c, biD f ds = .ok c → ds.length = 1 ∨ ds.length = 2) : P xs H Q := by
  obtain ⟨S, ds, sS, p, c, e, q⟩ := h
  cases p with
  | nil => rcases no _ _ e with z | z <;> cases z
  | @cons a v as vs r1 p =>
    cases p with
    | nil => exact k S a.1 a.2 v c sS r1 e q
    | @cons a2 v2 as vs r2 p =>
      cases p with
      | nil => exact k2 S a.1 a.2 v a2.1 a2.2 v2 c sS r1 r2 e q
      | cons r3 p => rcases no _ _ e with z | z <;> simp at z
end
end Ev
/-! Ev, part G: the built-ins called. -/
namespace Ev
open PySem PySem.Spec L2
section
variable {K : PySem.W.Frag} {S S' H H' : Hp} {Q : VK} {X : Cx}
abbrev biVal : Bi → Value
  | .len => .builtin "len" | .tuple => .type "tuple" | .list => .type "list" | .sum => .builtin "sum" | .max => .builtin "max" | .min => .builtin "min" | .abs => .builtin "abs"
  | .int => .type "int" | .sorted => .builtin "sorted" | .bool => .type "bool" | .all => .builtin "all" | .any => .builtin "any" | .gcd => .builtin "math.gcd" | .str => .type "str"
theorem View.rot {n : Nat} {l : List D} {v : V} (h : View K S H n (.rot l) v) (s : Sub S H) : ∃ a vs, v = .ref a ∧ SqT K H a vs ∧ vs.length ≤ cap ∧ RpL K S l vs := by
  have h2 : Rp K S (.rot l) v := by
    obtain ⟨fp, h⟩ := h
    cases n with
    | zero => exact h.zero.2
    | succ n => simp only [Own] at h; exact h.2
  simp only [Rp] at h2
  obtain ⟨p, vs, e, hp, z, r⟩ := h2
  exact ⟨p, vs, e, s.sqT hp, z, r⟩
theorem View.len {n : Nat} {l : List D} {v : V} (h : View K S H n (.lst l) v) (s : Sub S H) : ∃ a vs, v = .ref a ∧ H a = some (.lst vs) ∧ vs.length = l.length := by
  obtain ⟨fp, h⟩ := h
  cases n with
  | zero =>
    have h2 := h.zero.2
    simp only [Rp] at h2
    obtain ⟨a, vs, e, q, z, r⟩ := h2
    exact ⟨a, vs, e, s _ _ q, r.length.symm⟩
  | succ n =>
    simp only [Own] at h
    obtain ⟨a, vs, fps, e, q, z, r, _⟩ := h
    exact ⟨a, vs, e, q, r.len.1.symm⟩
theorem cr1 {f : Bi} {v : Value} (h : ∀ (S H : Hp) (d : D) (n : Nat) (x : V) (c : D × Nat) (Q : VK) (pins : List (Addr × Obj)) (s : Shared) (σ : L2.St) (u : Value), L2.Inv X pins σ H s → RelV x u → Sub S H → View X.K S H n d x → biD f [(d, n)] = .ok c → Done X.K S H Q c → wpAny (model X.prog X.w) X.A (call v [u]) (EP X pins σ Q) X.xe s)
    (h2 : ∀ (S H : Hp) (d : D) (n : Nat) (x : V) (d2 : D) (n2 : Nat) (x2 : V) (c : D × Nat) (Q : VK) (pins : List (Addr × Obj)) (s : Shared) (σ : L2.St) (u u2 : Value), L2.Inv X pins σ H s → RelV x u → RelV x2 u2 → Sub S H → View X.K S H n d x → View X.K S H n2 d2 x2 → biD f [(d, n), (d2, n2)] = .ok c → Done X.K S H Q c → wpAny (model X.prog X.w) X.A (call v [u, u2]) (EP X pins σ Q) X.xe s)
    (no : ∀ ds c, biD f ds = .ok c → ds.length = 1 ∨ ds.length = 2) : CallR X v (rBi X.K f) := by
  intro pins s σ H xs us Q I r hb
  obtain ⟨S, ds, sS, p, c, e, q⟩ := hb
  cases p with
  | nil => rcases no _ _ e with z | z <;> cases z
  | @cons a x as vs r1 p =>
    cases r with
    | @cons _ u _ us' ru r =>
      cases p with
      | nil => cases r; exact h S H a.1 a.2 x c Q pins s σ u I ru sS r1 e q
      | @cons a2 x2 as vs r2 p =>
        cases r with
        | @cons _ u2 _ us' ru2 r =>
          cases p with
          | nil => cases r; exact h2 S H a.1 a.2 x a2.1 a2.2 x2 c Q pins s σ u u2 I ru ru2 sS r1 r2 e q
          | cons r3 p => rcases no _ _ e with z | z <;> simp at z
theorem no12 {f : Bi} (hf : f ≠ .str ∧ f ≠ .bool) : ∀ ds c, biD f ds = .ok c → ds.length = 1 ∨ ds.length = 2 := fun ds c e => by
  match ds, e with
  | [], e => cases e
  | [_], _ => exact .inl rfl
  | [_, _], _ => exact .inr rfl
  | _ :: _ :: _ :: _, e => cases e
theorem cr_len : CallR X (biVal .len) (rBi X.K .len) := by
  refine cr1 (fun S H d n x c Q pins s σ u I ru sS va e q => ?_) (fun S H d n x d2 n2 x2 c Q pins s σ u u2 I ru ru2 sS va vb e q => ?_) (no12 ⟨by decide, by decide⟩)
  · cases d with
    | lst l =>
      cases e
      obtain ⟨p, vs, rfl, hp, z⟩ := va.len sS
      exact call_len pins s σ H [.ref p] [u] Q I (.cons ru .nil) ⟨.ref p, vs.length, rfl, .inl ⟨vs, .of hp, rfl⟩, by rw [z]; exact q.int sS⟩
    | tup l =>
      cases e
      obtain ⟨p, vs, rfl, hp, _, r⟩ := va.tup sS
      exact call_len pins s σ H [.ref p] [u] Q I (.cons ru .nil) ⟨.ref p, vs.length, rfl, .inr ⟨vs, .of hp, rfl⟩, by rw [← r.length]; exact q.int sS⟩
    | ro l =>
      cases e
      obtain ⟨p, vs, rfl, hp, _, r⟩ := va.ro sS
      exact call_len pins s σ H [.ref p] [u] Q I (.cons ru .nil) ⟨.ref p, vs.length, rfl, .inl ⟨vs, hp, rfl⟩, by rw [← r.length]; exact q.int sS⟩
    | rot l =>
      cases e
      obtain ⟨p, vs, rfl, hp, _, r⟩ := va.rot sS
      exact call_len pins s σ H [.ref p] [u] Q I (.cons ru .nil) ⟨.ref p, vs.length, rfl, .inr ⟨vs, hp, rfl⟩, by rw [← r.length]; exact q.int sS⟩
    | _ => cases e
  · cases e
theorem cr_tuple : CallR X (biVal .tuple) (rBi X.K .tuple) := by
  refine cr1 (fun S H d n x c Q pins s σ u I ru sS va e q => ?_) (fun S H d n x d2 n2 x2 c Q pins s σ u u2 I ru ru2 sS va vb e q => ?_) (no12 ⟨by decide, by decide⟩)
  · cases d with
    | lst l =>
      simp only [biD, bi1D, tupleD, listD] at e
      split at e
      · rename_i hn
        cases e
        obtain ⟨p, vs, rfl, hp, z, r⟩ := va.lst1 hn sS
        exact call_tuple_of pins s σ H [.ref p] [u] Q I (.cons ru .nil) ⟨p, vs, rfl, .inl ⟨.of hp, fun t ht => q.tup sS ht r z⟩⟩
      · cases e
    | tup l =>
      cases e
      obtain ⟨p, vs, rfl, hp, z, r⟩ := va.tup sS
      exact call_tuple_of pins s σ H [.ref p] [u] Q I (.cons ru .nil) ⟨p, vs, rfl, .inr ⟨.of hp, q.at_ sS va.of_tup⟩⟩
    | _ => cases e
  · cases e
theorem rpl_ofkeys : ∀ {l : List D} {kk : List Key}, keysOf l = some kk → RpL K S l (kk.map kV)
  | [], kk, h => by
    simp only [keysG, Option.some.injEq] at h
    subst h
    exact .nil
  | d :: l, kk, h => by
    obtain ⟨k, ks, h1, h2, rfl⟩ := keysG_cons h
    refine .cons ?_ (rpl_ofkeys h2)
    cases d with
    | int i => simp only [keyOf] at h1; cases h1; simp only [Rp]; rfl
    | str i => simp only [keyOf] at h1; cases h1; simp only [Rp]; rfl
    | _ => simp only [keyOf] at h1; cases h1
theorem rpl_bs : ∀ {ks : List D} {kk : List (List Key)} {vs : List V} {bs : List Addr}, keysT ks = some kk → ks.length = vs.length → IsKeys H (kk.zip vs) bs → (∀ b ∈ bs, S b = H b) → (∀ b l, H b = some (.tup l) → l.length ≤ cap) → RpL K S ks (bs.map V.ref) ∧ bs.length = ks.length ∧ ∀ b ∈ bs, ∃ l, H b = some (.tup l)
  | [], kk, vs, bs, h, hl, hb, e, z => by
    simp only [keysG, Option.some.injEq] at h
    subst h
    cases hb
    exact ⟨.nil, rfl, fun _ z => nomatch z⟩
  | d :: r, kk, vs, bs, h, hl, hb, e, z => by
    obtain ⟨k, ks, h1, h2, rfl⟩ := keysG_cons h
    cases vs with
    | nil => cases hl
    | cons v vs =>
      rw [List.zip_cons_cons] at hb
      cases hb with
      | @cons _ b _ bs hb1 hb2 =>
        obtain ⟨ih, il, it⟩ := rpl_bs h2 (by simpa using hl) hb2 (fun b hb => e b (List.mem_cons_of_mem _ hb)) z
        have hb1 : H b = some (.tup (k.map kV)) := hb1
        refine ⟨.cons ?_ ih, by simp [il], fun c hc => ?_⟩
        · cases d with
          | tup l =>
            simp only [keyT] at h1
            simp only [Rp]
            exact ⟨b, _, rfl, (e b List.mem_cons_self).trans hb1, z b _ hb1, rpl_ofkeys h1⟩
          | _ => simp only [keyT] at h1; cases h1
        · rcases List.mem_cons.mp hc with q | q
          · rw [q]; exact ⟨_, hb1⟩
          · exact it c q
theorem cr_list (hc : X.calm = true) : CallR X (biVal .list) (rBi X.K .list) := by
  refine cr1 (fun S H d n x c Q pins s σ u I ru sS va e q => ?_) (fun S H d n x d2 n2 x2 c Q pins s σ u u2 I ru ru2 sS va vb e q => ?_) (no12 ⟨by decide, by decide⟩)
  · cases d with
    | lst l =>
      simp only [biD, bi1D, tupleD, listD] at e
      split at e
      · rename_i hn
        cases e
        obtain ⟨p, vs, rfl, hp, z, r⟩ := va.lst1 hn sS
        exact call_list_of pins s σ H [.ref p] [u] Q I (.cons ru .nil) ⟨p, vs, rfl, .inl (.of hp), fun t ht => q.lst sS ht r z⟩
      · cases e
    | tup l =>
      cases e
      obtain ⟨p, vs, rfl, hp, z, r⟩ := va.tup sS
      exact call_list_of pins s σ H [.ref p] [u] Q I (.cons ru .nil) ⟨p, vs, rfl, .inr (.of hp), fun t ht => q.lst sS ht r z⟩
    | dic t ks ds =>
      cases e
      obtain ⟨a, vs, rfl, r, z1, z2, hk⟩ := va.dic sS
      cases t with
      | false =>
        obtain ⟨kk, q1, q2⟩ := hk
        have hl : kk.length = vs.length := by rw [← keysG_len q1]; exact z1
        refine call_list_dK hc pins s σ H [.ref a] [u] Q I (.cons ru .nil) ⟨a, _, rfl, q2, fun t ht => ?_⟩
        have e1 : ((kk.zip vs).map fun kv => kV kv.1) = kk.map kV := by
          have : (kk.zip vs).map (·.1) = kk := List.map_fst_zip (by omega)
          have e0 := congrArg (List.map kV) this
          rw [List.map_map] at e0
          exact e0
        rw [e1]
        exact q.lst sS ht (rpl_ofkeys q1) (by rw [List.length_map, hl]; exact z2)
      | true =>
        obtain ⟨kk, q1, q2⟩ := hk
        refine call_list_dT hc pins s σ H [.ref a] [u] Q I (.cons ru .nil) ⟨a, _, rfl, .of q2, fun t bs ht hb => ?_⟩
        have zc : ∀ b l, H b = some (.tup l) → l.length ≤ cap := fun b l e => by
          have := (I.hok _ _ e).1
          rw [cap_eq]; exact this
        obtain ⟨r1, l1, tt⟩ := rpl_bs (K := X.K) (S := fun b => if b ∈ bs then H b else S b) q1 z1 hb (fun b hb => if_pos hb) zc
        have s1 : Sub S (fun b => if b ∈ bs then H b else S b) := fun b o e => by
          show (if b ∈ bs then H b else S b) = some o
          split
          · exact sS _ _ e
          · exact e
        have s2 : Sub (fun b => if b ∈ bs then H b else S b) H := fun b o e => by
          have e : (if b ∈ bs then H b else S b) = some o := e
          split at e
          · exact e
          · exact sS _ _ e
        refine (q.more s1 fun b h1 h2 => ?_).lst s2 ht r1 (by rw [List.length_map, l1, z1]; exact z2)
        have h1 : (if b ∈ bs then H b else S b) ≠ none := h1
        by_cases hm : b ∈ bs
        · obtain ⟨l, e⟩ := tt b hm
          exact ⟨l, by show (if b ∈ bs then H b else S b) = _; rw [if_pos hm]; exact e⟩
        · rw [if_neg hm] at h1
          exact absurd h2 h1
    | _ => cases e
  · cases e
theorem cr_sum' (hc : X.calm = true) : CallR X (biVal .sum) (rBi X.K .sum) := by
  refine cr1 (fun S H d n x c Q pins s σ u I ru sS va e q => ?_) (fun S H d n x d2 n2 x2 c Q pins s σ u u2 I ru ru2 sS va vb e q => ?_) (no12 ⟨by decide, by decide⟩)
  · cases d with
    | lst l =>
      simp only [biD, bi1D, ints1, bls1] at e
      split at e
      · rename_i hn
        obtain ⟨xs, e1, e2⟩ := optR_ok e
        cases e2
        obtain ⟨p, vs, rfl, hp, z, r⟩ := va.lst1 hn sS
        rw [intsD_ok e1 r] at hp
        exact cr_sum hc pins s σ H [.ref p] [u] Q I (.cons ru .nil) ⟨p, xs, rfl, .of hp, q.int sS⟩
      · cases e
    | _ => cases e
  · cases e
theorem cr_max' (hc : X.calm = true) : CallR X (biVal .max) (rBi X.K .max) := by
  refine cr1 (fun S H d n x c Q pins s σ u I ru sS va e q => ?_) (fun S H d n x d2 n2 x2 c Q pins s σ u u2 I ru ru2 sS va vb e q => ?_) (no12 ⟨by decide, by decide⟩)
  · cases d with
    | lst l =>
      simp only [biD, bi1D, ints1, bls1] at e
      split at e
      · rename_i hn
        obtain ⟨xs, e1, e2⟩ := optR_ok e
        obtain ⟨p, vs, rfl, hp, z, r⟩ := va.lst1 hn sS
        rw [intsD_ok e1 r] at hp
        cases xs with
        | nil => cases e2
        | cons y ys =>
          cases e2
          refine cr_max hc pins s σ H [.ref p] [u] Q I (.cons ru .nil) ⟨p, _, rfl, .of hp, by simp, fun m h1 h2 => ?_⟩
          obtain ⟨s1, s2, s3⟩ := maxI_spec ys y
          have e : m = maxI y ys := by
            refine Int.le_antisymm ?_ ?_
            · rcases List.mem_cons.mp h1 with h1 | h1
              · rw [h1]; exact s2
              · exact s3 m h1
            · rcases s1 with s1 | s1
              · rw [s1]; exact h2 y List.mem_cons_self
              · exact h2 _ (List.mem_cons_of_mem _ s1)
          rw [e]; exact q.int sS
      · cases e
    | _ => cases e
  · cases d with
    | int i =>
      cases d2 with
      | int j =>
        cases e
        exact call_max2 hc pins s σ H [x, x2] [u, u2] Q I (.cons ru (.cons ru2 .nil)) ⟨i, j, by rw [va.int sS, vb.int sS], q.int sS⟩
      | _ => cases e
    | _ => cases d2 <;> exact (nomatch e)
theorem cr_min' (hc : X.calm = true) : CallR X (biVal .min) (rBi X.K .min) := by
  refine cr1 (fun S H d n x c Q pins s σ u I ru sS va e q => ?_) (fun S H d n x d2 n2 x2 c Q pins s σ u u2 I ru ru2 sS va vb e q => ?_) (no12 ⟨by decide, by decide⟩)
  · cases d with
    | lst l =>
      simp only [biD, bi1D, ints1, bls1] at e
      split at e
      · rename_i hn
        obtain ⟨xs, e1, e2⟩ := optR_ok e
        obtain ⟨p, vs, rfl, hp, z, r⟩ := va.lst1 hn sS
        rw [intsD_ok e1 r] at hp
        cases xs with
        | nil => cases e2
        | cons y ys =>
          cases e2
          refine cr_min hc pins s σ H [.ref p] [u] Q I (.cons ru .nil) ⟨p, _, rfl, .of hp, by simp, fun m h1 h2 => ?_⟩
          obtain ⟨s1, s2, s3⟩ := minI_spec ys y
          have e : m = minI y ys := by
            refine Int.le_antisymm ?_ ?_
            · rcases s1 with s1 | s1
              · rw [s1]; exact h2 y List.mem_cons_self
              · exact h2 _ (List.mem_cons_of_mem _ s1)
            · rcases List.mem_cons.mp h1 with h1 | h1
              · rw [h1]; exact s2
              · exact s3 m h1
          rw [e]; exact q.int sS
      · cases e
    | _ => cases e
  · cases d with
    | int i =>
      cases d2 with
      | int j =>
        cases e
        exact call_min2 hc pins s σ H [x, x2] [u, u2] Q I (.cons ru (.cons ru2 .nil)) ⟨i, j, by rw [va.int sS, vb.int sS], q.int sS⟩
      | _ => cases e
    | _ => cases d2 <;> exact (nomatch e)
theorem cr_abs : CallR X (biVal .abs) (rBi X.K .abs) := by
  refine cr1 (fun S H d n x c Q pins s σ u I ru sS va e q => ?_) (fun S H d n x d2 n2 x2 c Q pins s σ u u2 I ru ru2 sS va vb e q => ?_) (no12 ⟨by decide, by decide⟩)
  · cases d with
    | int i =>
      cases e
      exact call_abs pins s σ H [x] [u] Q I (.cons ru .nil) ⟨i, by rw [va.int sS], q.int sS⟩
    | _ => cases e
  · cases e
theorem cr_int : CallR X (biVal .int) (rBi X.K .int) := by
  refine cr1 (fun S H d n x c Q pins s σ u I ru sS va e q => ?_) (fun S H d n x d2 n2 x2 c Q pins s σ u u2 I ru ru2 sS va vb e q => ?_) (no12 ⟨by decide, by decide⟩)
  · cases d with
    | int i =>
      cases e
      exact call_int1 pins s σ H [x] [u] Q I (.cons ru .nil) (.inl ⟨i, by rw [va.int sS], q.int sS⟩)
    | bl i =>
      cases e
      exact call_int1 pins s σ H [x] [u] Q I (.cons ru .nil) (.inr ⟨i, by rw [va.bl sS], q.int sS⟩)
    | _ => cases e
  · cases e
theorem cr_gcd' : CallR X (biVal .gcd) (rBi X.K .gcd) := by
  refine cr1 (fun S H d n x c Q pins s σ u I ru sS va e q => ?_) (fun S H d n x d2 n2 x2 c Q pins s σ u u2 I ru ru2 sS va vb e q => ?_) (no12 ⟨by decide, by decide⟩)
  · cases e
  · cases d with
    | int i =>
      cases d2 with
      | int j =>
        cases e
        exact cr_gcd pins s σ H [x, x2] [u, u2] Q I (.cons ru (.cons ru2 .nil)) ⟨i, j, by rw [va.int sS, vb.int sS], q.int sS⟩
      | _ => cases e
    | _ => cases d2 <;> exact (nomatch e)
theorem rpl_ints : ∀ ns : List Int, RpL K S (ns.map D.int) (ns.map V.int)
  | [] => .nil
  | n :: ns => .cons (by simp only [Rp]) (rpl_ints ns)
theorem perm_sorted_eq {a b : List Int} (h : a.Perm b) (ha : a.Pairwise (· ≤ ·)) (hb : b.Pairwise (· ≤ ·)) : a = b :=
  h.eq_of_pairwise (fun _ _ _ _ h1 h2 => Int.le_antisymm h1 h2) ha hb
theorem prsD_ok {k : V → Int × Int} (sS : Sub S H) (hk : ∀ t i j, H t = some (.tup [.int i, .int j]) → k (.ref t) = (i, j)) : ∀ {l : List D} {ps : List (Int × Int)} {vs : List V}, prsD l = some ps → RpL K S l vs →
    vs.map k = ps ∧ ∀ x ∈ vs, (∃ t, x = .ref t ∧ H t = some (.tup [.int (k x).1, .int (k x).2])) ∧ Rp K S (prD (k x)) x
  | [], ps, vs, h, r => by
    simp only [prsD, Option.some.injEq] at h
    subst h
    rw [r.nil_inv]
    exact ⟨rfl, fun _ z => nomatch z⟩
  | d :: l, ps, vs, h, r => by
    unfold prsD at h
    split at h
    · cases ‹_ = []›
    · rename_i i j r' e
      cases e
      obtain ⟨ps', h1, rfl⟩ := Option.map_eq_some_iff.mp h
      obtain ⟨v, vs', e, r1, r2⟩ := r.cons_inv
      subst e
      obtain ⟨ih1, ih2⟩ := prsD_ok sS hk h1 r2
      have r1' := r1
      simp only [Rp] at r1
      obtain ⟨a, ws, rfl, q, z, rw1⟩ := r1
      obtain ⟨w1, ws1, e1, q1, rw2⟩ := rw1.cons_inv
      subst e1
      obtain ⟨w2, ws2, e2, q2, rw3⟩ := rw2.cons_inv
      subst e2
      rw [rw3.nil_inv] at q
      simp only [Rp] at q1 q2
      subst q1 q2
      have e := hk a i j (sS _ _ q)
      refine ⟨by rw [List.map_cons, ih1, e], fun x hx => ?_⟩
      rcases List.mem_cons.mp hx with hx | hx
      · subst hx
        rw [e]
        exact ⟨⟨a, rfl, sS _ _ q⟩, r1'⟩
      · exact ih2 x hx
    · cases h
theorem lexLe_trans (a b c : Int × Int) : lexLe a b = true → lexLe b c = true → lexLe a c = true := by
  simp only [lexLe, decide_eq_true_eq]; omega
theorem lexLe_total (a b : Int × Int) : (lexLe a b || lexLe b a) = true := by
  simp only [lexLe, Bool.or_eq_true, decide_eq_true_eq]; omega
theorem lexLe_anti {a b : Int × Int} (h1 : lexLe a b = true) (h2 : lexLe b a = true) : a = b := by
  simp only [lexLe, decide_eq_true_eq] at h1 h2
  obtain ⟨a1, a2⟩ := a
  obtain ⟨b1, b2⟩ := b
  simp only at h1 h2
  simp only [Prod.mk.injEq]
  omega
theorem rpl_map {k : V → Int × Int} : ∀ {ys : List V}, (∀ x ∈ ys, Rp K S (prD (k x)) x) → RpL K S ((ys.map k).map prD) ys
  | [], _ => .nil
  | y :: ys, h => .cons (h y List.mem_cons_self) (rpl_map fun x hx => h x (List.mem_cons_of_mem _ hx))
theorem cr_sorted' : CallR X (biVal .sorted) (rBi X.K .sorted) := by
  refine cr1 (fun S H d n x c Q pins s σ u I ru sS va e q => ?_) (fun S H d n x d2 n2 x2 c Q pins s σ u u2 I ru ru2 sS va vb e q => ?_) (no12 ⟨by decide, by decide⟩)
  · cases d with
    | lst l =>
      simp only [biD, bi1D, sortD] at e
      split at e
      · rename_i hn
        obtain ⟨p, vs, rfl, hp, z, r⟩ := va.lst1 hn sS
        unfold sortL at e
        split at e
        · rename_i xs e1
          cases e
          have ev := intsD_ok e1 r
          rw [ev] at hp
          refine cr_sortedI pins s σ H [.ref p] [u] Q I (.cons ru .nil) ⟨p, xs, rfl, .of hp, fun ns t hp1 hp2 ht => ?_⟩
          have pm : (xs.mergeSort (fun a b => decide (a ≤ b))).Perm xs := List.mergeSort_perm _ _
          have so : (xs.mergeSort (fun a b => decide (a ≤ b))).Pairwise (· ≤ ·) := by
            have := List.pairwise_mergeSort (le := fun a b : Int => decide (a ≤ b)) (fun a b c h1 h2 => by simp only [decide_eq_true_eq] at *; omega) (fun a b => by simp only [Bool.or_eq_true, decide_eq_true_eq]; omega) xs
            exact this.imp fun h => by simpa using h
          rw [perm_sorted_eq (hp1.trans pm.symm) hp2 so]
          refine q.lst sS ht (rpl_ints _) ?_
          rw [List.length_map, pm.length_eq]
          rw [ev, List.length_map] at z
          exact z
        · split at e
          · rename_i ps e1
            cases e
            let k : V → Int × Int := fun x => match x with
              | .ref t => match H t with
                | some (.tup [.int i, .int j]) => (i, j)
                | _ => (0, 0)
              | _ => (0, 0)
            have hk : ∀ t i j, H t = some (.tup [.int i, .int j]) → k (.ref t) = (i, j) := fun t i j e => by
              show (match H t with
                | some (.tup [.int i, .int j]) => (i, j)
                | _ => ((0, 0) : Int × Int)) = (i, j)
              rw [e]
            obtain ⟨k1, k2⟩ := prsD_ok sS hk e1 r
            refine cr_sortedPO pins s σ H [.ref p] [u] Q I (.cons ru .nil) ⟨p, vs, k, rfl, .of hp, fun x hx => (k2 x hx).1, fun ys t hs hb ht => ?_⟩
            have pm : (ps.mergeSort lexLe).Perm ps := List.mergeSort_perm _ _
            have so := List.pairwise_mergeSort lexLe_trans lexLe_total ps
            have so2 : (ys.map k).Pairwise (fun a b => lexLe a b = true) := by
              rw [List.pairwise_map]
              refine List.Pairwise.imp (fun {a b} h => ?_) hs
              have h := SrtO.lexB_no.mp h
              simp only [lexLe, decide_eq_true_eq]
              omega
            have eq : ys.map k = ps.mergeSort lexLe := ((hb.perm.map k).trans (by rw [k1]; exact pm.symm)).eq_of_pairwise (fun _ _ _ _ h1 h2 => lexLe_anti h1 h2) so2 so
            rw [← eq] at q
            exact q.lst sS ht (rpl_map fun x hx => (k2 x (hb.perm.mem_iff.mp hx)).2) (by rw [hb.perm.length_eq]; exact z)
          · cases e
      · cases e
    | _ => cases e
  · cases e
theorem cr_all' (hc : X.calm = true) : CallR X (biVal .all) (rBi X.K .all) := by
  refine cr1 (fun S H d n x c Q pins s σ u I ru sS va e q => ?_) (fun S H d n x d2 n2 x2 c Q pins s σ u u2 I ru ru2 sS va vb e q => ?_) (no12 ⟨by decide, by decide⟩)
  · cases d with
    | lst l =>
      simp only [biD, bi1D, ints1, bls1] at e
      split at e
      · rename_i hn
        obtain ⟨xs, e1, e2⟩ := optR_ok e
        cases e2
        obtain ⟨p, vs, rfl, hp, z, r⟩ := va.lst1 hn sS
        rw [blsD_ok e1 r] at hp
        exact cr_all hc pins s σ H [.ref p] [u] Q I (.cons ru .nil) ⟨p, xs, rfl, .of hp, q.bl sS⟩
      · cases e
    | _ => cases e
  · cases e
theorem cr_any' (hc : X.calm = true) : CallR X (biVal .any) (rBi X.K .any) := by
  refine cr1 (fun S H d n x c Q pins s σ u I ru sS va e q => ?_) (fun S H d n x d2 n2 x2 c Q pins s σ u u2 I ru ru2 sS va vb e q => ?_) (no12 ⟨by decide, by decide⟩)
  · cases d with
    | lst l =>
      simp only [biD, bi1D, ints1, bls1] at e
      split at e
      · rename_i hn
        obtain ⟨xs, e1, e2⟩ := optR_ok e
        cases e2
        obtain ⟨p, vs, rfl, hp, z, r⟩ := va.lst1 hn sS
        rw [blsD_ok e1 r] at hp
        exact cr_any hc pins s σ H [.ref p] [u] Q I (.cons ru .nil) ⟨p, xs, rfl, .of hp, q.bl sS⟩
      · cases e
    | _ => cases e
  · cases e
theorem cr_none {f : Bi} (h : ∀ ds c, biD f ds ≠ .ok c) : CallR X (biVal f) (rBi X.K f) := by
  intro pins s σ H xs us Q I r hb
  obtain ⟨S, ds, sS, p, c, e, q⟩ := hb
  exact absurd e (h ds c)
theorem cr_bi (hc : X.calm = true) : ∀ f : Bi, CallR X (biVal f) (rBi X.K f)
  | .len => cr_len | .tuple => cr_tuple | .list => cr_list hc | .sum => cr_sum' hc | .max => cr_max' hc | .min => cr_min' hc | .abs => cr_abs | .int => cr_int
  | .sorted => cr_sorted' | .all => cr_all' hc | .any => cr_any' hc | .gcd => cr_gcd'
  | .bool => cr_none fun ds c e => by
    match ds with
    | [] => cases e
    | [_] => cases e
    | [_, _] => cases e
    | _ :: _ :: _ :: _ => cases e
  | .str => cr_none fun ds c e => by
    match ds with
    | [] => cases e
    | [_] => cases e
    | [_, _] => cases e
    | _ :: _ :: _ :: _ => cases e
end
end Ev
/-! Ev, part H: readings of codes; the rules of simple expressions. -/
namespace Ev
open PySem PySem.Spec L2
def XD (S : Hp) (dx : Option Addr) (ns : List String) (vs : List V) : Prop := (ns = [] ∧ dx = none) ∨ ∃ d, dx = some d ∧ S d = some (.xd (zipF ns vs))
/-- what is raised is wanted -/
def PX (K : PySem.W.Frag) (W : WX) (g : Gh) (S : Hp) (σ : L2.St) (H : Hp) (C : CM) (c : String) (ns : List String) (ds : List D) : Prop :=
  ∀ S' H' dx vs, Sub H H' → Sub S S' → Stt K g S' σ H' C → ns.length = vs.length → RpL K S' ds vs → XD S' dx ns vs → W (.ref (He.ga K c)) dx σ H'
def PO {α : Type} (K : PySem.W.Frag) (W : WX) (g : Gh) (S : Hp) (σ : L2.St) (H : Hp) (C : CM) (r : Res α) (f : α → Prop) : Prop := match r with
  | .ok a => f a
  | .exc c ns ds => PX K W g S σ H C c ns ds
  | .fail => False
abbrev Post (α τ : Type) := Gh → Hp → L2.St → Hp → CM → τ → α → Prop
def Got (K : PySem.W.Frag) (g : Gh) (S : Hp) (σ : L2.St) (H : Hp) (C : CM) (c : D × Nat) (v : V) : Prop := ∀ j, σ.length ≤ j → C j = none → Stt K g S σ H (setC C j (some (c.1, c.2, v)))
def QE (K : PySem.W.Frag) : Post (D × Nat) VK := fun g S σ H C Q c => ∀ v S' H', Sub H H' → Sub S S' → Got K g S' σ H' C c v → Q v H'
def QV (K : PySem.W.Frag) : Post (D × Nat) VK := fun g S σ H C Q c => ∀ v S' H', Sub H H' → Sub S S' → Stt K g S' σ H' C → View K S' H' c.2 c.1 v → Q v H'
def QB (K : PySem.W.Frag) : Post Bool (Bool → Hp → Prop) := fun g S σ H C Q b => ∀ S' H', Sub H H' → Sub S S' → Stt K g S' σ H' C → Q b H'
def QL (K : PySem.W.Frag) : Post (List (D × Nat)) (List V → Hp → Prop) := fun g S σ H C Q cs => ∀ vs S' H', Sub H H' → Sub S S' → Stt K g S' σ H' C → RpL K S' (cs.map (·.1)) vs → Q vs H'
def QW (K : PySem.W.Frag) : Post (List (D × Nat)) (List V → Hp → Prop) := fun g S σ H C Q cs => ∀ vs S' H', Sub H H' → Sub S S' → Stt K g S' σ H' C → Paired (fun (c : D × Nat) v => View K S' H' c.2 c.1 v) cs vs → Q vs H'
structure PMono {α τ : Type} (p : Post α τ) : Prop where
  m : ∀ {g S σ H C Q a S' H'}, Sub H H' → Sub S S' → p g S σ H C Q a → p g S' σ H' C Q a
section
variable {K : PySem.W.Frag} {W : WX} {M : Md} {g : Gh} {S S' H H' : Hp} {σ : L2.St} {C : CM} {Γ : Env}
theorem pmE : PMono (QE K) := .mk fun sH sS h v S2 H2 a b c => h v S2 H2 (sH.tr a) (sS.tr b) c
theorem pmV : PMono (QV K) := .mk fun sH sS h v S2 H2 a b c d => h v S2 H2 (sH.tr a) (sS.tr b) c d
theorem pmB : PMono (QB K) := .mk fun sH sS h S2 H2 a b c => h S2 H2 (sH.tr a) (sS.tr b) c
theorem pmL : PMono (QL K) := .mk fun sH sS h v S2 H2 a b c d => h v S2 H2 (sH.tr a) (sS.tr b) c d
theorem pmW : PMono (QW K) := .mk fun sH sS h v S2 H2 a b c d => h v S2 H2 (sH.tr a) (sS.tr b) c d
theorem PX.mono {c ns ds} (sH : Sub H H') (sS : Sub S S') (h : PX K W g S σ H C c ns ds) : PX K W g S' σ H' C c ns ds := fun S2 H2 dx vs a b => h S2 H2 dx vs (sH.tr a) (sS.tr b)
theorem PO.mono {α τ : Type} {p : Post α τ} {Q : τ} {r : Res α} (hm : PMono p) (sH : Sub H H') (sS : Sub S S') (h : PO K W g S σ H C r (p g S σ H C Q)) : PO K W g S' σ H' C r (p g S' σ H' C Q) := by
  cases r with
  | ok a => exact hm.m sH sS h
  | exc c ns ds => exact PX.mono sH sS h
  | fail => exact h
/-- a caught exception: its slot, address, class, dict -/
structure ExI where
  i : Nat
  a : Addr
  cls : Value
  d : Option Addr
/-- what a reading is under: the wish about exceptions; the exception that is handled -/
structure Md where
  W : WX
  x : Option ExI
def ExOk (K : PySem.W.Frag) (S : Hp) (σ : L2.St) (Γ : Env) : Option ExI → Prop
  | none => True
  | some e => σ[e.i]? = some (some (.ref e.a)) ∧ ∀ c ns ds n, Γ[e.i]? = some (some (.exn c ns ds, n)) → e.cls = .ref (He.ga K c) ∧ ∃ vs, ns.length = vs.length ∧ RpL K S ds vs ∧ XD S e.d ns vs
theorem XD.mono {dx : Option Addr} {ns : List String} {vs : List V} (sS : Sub S S') (h : XD S dx ns vs) : XD S' dx ns vs := by
  rcases h with h | ⟨d, e, h⟩
  · exact .inl h
  · exact .inr ⟨d, e, sS _ _ h⟩
theorem ExOk.mono (sS : Sub S S') : ∀ {x : Option ExI}, ExOk K S σ Γ x → ExOk K S' σ Γ x
  | none, _ => trivial
  | some e, h => ⟨h.1, fun c ns ds n q => by
    obtain ⟨h1, vs, h2, h3, h4⟩ := h.2 c ns ds n q
    exact ⟨h1, vs, h2, RpL.mono sS _ _ h3, h4.mono sS⟩⟩
structure Sit (K : PySem.W.Frag) (M : Md) (g : Gh) (S : Hp) (σ : L2.St) (H : Hp) (C : CM) (Γ : Env) : Prop extends Stt K g S σ H C where
  gr : GR C Γ σ
  ex : ExOk K S σ Γ M.x
theorem Sit.to {M : Md} (s : Sit K M g S σ H C Γ) (sS : Sub S S') (st : Stt K g S' σ H' C) : Sit K M g S' σ H' C Γ := ⟨st, s.gr, s.ex.mono sS⟩
/-- a code's reading -/
def tX {α τ : Type} (K : PySem.W.Frag) (M : Md) (p : Post α τ) (f : Env → Res α) : L2.St → Hp → τ → Prop := fun σ H Q => ∃ g S C Γ, Sit K M g S σ H C Γ ∧ PO K M.W g S σ H C (f Γ) (p g S σ H C Q)
abbrev tE (K : PySem.W.Frag) (M : Md) (f : Env → Res (D × Nat)) : TE := tX K M (QE K) f
abbrev tV (K : PySem.W.Frag) (M : Md) (f : Env → Res (D × Nat)) : TE := tX K M (QV K) f
abbrev tT (K : PySem.W.Frag) (M : Md) (f : Env → Res Bool) : TT := tX K M (QB K) f
abbrev tL (K : PySem.W.Frag) (M : Md) (f : Env → Res (List (D × Nat))) : TA := tX K M (QL K) f
abbrev tW (K : PySem.W.Frag) (M : Md) (f : Env → Res (List (D × Nat))) : TA := tX K M (QW K) f
/-- a part's reading from the whole's -/
theorem use {α β τ τ' : Type} {p : Post α τ} {p' : Post β τ'} {f : Env → Res β} {k : β → Res α} {Q : τ} {R : τ'} (hm : PMono p) (st : Sit K M g S σ H C Γ) (h : PO K M.W g S σ H C ((f Γ).bind k) (p g S σ H C Q))
    (n : ∀ b, (∀ S1 H1, Sub H H1 → Sub S S1 → PO K M.W g S1 σ H1 C (k b) (p g S1 σ H1 C Q)) → p' g S σ H C R b) : tX K M p' f σ H R := by
  refine ⟨g, S, C, Γ, st, ?_⟩
  cases e : f Γ with
  | ok b =>
    rw [e] at h
    exact n b fun S1 H1 a b => PO.mono hm a b h
  | exc c ns ds => rw [e] at h; exact h
  | fail => rw [e] at h; exact h
theorem Got.frz {c : D × Nat} {v : V} (h : Got K g S σ H C c v) (st : ∃ j, σ.length ≤ j ∧ C j = none) : ∃ S', Sub S S' ∧ Rp K S' c.1 v ∧ Stt K g S' σ H C := by
  obtain ⟨j, hj, hc⟩ := st
  obtain ⟨S', a, b, d⟩ := (h j hj hc).freeze setC_same
  refine ⟨S', a, b, ?_⟩
  have := d.drop j
  rw [setC_setC, setC_setC, setC_self hc] at this
  exact this
theorem Got.of {d : D} {v : V} (st : Stt K g S σ H C) (r : Rp K S d v) : Got K g S σ H C (d, 0) v := fun _ hj hc => st.hold r hj hc
theorem Got.stt {c : D × Nat} {v : V} (h : Got K g S σ H C c v) (fr : ∃ j, σ.length ≤ j ∧ C j = none) : Stt K g S σ H C := by
  obtain ⟨j, hj, hc⟩ := fr
  have := (h j hj hc).drop j
  rw [setC_setC, setC_self hc] at this
  exact this
theorem Got.view {c : D × Nat} {v : V} (h : Got K g S σ H C c v) (fr : ∃ j, σ.length ≤ j ∧ C j = none) : View K S H c.2 c.1 v := by
  obtain ⟨j, hj, hc⟩ := fr
  exact (h j hj hc).view setC_same
theorem Done.of {Q : VK} {c : D × Nat} (st : Stt K g S σ H C) (q : QE K g S σ H C Q c) : Done K S H Q c := fun v S' H' fq n =>
  q v S' H' n.sH n.sS fun j hj hc => st.push n.sH n.sS n.sSH n.fr hj hc n.ow n.nd n.ff
theorem useE {α τ : Type} {p : Post α τ} {f : Env → Res (D × Nat)} {k : D × Nat → Res α} {Q : τ} {R : VK} (hm : PMono p) (st : Sit K M g S σ H C Γ) (h : PO K M.W g S σ H C ((f Γ).bind k) (p g S σ H C Q))
    (n : ∀ c v S1 H1, Sub H H1 → Sub S S1 → Sit K M g S1 σ H1 C Γ → Rp K S1 c.1 v → PO K M.W g S1 σ H1 C (k c) (p g S1 σ H1 C Q) → R v H1) : tE K M f σ H R :=
  use hm st h fun c hk v S1 H1 sH sS got => by
    obtain ⟨S2, a, b, d⟩ := got.frz st.free
    exact n c v S2 H1 sH (sS.tr a) (st.to (sS.tr a) d) b (hk S2 H1 sH (sS.tr a))
theorem useV {α τ : Type} {p : Post α τ} {f : Env → Res (D × Nat)} {k : D × Nat → Res α} {Q : τ} {R : VK} (hm : PMono p) (st : Sit K M g S σ H C Γ) (h : PO K M.W g S σ H C ((f Γ).bind k) (p g S σ H C Q))
    (n : ∀ c v S1 H1, Sub H H1 → Sub S S1 → Sit K M g S1 σ H1 C Γ → View K S1 H1 c.2 c.1 v → PO K M.W g S1 σ H1 C (k c) (p g S1 σ H1 C Q) → R v H1) : tV K M f σ H R :=
  use hm st h fun c hk v S1 H1 sH sS st1 vw => n c v S1 H1 sH sS (st.to sS st1) vw (hk S1 H1 sH sS)
theorem useT {α τ : Type} {p : Post α τ} {f : Env → Res Bool} {k : Bool → Res α} {Q : τ} {R : Bool → Hp → Prop} (hm : PMono p) (st : Sit K M g S σ H C Γ) (h : PO K M.W g S σ H C ((f Γ).bind k) (p g S σ H C Q))
    (n : ∀ c S1 H1, Sub H H1 → Sub S S1 → Sit K M g S1 σ H1 C Γ → PO K M.W g S1 σ H1 C (k c) (p g S1 σ H1 C Q) → R c H1) : tT K M f σ H R :=
  use hm st h fun c hk S1 H1 sH sS st1 => n c S1 H1 sH sS (st.to sS st1) (hk S1 H1 sH sS)
theorem useL {α τ : Type} {p : Post α τ} {f : Env → Res (List (D × Nat))} {k : List (D × Nat) → Res α} {Q : τ} {R : List V → Hp → Prop} (hm : PMono p) (st : Sit K M g S σ H C Γ) (h : PO K M.W g S σ H C ((f Γ).bind k) (p g S σ H C Q))
    (n : ∀ c v S1 H1, Sub H H1 → Sub S S1 → Sit K M g S1 σ H1 C Γ → RpL K S1 (c.map (·.1)) v → PO K M.W g S1 σ H1 C (k c) (p g S1 σ H1 C Q) → R v H1) : tL K M f σ H R :=
  use hm st h fun c hk v S1 H1 sH sS st1 vw => n c v S1 H1 sH sS (st.to sS st1) vw (hk S1 H1 sH sS)
theorem useW {α τ : Type} {p : Post α τ} {f : Env → Res (List (D × Nat))} {k : List (D × Nat) → Res α} {Q : τ} {R : List V → Hp → Prop} (hm : PMono p) (st : Sit K M g S σ H C Γ) (h : PO K M.W g S σ H C ((f Γ).bind k) (p g S σ H C Q))
    (n : ∀ c v S1 H1, Sub H H1 → Sub S S1 → Sit K M g S1 σ H1 C Γ → Paired (fun (c : D × Nat) v => View K S1 H1 c.2 c.1 v) c v → PO K M.W g S1 σ H1 C (k c) (p g S1 σ H1 C Q) → R v H1) : tW K M f σ H R :=
  use hm st h fun c hk v S1 H1 sH sS st1 vw => n c v S1 H1 sH sS (st.to sS st1) vw (hk S1 H1 sH sS)
/-- no exception -/
def NX {α : Type} (r : Res α) : Prop := ∀ c ns ds, r ≠ .exc c ns ds
theorem PO.ok {α : Type} {r : Res α} {f : α → Prop} (nx : NX r) (h : PO K W g S σ H C r f) : ∃ a, r = .ok a ∧ f a := by
  cases r with
  | ok a => exact ⟨a, rfl, h⟩
  | exc c ns ds => exact absurd rfl (nx c ns ds)
  | fail => exact h.elim
theorem PO.ok' {α : Type} {a : α} {f : α → Prop} (h : PO K W g S σ H C (.ok a) f) : f a := h
theorem nx_ok {α : Type} {a : α} : NX (.ok a) := fun _ _ _ h => nomatch h
theorem nx_fail {α : Type} : NX (.fail : Res α) := fun _ _ _ h => nomatch h
theorem nx_ite {α : Type} {c : Prop} [Decidable c] {a b : Res α} (ha : NX a) (hb : NX b) : NX (if c then a else b) := by split <;> assumption
theorem nx_bind {α β : Type} {a : Res α} {f : α → Res β} (ha : NX a) (hf : ∀ x, NX (f x)) : NX (a.bind f) := by
  cases a with
  | ok x => exact hf x
  | exc c ns ds => exact absurd rfl (ha c ns ds)
  | fail => exact nx_fail
theorem nx_optR {α : Type} {o : Option α} : NX (optR o) := by cases o <;> first | exact nx_ok | exact nx_fail
theorem nx_binI {o : Bop} {i j : Int} : NX (binI o i j) := by cases o <;> simp only [binI] <;> first | exact nx_ok | exact nx_ite nx_ok nx_fail
theorem nx_binD {o : Bop} {a b : D × Nat} : NX (binD o a b) := by
  unfold binD
  split <;> first | exact nx_binI | exact nx_ok | exact nx_ite nx_ok nx_fail | exact nx_fail
theorem nx_eqD {a b : D} : NX (eqD a b) := nx_ite nx_ok nx_fail
theorem nx_cmpD {o : Cop} {a b : D × Nat} : NX (cmpD o a b) := by
  unfold cmpD
  split <;> first | exact nx_eqD | exact nx_bind nx_eqD fun _ => nx_ok | exact nx_ok | exact nx_ite nx_ok nx_fail | exact nx_fail
theorem nx_idxD {a : D × Nat} {b : D} : NX (idxD a b) := by
  unfold idxD
  split <;> first | exact nx_bind nx_optR fun _ => nx_ok | exact nx_ite (nx_bind nx_optR fun _ => nx_ok) nx_fail | exact nx_fail
theorem nx_slcD {a : D × Nat} {lo hi} : NX (slcD a lo hi) := by
  unfold slcD
  split <;> first | exact nx_ok | exact nx_ite nx_ok nx_fail | exact nx_fail
theorem nx_revD {a : D × Nat} : NX (revD a) := by
  unfold revD
  split <;> first | exact nx_ok | exact nx_ite nx_ok nx_fail | exact nx_fail
theorem nx_negD {a : D} : NX (negD a) := by
  unfold negD
  split <;> first | exact nx_ok | exact nx_fail
theorem nx_ints1 {n : Nat} {d : D} {f} (hf : ∀ x, NX (f x)) : NX (ints1 n d f) := by
  unfold ints1
  split <;> first | exact nx_ite (nx_bind nx_optR hf) nx_fail | exact nx_fail
theorem nx_bls1 {n : Nat} {d : D} {f} (hf : ∀ x, NX (f x)) : NX (bls1 n d f) := by
  unfold bls1
  split <;> first | exact nx_ite (nx_bind nx_optR hf) nx_fail | exact nx_fail
theorem nx_biD {f : Bi} {ds : List (D × Nat)} : NX (biD f ds) := by
  unfold biD
  split
  · rename_i a
    unfold bi1D
    split
    · unfold lenD; split <;> first | exact nx_ok | exact nx_fail
    · unfold tupleD; split <;> first | exact nx_ok | exact nx_ite nx_ok nx_fail | exact nx_fail
    · unfold listD; split <;> first | exact nx_ok | exact nx_ite nx_ok nx_fail | exact nx_fail
    · exact nx_ints1 fun _ => nx_ok
    · exact nx_ints1 fun x => by unfold maxL; split <;> first | exact nx_ok | exact nx_fail
    · exact nx_ints1 fun x => by unfold minL; split <;> first | exact nx_ok | exact nx_fail
    · unfold absD; split <;> first | exact nx_ok | exact nx_fail
    · unfold intD; split <;> first | exact nx_ok | exact nx_fail
    · unfold sortD; split <;> first | exact nx_fail | (refine nx_ite ?_ nx_fail; unfold sortL; split <;> first | exact nx_ok | (split <;> first | exact nx_ok | exact nx_fail))
    · exact nx_bls1 fun _ => nx_ok
    · exact nx_bls1 fun _ => nx_ok
    · exact nx_fail
  · unfold bi2D
    split <;> first | (unfold int2; split <;> first | exact nx_ok | exact nx_fail) | exact nx_fail
  · exact nx_fail
end
theorem pe_imp {X : Cx} {e : Expr} {t t' : TE} (h : PE X e t) (k : ∀ σ H Q, t' σ H Q → t σ H Q) : PE X e t' := ⟨fun pins s σ H Q I q => h.run pins s σ H Q I (k σ H Q q)⟩
theorem pt_imp {X : Cx} {e : Expr} {t t' : TT} (h : PT X e t) (k : ∀ σ H Q, t' σ H Q → t σ H Q) : PT X e t' := ⟨fun pins s σ H Q I q => h.run pins s σ H Q I (k σ H Q q)⟩
theorem pw_imp {X : Cx} {e : Expr} {t t' : TT} (h : PW X e t) (k : ∀ σ H Q, t' σ H Q → t σ H Q) : PW X e t' := ⟨fun w pins s σ H Q I q => h.run w pins s σ H Q I (k σ H Q q)⟩
theorem pa_imp {X : Cx} {e : List Expr} {t t' : TA} (h : PA X e t) (k : ∀ σ H Q, t' σ H Q → t σ H Q) : PA X e t' := ⟨fun pos pins s σ H Q I q => h.run pos pins s σ H Q I (k σ H Q q)⟩
theorem ps_imp {X : Cx} {e : Stmt} {t t' : TS} (h : PS X e t) (k : ∀ D σ H, t' D σ H → t D σ H) : PS X e t' := ⟨fun pins s σ H Q I q => h.run pins s σ H Q I (k Q σ H q)⟩
theorem pss_imp {X : Cx} {e : List Stmt} {t t' : TS} (h : PSs X e t) (k : ∀ D σ H, t' D σ H → t D σ H) : PSs X e t' := ⟨fun pins s σ H Q I q => h.run pins s σ H Q I (k Q σ H q)⟩
section
variable {X : Cx} {M : Md} {G : Glb}
/-! ### names, constants -/
theorem se_var {i : Nat} {x : Str} {pos : Pos} (hN : X.N[i]? = some x) (hv : Vis X.env.scope x) (hd : (x == ("__debug__" : Str)) = false) (hcd : (x == ("__classdict__" : Str)) = false) : PE X (.Name x pos) (tE X.K M (ev G (.var i))) := by
  refine pe_imp (pe_var hN hv hd hcd) fun σ H Q ⟨g, S, C, Γ, st, h⟩ => ?_
  simp only [ev] at h
  split at h
  · rename_i d e
    obtain ⟨v, hc, hi⟩ := st.gr.at_ e
    exact ⟨v, st.slot i d 0 v hc hi, h v S H .rfl .rfl (.of st.toStt (st.rp hc))⟩
  · exact h.elim
theorem sv_var {i : Nat} {x : Str} {pos : Pos} (hN : X.N[i]? = some x) (hv : Vis X.env.scope x) (hd : (x == ("__debug__" : Str)) = false) (hcd : (x == ("__classdict__" : Str)) = false) : PE X (.Name x pos) (tV X.K M (vw G (.var i))) := by
  refine pe_imp (pe_var hN hv hd hcd) fun σ H Q ⟨g, S, C, Γ, st, h⟩ => ?_
  simp only [vw] at h
  split at h
  · rename_i c e
    obtain ⟨d, n⟩ := c
    obtain ⟨v, hc, hi⟩ := st.gr.at_ e
    exact ⟨v, st.slot i d n v hc hi, h v S H .rfl .rfl st.toStt (st.view hc)⟩
  · exact h.elim
/-- a value as a view -/
theorem sv_val {e : Expr} {f : Env → Res (D × Nat)} (he : PE X e (tE X.K M f)) : PE X e (tV X.K M f) :=
  pe_imp he fun σ H Q ⟨g, S, C, Γ, st, h⟩ => ⟨g, S, C, Γ, st, by
    cases q : f Γ with
    | ok c =>
      rw [q] at h
      exact fun v S' H' sH sS got => h v S' H' sH sS (got.stt st.free) (got.view st.free)
    | exc c ns ds => rw [q] at h; exact h
    | fail => rw [q] at h; exact h⟩
theorem se_const {e : Expr} {d : D} {v : V} (h : PE X e (tC v)) (r : ∀ S, Rp X.K S d v) : PE X e (tE X.K M (ev G (.lit d))) :=
  pe_imp h fun σ H Q ⟨g, S, C, Γ, st, h⟩ => h v S H .rfl .rfl (.of st.toStt (r S))
/-! ### operators -/
theorem se_bin {o : Bop} {a b : Expr} {pos : Pos} {fa fb : Env → Res (D × Nat)} (ha : PE X a (tV X.K M fa)) (hb : PE X b (tV X.K M fb)) :
    PE X (.BinOp a (opOf o) b pos) (tE X.K M fun Γ => (fa Γ).bind fun x => (fb Γ).bind fun y => binD o x y) := by
  refine pe_imp (pe_op (opr_bin o) ha hb) fun σ H Q ⟨g, S, C, Γ, st, h⟩ => ?_
  refine useV pmE st h fun c v S1 H1 sH sS st1 v1 h1 => useV pmE st1 h1 fun c2 v2 S2 H2 sH2 sS2 st2 v2' h2 => ?_
  obtain ⟨c3, e, q⟩ := h2.ok nx_binD
  exact ⟨S2, c, c2, st2.sub, v1.mono sH2 sS2, v2', c3, e, .of st2.toStt q⟩
theorem se_neg {a : Expr} {pos : Pos} {fa : Env → Res (D × Nat)} (ha : PE X a (tE X.K M fa)) : PE X (.UnaryOp .USub a pos) (tE X.K M fun Γ => (fa Γ).bind fun x => negD x.1) := by
  refine pe_imp (pe_un un_neg ha) fun σ H Q ⟨g, S, C, Γ, st, h⟩ => ?_
  refine useE pmE st h fun c v S1 H1 sH sS st1 r1 h1 => ?_
  obtain ⟨c3, e, q⟩ := h1.ok nx_negD
  obtain ⟨d, n⟩ := c
  cases d with
  | int i => cases e; exact ⟨i, rp_int r1, q (.int (-i)) S1 H1 .rfl .rfl (.of st1.toStt (by simp only [Rp]))⟩
  | _ => cases e
/-! ### comparisons -/
theorem se_cmp {o : Cop} {a b : Expr} {pos : Pos} {fa fb : Env → Res (D × Nat)} (hu : X.A.units + 65 < cLine) (ha : PE X a (tV X.K M fa)) (hb : PE X b (tV X.K M fb)) (hm : behindInMarks (cpOf o) b = false) :
    PE X (.Compare a [cpOf o] [b] pos) (tE X.K M fun Γ => ((fa Γ).bind fun x => (fb Γ).bind fun y => cmpD o x y).bind fun b => .ok (.bl b, 0)) := by
  refine pe_imp (pe_cmpR (opr_cmp hu o) ha hb hm) fun σ H Q ⟨g, S, C, Γ, st, h⟩ => ?_
  have e : (((fa Γ).bind fun x => (fb Γ).bind fun y => cmpD o x y).bind fun b => (.ok (.bl b, 0) : Res (D × Nat))) = (fa Γ).bind fun x => (fb Γ).bind fun y => (cmpD o x y).bind fun b => .ok (.bl b, 0) := by
    cases fa Γ <;> simp only [Res.bind_ok, Res.bind_exc, Res.bind_fail]
    cases fb Γ <;> simp only [Res.bind_ok, Res.bind_exc, Res.bind_fail]
  dsimp only at h
  rw [e] at h
  refine useV pmE st h fun c v S1 H1 sH sS st1 v1 h1 => useV pmE st1 h1 fun c2 v2 S2 H2 sH2 sS2 st2 v2' h2 => ?_
  cases q : cmpD o c c2 with
  | ok b => rw [q] at h2; exact ⟨S2, c, c2, st2.sub, v1.mono sH2 sS2, v2', b, q, h2 (.bl b) S2 H2 .rfl .rfl (.of st2.toStt (by simp only [Rp]))⟩
  | exc c ns ds => exact absurd q (nx_cmpD c ns ds)
  | fail => rw [q] at h2; exact h2.elim
theorem st_cmp {o : Cop} {a b : Expr} {pos : Pos} {fa fb : Env → Res (D × Nat)} (hu : X.A.units + 65 < cLine) (ha : PE X a (tV X.K M fa)) (hb : PE X b (tV X.K M fb)) (hm : behindInMarks (cpOf o) b = false) :
    PT X (.Compare a [cpOf o] [b] pos) (tT X.K M fun Γ => (fa Γ).bind fun x => (fb Γ).bind fun y => cmpD o x y) := by
  refine pt_imp (pt_cmpR (opr_cmp hu o) ha hb hm) fun σ H Q ⟨g, S, C, Γ, st, h⟩ => ?_
  refine useV pmB st h fun c v S1 H1 sH sS st1 v1 h1 => useV pmB st1 h1 fun c2 v2 S2 H2 sH2 sS2 st2 v2' h2 => ?_
  obtain ⟨b, e, q⟩ := h2.ok nx_cmpD
  exact ⟨S2, c, c2, st2.sub, v1.mono sH2 sS2, v2', b, e, b, rfl, q S2 H2 .rfl .rfl st2.toStt⟩
theorem st_chn {o p : Cop} {a b c : Expr} {pos : Pos} {fa fb fc : Env → Res (D × Nat)} (hu : X.A.units + 65 < cLine) (ha : PE X a (tV X.K M fa)) (hb : PE X b (tV X.K M fb)) (hc : PE X c (tV X.K M fc)) (hm : behindInMarks (cpOf o) b = false) (hm2 : behindInMarks (cpOf p) c = false) :
    PT X (.Compare a [cpOf o, cpOf p] [b, c] pos) (tT X.K M fun Γ => (fa Γ).bind fun x => (fb Γ).bind fun y => (cmpD o x y).bind fun k => if k then (fc Γ).bind fun z => cmpD p y z else .ok false) := by
  refine pt_imp (pt_chain (hm := hm2) (opr_cmp hu o) (opr_cmp hu p) ha hb hc) fun σ H Q ⟨g, S, C, Γ, st, h⟩ => ?_
  refine useV pmB st h fun c v S1 H1 sH sS st1 v1 h1 => useV pmB st1 h1 fun c2 v2 S2 H2 sH2 sS2 st2 v2' h2 => ?_
  cases q : cmpD o c c2 with
  | ok b =>
    rw [q] at h2
    refine ⟨S2, c, c2, st2.sub, v1.mono sH2 sS2, v2', b, q, b, rfl, ?_⟩
    cases b with
    | true =>
      have h2 : PO X.K M.W g S2 σ H2 C ((fc Γ).bind fun z => cmpD p c2 z) (QB X.K g S2 σ H2 C Q) := h2
      refine iteT (useV pmB st2 h2 fun c4 v4 S4 H4 sH4 sS4 st4 v4' h4 => ?_)
      obtain ⟨b, e, q⟩ := h4.ok nx_cmpD
      exact ⟨S4, c2, c4, st4.sub, v2'.mono sH4 sS4, v4', b, e, b, rfl, q S4 H4 .rfl .rfl st4.toStt⟩
    | false =>
      have h2 : QB X.K g S2 σ H2 C Q false := h2
      exact iteF ⟨false, rfl, h2 S2 H2 .rfl .rfl st2.toStt⟩
  | exc c ns ds => exact absurd q (nx_cmpD c ns ds)
  | fail => rw [q] at h2; exact h2.elim
end
end Ev
/-! Ev, part I: what is walked (zip and enumerate over lists and tuples in any mix). -/
namespace Ev
open PySem PySem.Spec L2
/-! ### a sequence of either kind -/
def SqX (t : Bool) (K : PySem.W.Frag) (H : Hp) (a : Addr) (xs : List V) : Prop := if t then SqT K H a xs else SqL K H a xs
def AtX (t : Bool) (h : Heap) (a : Addr) (its : Array Value) : Prop := if t then h.IsTuple a its else h.IsList a its
def ItX (t : Bool) (h : Heap) (it a : Addr) (i : Nat) : Prop := if t then h.IsTupleIter it a i else h.IsListIter it a i
def oX (t : Bool) (a : Addr) : Obj := { cls := .type (if t then "tuple_iterator" else "list_iterator"), data := .fields #[.ref a, .int 0 0] }
theorem beginsX (t : Bool) (a : Addr) (its : Array Value) : Begins (.ref a) (oX t a) fun h => AtX t h a its := by
  cases t
  · exact begins_list a its
  · exact begins_tuple a its
theorem drawsX {P : Program} {w : World} {A : Around} (hh : A.handled = none) (t : Bool) (it a : Addr) (ne : a ≠ it) (its : Array Value) :
    Draws P w A it [it, a] its.size (fun i v => its[i]? = some v) fun i h => ItX t h it a i ∧ AtX t h a its := by
  cases t
  · exact Draws.list hh it a ne its
  · exact Draws.tuple hh it a ne its
theorem itX_obj {t : Bool} {h : Heap} {it a : Addr} {i : Nat} (q : ItX t h it a i) : ∃ o, h.get? it = some o ∧ ∀ v, o.data ≠ .cell v := by
  cases t <;>
  · obtain ⟨o, e, c, d⟩ := q
    exact ⟨o, e, fun v z => by rw [d] at z; cases z⟩
theorem itX_at {t : Bool} {h h' : Heap} {it a : Addr} {i : Nat} (q : ItX t h it a i) (k : ∀ o, h.get? it = some o → h'.get? it = some o) : ItX t h' it a i := by
  cases t
  · exact Heap.IsListIter.at q k
  · exact Heap.IsTupleIter.at q k
theorem itX_new {t : Bool} {h : Heap} {it a : Addr} (e : h.get? it = some (oX t a)) : ItX t h it a 0 := by
  cases t
  · exact ⟨_, e, rfl, rfl⟩
  · exact ⟨_, e, rfl, rfl⟩
section
variable {X : Cx} {pins : List (Addr × Obj)} {σ : L2.St} {H : Hp} {s : Shared} {a : Addr} {xs ys : List V}
theorem invX {t : Bool} (I : L2.Inv X pins σ H s) (q : SqX t X.K H a xs) : ∃ its : List Value, Vals xs its ∧ AtX t s.heap a its.toArray ∧ a < s.heap.objs.size := by
  cases t
  · obtain ⟨its, r, p, _⟩ := I.list q
    exact ⟨its, r, p.isList, p.lt⟩
  · obtain ⟨its, r, p, _⟩ := I.tuple q
    obtain ⟨o, ho, _⟩ := id p
    exact ⟨its, r, p, Heap.lt_size ho⟩
theorem injX {t : Bool} (I : L2.Inv X pins σ H s) (q : SqX t X.K H a xs) (q' : SqX t X.K H a ys) : xs = ys := by
  cases t
  · exact I.list_inj q q'
  · exact I.tuple_inj q q'
end
theorem some_lt {α : Type} {l : List α} {i : Nat} {x : α} (h : l[i]? = some x) : i < l.length := (List.getElem?_eq_some_iff.mp h).1
/-! ### zip -/
/-- pairs of the items at a and at b -/
def Itw (K : PySem.W.Frag) (t u : Bool) (a b : Addr) : It where
  go i H := ∃ xs ys x y, SqX t K H a xs ∧ SqX u K H b ys ∧ xs[i]? = some x ∧ ys[i]? = some y
  yld i H v H' := ∃ T x y, v = .ref T ∧ H T = none ∧ H' = upd H T (.tup [x, y]) ∧ (∀ xs, SqX t K H a xs → xs[i]? = some x) ∧ ∀ ys, SqX u K H b ys → ys[i]? = some y
  stop i H := ∃ xs ys, SqX t K H a xs ∧ SqX u K H b ys ∧ i ≤ xs.length ∧ i ≤ ys.length ∧ (i = xs.length ∨ i = ys.length)
structure ZS (z TI TO i1 i2 a b : Addr) (t u : Bool) (i : Nat) (h : Heap) : Prop where
  z : IsZip h z TI TO .none
  p : IsTupOf2 h TI (.ref i1) (.ref i2)
  q : ∃ x y, IsTupOf2 h TO x y
  l : ItX t h i1 a i
  r : ItX u h i2 b i
theorem zs_lt {z TI TO i1 i2 a b : Addr} {t u : Bool} {i : Nat} {h : Heap} (S : ZS z TI TO i1 i2 a b t u i h) : ∀ c ∈ [z, TI, TO, i1, i2], ∃ o, h.get? c = some o ∧ ∀ v, o.data ≠ .cell v := fun c hc => by
  obtain ⟨x, y, hq⟩ := S.q
  simp only [List.mem_cons, List.not_mem_nil, or_false] at hc
  rcases hc with e | e | e | e | e <;> subst e
  · exact ⟨_, S.z, fun v k => nomatch k⟩
  · exact ⟨_, S.p, fun v k => nomatch k⟩
  · exact ⟨_, hq, fun v k => nomatch k⟩
  · exact itX_obj S.l
  · exact itX_obj S.r
theorem zs_keep {z TI TO i1 i2 a b : Addr} {t u : Bool} {i : Nat} {h h' : Heap} (S : ZS z TI TO i1 i2 a b t u i h) (k : ∀ c ∈ [z, TI, TO, i1, i2], ∀ o, h.get? c = some o → h'.get? c = some o) : ZS z TI TO i1 i2 a b t u i h' := by
  obtain ⟨x, y, hq⟩ := S.q
  exact ⟨k z (by simp) _ S.z, k TI (by simp) _ S.p, ⟨x, y, k TO (by simp) _ hq⟩, itX_at S.l fun o => k i1 (by simp) o, itX_at S.r fun o => k i2 (by simp) o⟩
theorem turnW {P : Program} {w : World} {K : PySem.W.Frag} {es : List Expr} {kk : Nat} {tp : Pos} {t u : Bool} {a b z TI TO i1 i2 : Addr} (D : ZipSep2 z TI TO i1 i2 [i1, a] [i2, b]) (na : a ≠ i1) (nb : b ≠ i2) (n1 : TI ≠ a) (n2 : TI ≠ b) :
    Turn P w K (.Tuple es kk tp) (Itw K t u a b) [z, TI, TO, i1, i2] z (ZS z TI TO i1 i2 a b t u) where
  mem := List.mem_cons_self
  obj i h S := zs_lt S
  keep i h h' S k := zs_keep S k
  item := by
    intro X e1 e2 e3 calm i pins s σ H E I fresh S g
    subst e1 e2 e3
    obtain ⟨xs, ys, x, y, qx, qy, hx, hy⟩ := g
    obtain ⟨its, rv, p, _⟩ := invX I qx
    obtain ⟨jts, rw', p', _⟩ := invX I qy
    obtain ⟨v1, hv1, r1⟩ := rv.get hx
    obtain ⟨v2, hv2, r2⟩ := rw'.get hy
    obtain ⟨x0, y0, hTO⟩ := S.q
    have zl : z < s.heap.objs.size := Heap.lt_size S.z
    have hh : X.A.in1.handled = none := I.ok.hd calm
    have ln : i < its.toArray.size := by rw [List.size_toArray]; exact some_lt hv1
    have ln' : i < jts.toArray.size := by rw [List.size_toArray]; exact some_lt hv2
    refine wpAny_pyNext_zipD2_item D (drawsX hh t i1 a na its.toArray) (drawsX hh u i2 b nb jts.toArray) S.z S.p hTO ⟨S.l, p⟩ ⟨S.r, p'⟩ ln ln' fun w1 w2 h' tk g1 g2 z' TO' s1 s2 T' sz k => ?_
    have ew1 : w1 = v1 := by
      have q : its.toArray[i]? = some w1 := g1
      rw [List.getElem?_toArray, hv1] at q
      exact (Option.some.inj q).symm
    have ew2 : w2 = v2 := by
      have q : jts.toArray[i]? = some w2 := g2
      rw [List.getElem?_toArray, hv2] at q
      exact (Option.some.inj q).symm
    subst ew1 ew2
    refine ⟨_, rfl, wpAny_letOwnedTupleGo_zip (s := { s with heap := h', toks := tk }) z' fun h2 z2 sb => ?_⟩
    have hT : h2.get? s.heap.objs.size = some { cls := .type "tuple", data := .seq #[w1, w2] } := (sb.2 _ (Nat.ne_of_gt zl)).trans T'
    have new : ObjOk X.prog X.w (upd H s.heap.objs.size (.tup [x, y])) h2 s.heap.objs.size (.tup [x, y]) := by
      refine ⟨?_, [w1, w2], .cons r1 (.cons r2 .nil), ⟨_, hT, rfl, _, rfl⟩⟩
      show 2 ≤ sizeLine
      decide
    have J : L2.Inv X pins σ (upd H s.heap.objs.size (.tup [x, y])) { s with heap := h2, toks := tk } := by
      refine I.turnedNew (t' := tk) (ch := [z, TI, TO, i1, i2]) (fun c o nc q => ?_) fresh (Nat.le_refl _) new
      simp only [List.mem_cons, List.not_mem_nil, or_false, not_or] at nc
      exact (sb.2 c nc.1).trans (k c o nc.1 nc.2.2.1 nc.2.2.2.1 nc.2.2.2.2 q)
    refine ⟨.ref s.heap.objs.size, _, J, rfl, ⟨_, x, y, rfl, I.hok.fresh (Nat.le_refl _), rfl, fun l hl => ?_, fun l hl => ?_⟩, ⟨z2, ?_, ⟨w1, w2, ?_⟩, ?_, ?_⟩, fun c hc => ?_⟩
    · rw [injX I hl qx]; exact hx
    · rw [injX I hl qy]; exact hy
    · exact (sb.2 _ D.TIz).trans (k _ _ D.TIz D.TITO D.TIi1 D.TIi2 S.p)
    · exact (sb.2 _ D.TOz).trans TO'
    · exact itX_at s1.1 fun o q => (sb.2 _ (Ne.symm D.zi1)).trans q
    · exact itX_at s2.1 fun o q => (sb.2 _ (Ne.symm D.zi2)).trans q
    · obtain ⟨o, ho, _⟩ := zs_lt S c hc
      rw [upd_ne (Nat.ne_of_lt (Heap.lt_size ho))]
      exact (fresh c hc).1
  done := by
    intro X e1 e2 e3 calm i pins s σ H E I fresh S g
    subst e1 e2 e3
    obtain ⟨xs, ys, qx, qy, b1, b2, hend⟩ := g
    obtain ⟨its, rv, p, _⟩ := invX I qx
    obtain ⟨jts, rw', p', _⟩ := invX I qy
    obtain ⟨x0, y0, hTO⟩ := S.q
    have hh : X.A.in1.handled = none := I.ok.hd calm
    have l1 := rv.length
    have l2 := rw'.length
    refine wpAny_pyNext_zipD2_end D (drawsX hh t i1 a na its.toArray) (drawsX hh u i2 b nb jts.toArray) S.z S.p hTO ⟨S.l, p⟩ ⟨S.r, p'⟩ (by simp only [List.size_toArray]; omega) (by simp only [List.size_toArray]; omega) (by simp only [List.size_toArray]; omega)
      fun h' tk k => ⟨rfl, I.turnedL (t' := tk) (ch := [z, TI, TO, i1, i2]) (fun c o nc q => ?_) fresh⟩
    simp only [List.mem_cons, List.not_mem_nil, or_false, not_or] at nc
    exact k c o nc.1 nc.2.2.1 nc.2.2.2.1 nc.2.2.2.2 q
  self A i s Q E S h := wpAny_pyIter_zip S.z h
theorem sepW {n a b : Nat} (la : a < n) (lb : b < n) : ZipSep2 (n + 4) (n + 2) (n + 3) n (n + 1) [n, a] [n + 1, b] := by
  have m : ∀ x y z : Nat, x ≠ y → x ≠ z → x ∉ [y, z] := fun x y z h1 h2 h => by
    simp only [List.mem_cons, List.not_mem_nil, or_false] at h
    omega
  have d : ∀ x y : Nat, x < y ∨ y < x → x ≠ y := fun x y h => by omega
  exact ⟨d _ _ (by omega), d _ _ (by omega), d _ _ (by omega), d _ _ (by omega), List.mem_cons_self, m _ _ _ (by omega) (by omega), m _ _ _ (by omega) (by omega), d _ _ (by omega), List.mem_cons_self, m _ _ _ (by omega) (by omega), m _ _ _ (by omega) (by omega), m _ _ _ (by omega) (by omega), m _ _ _ (by omega) (by omega)⟩
/-- zip(e, f) -/
def iW (K : PySem.W.Frag) (ta : TA) : TI := fun σ H R => ta σ H fun vs H1 => ∃ t u a b xs ys, vs = [.ref a, .ref b] ∧ SqX t K H1 a xs ∧ SqX u K H1 b ys ∧ R (Itw K t u a b) H1
theorem pi_W {X : Cx} {e f : Expr} {ta : TA} {p pos tp : Pos} {es : List Expr} {kk : Nat} (hg : Gl X "zip") (hm : X.mg "zip" = none) (ha : PA X [e, f] ta)
    (hs : starEach [e, f] X.env = (false, eval e X.env) :: starEach [f] X.env) (hp : (backTo pos (starEach [f] X.env)).any (·.1) = false) : PI X (.Tuple es kk tp) (.Call (.Name "zip" p) [e, f] [] pos) (iW X.K ta) := by
  constructor
  intro pins s σ H R I h
  refine PyProof.Rows.Call_ (ld_blt I hg hm PyProof.Rows.boot_zip (PyProof.Rows.callWith_type1 (thn (ha.run pos pins s σ H _ I h) fun us s1 ⟨vs, H1, I1, r1, q1⟩ => ?_) hs hp))
  obtain ⟨t, u, a, b, xs, ys, ev, qx, qy, q⟩ := q1
  subst ev
  obtain ⟨u1, u2, rfl, k1, k2⟩ := vals2 r1
  cases k1
  cases k2
  obtain ⟨its, rv, px, la⟩ := invX I1 qx
  obtain ⟨jts, rw', py, lb⟩ := invX I1 qy
  have fr : ∀ c, c ∈ [s1.heap.objs.size + 4, s1.heap.objs.size + 2, s1.heap.objs.size + 3, s1.heap.objs.size, s1.heap.objs.size + 1] → FpOk X pins H1 c := fun c hc => by
    simp only [List.mem_cons, List.not_mem_nil, or_false] at hc
    have le : s1.heap.objs.size ≤ c := by omega
    exact I1.fpOk le (I1.hok.fresh le)
  refine zip_begins2 (beginsX t a its.toArray) (beginsX u b jts.toArray) px py fun h' hz hTI hTO h1 h2 sz k => wpAny_pyIter_zip hz ?_
  have I2 : L2.Inv X pins σ H1 { s1 with heap := h' } := I1.kept (t' := s1.toks) k
  exact ⟨s1.heap.objs.size + 4, _, _, _, H1, rfl, I2, turnW (t := t) (u := u) (a := a) (b := b) (sepW la lb) (Nat.ne_of_lt la) (Nat.ne_of_lt (Nat.lt_succ_of_lt lb)) (Nat.ne_of_gt (Nat.lt_add_right 2 la)) (Nat.ne_of_gt (Nat.lt_add_right 2 lb)), ⟨hz, hTI, ⟨_, _, hTO⟩, itX_new h1, itX_new h2⟩, fr, q⟩
/-! ### enumerate -/
theorem enum_newX {v : Value} {o : Obj} {B : Heap → Prop} (b : Begins v o B) :
    Meets (Builtin.«enumerate.__new__» ⟨[.type "enumerate", v], []⟩) (fun _ R s => B s.heap ∧
      R (.ok (.ret (.ref (s.heap.push o).objs.size))) { s with heap := (s.heap.push o).push { cls := .type "enumerate", data := .fields #[.none, .bool false, .ref s.heap.objs.size, rawInt 0, .none, .none] } }) :=
  .of_wp fun prog w A R s h => by
    obtain ⟨hp, gs, dr, tk, ost⟩ := s
    obtain ⟨hb, h⟩ := h
    have se := sub_enumerate
    have it : ∀ {A' : Around} {E : Value → Shared → Prop} {Q : Value → Shared → Prop}, Q (.ref hp.objs.size) ⟨hp.push o, gs, dr, tk, ost⟩ → wpAny (model prog w) A' (pyIter v) Q E ⟨hp, gs, dr, tk, ost⟩ :=
      fun q => b.iter prog w _ _ ⟨hp, gs, dr, tk, ost⟩ _ hb q
    wp_walk using it
    refine wpAny_stack_any fun st => wpAny_pure ?_
    split
    · rename_i c _ _ _ _ _
      cases (c == Value.type "enumerate")
      · wp_walk using it
        exact ⟨_, rfl, h⟩
      · wp_walk using it
        exact ⟨_, rfl, h⟩
    · wp_walk using it
      exact ⟨_, rfl, h⟩
theorem F.tc_enum (a : Value) : checkTypeCall "enumerate" ⟨[a], []⟩ = pure () := PySem.F.typeCall_enumerate_1 a
theorem enum_one {P : Program} {w : World} {A : Around} {E : Value → Shared → Prop} {s : Shared} {v : Value} {o : Obj} {B : Heap → Prop} {Q : Value → Shared → Prop} (b : Begins v o B) (hb : B s.heap)
    (h : ∀ h', IsEnum h' (s.heap.objs.size + 1) s.heap.objs.size 0 .none → h'.get? s.heap.objs.size = some o → (∀ c u, s.heap.get? c = some u → h'.get? c = some u) → Q (.ref (s.heap.objs.size + 1)) { s with heap := h' }) :
    wpAny (model P w) A (call (.type "enumerate") [v]) Q E s := by
  refine callType_new PySem.F.called_enumerate (by decide) (PySem.F.typeCall_enumerate_1 _) (PySem.F.newCall_enumerate_1 _) (fun obj => PySem.F.args_object_init_2 obj _) PySem.F.entry_enumerate_new (enum_newX b) ⟨hb, ?_⟩
  have z : (s.heap.push o).objs.size = s.heap.objs.size + 1 := Heap.size_push ..
  have e := Heap.get?_push_size (s.heap.push o) (o := { cls := .type "enumerate", data := .fields #[.none, .bool false, .ref s.heap.objs.size, rawInt 0, .none, .none] }) rfl
  rw [z] at e
  show _ ∧ _
  rw [z]
  exact ⟨⟨_, e, rfl⟩, h _ e (Heap.get?_push_of_some _ (Heap.get?_push_size _ b.free)) fun c u q => Heap.get?_push_of_some _ (Heap.get?_push_of_some _ q)⟩
def Itn (K : PySem.W.Frag) (t : Bool) (a : Addr) : It where
  go i H := ∃ xs x, SqX t K H a xs ∧ xs[i]? = some x
  yld i H v H' := ∃ T x, v = .ref T ∧ H T = none ∧ H' = upd H T (.tup [.int (i : Nat), x]) ∧ ∀ xs, SqX t K H a xs → xs[i]? = some x
  stop i H := ∃ xs, SqX t K H a xs ∧ i = xs.length
structure NS (e it a : Addr) (t : Bool) (i : Nat) (h : Heap) : Prop where
  e : ∃ old, IsEnum h e it ((i : Nat) : Int) old
  i : ItX t h it a i
theorem turnN {P : Program} {w : World} {K : PySem.W.Frag} {es : List Expr} {kk : Nat} {tp : Pos} {t : Bool} {a e it : Addr} (ne : e ≠ it) (na : a ≠ it) (nea : e ≠ a) :
    Turn P w K (.Tuple es kk tp) (Itn K t a) [e, it] e (NS e it a t) where
  mem := List.mem_cons_self
  obj i h S c hc := by
    obtain ⟨old, he⟩ := S.e
    simp only [List.mem_cons, List.not_mem_nil, or_false] at hc
    rcases hc with q | q <;> subst q
    · exact ⟨_, he, fun v k => nomatch k⟩
    · exact itX_obj S.i
  keep i h h' S k := by
    obtain ⟨old, he⟩ := S.e
    exact ⟨⟨old, k e (by simp) _ he⟩, itX_at S.i fun o => k it (by simp) o⟩
  item := by
    intro X e1 e2 e3 calm i pins s σ H E I fresh S g
    subst e1 e2 e3
    obtain ⟨xs, x, qx, hx⟩ := g
    obtain ⟨its, rv, p, _⟩ := invX I qx
    obtain ⟨v1, hv1, r1⟩ := rv.get hx
    obtain ⟨old, he⟩ := S.e
    have hh : X.A.in1.handled = none := I.ok.hd calm
    have el : e < s.heap.objs.size := Heap.lt_size he
    have il : it < s.heap.objs.size := by
      obtain ⟨o, ho, _⟩ := itX_obj S.i
      exact Heap.lt_size ho
    refine wpAny_pyNext_enum_itemD (drawsX hh t it a na its.toArray) he ⟨S.i, p⟩ (by rw [List.size_toArray]; exact some_lt hv1) ne (by simp only [List.mem_cons, List.not_mem_nil, or_false, not_or]; exact ⟨ne, nea⟩) fun w1 h' tk g1 ho s1 hT sz k => ?_
    have ew1 : w1 = v1 := by
      have q : its.toArray[i]? = some w1 := g1
      rw [List.getElem?_toArray, hv1] at q
      exact (Option.some.inj q).symm
    subst ew1
    refine ⟨_, rfl, wpAny_letOwnedTupleGo_enum (s := { s with heap := h', toks := tk + 1 }) ho fun h2 he2 sb => ?_⟩
    have hT2 : h2.get? s.heap.objs.size = some { cls := .type "tuple", data := .seq #[.int i tk, w1] } := (sb.2 _ (Nat.ne_of_gt el)).trans hT
    have new : ObjOk X.prog X.w (upd H s.heap.objs.size (.tup [.int (i : Nat), x])) h2 s.heap.objs.size (.tup [.int (i : Nat), x]) := by
      refine ⟨?_, [.int i tk, w1], .cons ⟨_, rfl⟩ (.cons r1 .nil), ⟨_, hT2, rfl, _, rfl⟩⟩
      show 2 ≤ sizeLine
      decide
    have J : L2.Inv X pins σ (upd H s.heap.objs.size (.tup [.int (i : Nat), x])) { s with heap := h2, toks := tk + 1 } := by
      refine I.turnedNew (t' := tk + 1) (ch := [e, it]) (fun c o nc q => ?_) fresh (Nat.le_refl _) new
      simp only [List.mem_cons, List.not_mem_nil, or_false, not_or] at nc
      exact (sb.2 c nc.1).trans (k c o nc.1 nc.2 q)
    refine ⟨.ref s.heap.objs.size, _, J, rfl, ⟨_, x, rfl, I.hok.fresh (Nat.le_refl _), rfl, fun l hl => ?_⟩, ⟨⟨w1, ?_⟩, itX_at s1.1 fun o q => (sb.2 it (Ne.symm ne)).trans q⟩, fun c hc => ?_⟩
    · rw [injX I hl qx]; exact hx
    · have z : ((i + 1 : Nat) : Int) = (i : Int) + 1 := by omega
      rw [z]
      exact he2
    · simp only [List.mem_cons, List.not_mem_nil, or_false] at hc
      have lt : c < s.heap.objs.size := by rcases hc with q | q <;> subst q <;> assumption
      rw [upd_ne (Nat.ne_of_lt lt)]
      exact (fresh c (by simpa using hc)).1
  done := by
    intro X e1 e2 e3 calm i pins s σ H E I fresh S g
    subst e1 e2 e3
    obtain ⟨xs, qx, hx⟩ := g
    obtain ⟨its, rv, p, _⟩ := invX I qx
    obtain ⟨old, he⟩ := S.e
    have hh : X.A.in1.handled = none := I.ok.hd calm
    have l1 := rv.length
    have ei : i = its.toArray.size := by rw [List.size_toArray]; omega
    subst ei
    refine wpAny_pyNext_enum_endD (drawsX hh t it a na its.toArray) he ⟨S.i, p⟩ fun h' eb => ⟨rfl, I.turnedL (t' := s.toks) (ch := [e, it]) (fun c o nc q => ?_) fresh⟩
    simp only [List.mem_cons, List.not_mem_nil, or_false, not_or] at nc
    exact eb c o nc.2 q
  self A i s Q E S h := by
    obtain ⟨old, he⟩ := S.e
    exact wpAny_pyIter_enum he h
def iN (K : PySem.W.Frag) (ta : TA) : TI := fun σ H R => ta σ H fun vs H1 => ∃ t a xs, vs = [.ref a] ∧ SqX t K H1 a xs ∧ R (Itn K t a) H1
theorem pi_N {X : Cx} {e : Expr} {ta : TA} {p pos tp : Pos} {es : List Expr} {kk : Nat} (hg : Gl X "enumerate") (hm : X.mg "enumerate" = none) (ha : PA X [e] ta)
    (hs : starEach [e] X.env = [(false, eval e X.env)]) : PI X (.Tuple es kk tp) (.Call (.Name "enumerate" p) [e] [] pos) (iN X.K ta) := by
  constructor
  intro pins s σ H R I h
  refine PyProof.Rows.Call_ (ld_blt I hg hm PyProof.Rows.boot_enumerate (PyProof.Rows.callWith_type1 (thn (ha.run pos pins s σ H _ I h) fun us s1 ⟨vs, H1, I1, r1, q1⟩ => ?_) hs rfl))
  obtain ⟨t, a, xs, ev, qx, q⟩ := q1
  subst ev
  obtain ⟨its, rv, px, la⟩ := invX I1 qx
  cases r1 with
  | cons k1 k2 =>
    cases k2
    cases k1
    have fr : ∀ c, c ∈ [s1.heap.objs.size + 1, s1.heap.objs.size] → FpOk X pins H1 c := fun c hc => by
      simp only [List.mem_cons, List.not_mem_nil, or_false] at hc
      have le : s1.heap.objs.size ≤ c := by omega
      exact I1.fpOk le (I1.hok.fresh le)
    refine enum_one (beginsX t a its.toArray) px fun h' he hi k => wpAny_pyIter_enum he ?_
    have I2 : L2.Inv X pins σ H1 { s1 with heap := h' } := I1.kept (t' := s1.toks) k
    exact ⟨s1.heap.objs.size + 1, _, _, _, H1, rfl, I2, turnN (t := t) (a := a) (it := s1.heap.objs.size) (Nat.ne_of_gt (by omega)) (Nat.ne_of_lt la) (Nat.ne_of_gt (Nat.lt_add_right 1 la)), ⟨⟨.none, he⟩, itX_new hi⟩, fr, q⟩
end Ev
/-! Ev, part J: sources of loops and comprehensions; targets. -/
namespace Ev
open PySem PySem.Spec L2
theorem New.same {K : PySem.W.Frag} {S H : Hp} {d : D} {v : V} (s : Sub S H) (r : Rp K S d v) : New K S H S H 0 d v [] :=
  ⟨.rfl, .rfl, s, fun a x e => absurd e x, .of0 r, List.nodup_nil, fun _ z => nomatch z⟩
theorem Done.new {K : PySem.W.Frag} {S H : Hp} {d : D} : Done K S H (fun v H' => ∃ S', New K S H S' H' 0 d v []) (d, 0) := fun v S' H' fq n => by
  have e := n.ow.zero.1
  subst e
  exact ⟨S', n⟩
/-- the data that J hands out -/
def Wlk (K : PySem.W.Frag) (S H0 : Hp) (J : It) (l : List D) : Prop := ∀ S1 H, Sub S S1 → Sub H0 H → Sub S1 H → ∀ i : Nat,
  (i = l.length → J.stop i H) ∧ ∀ d, l[i]? = some d → J.go i H ∧ ∀ x H', J.yld i H x H' → ∃ S', New K S1 H S' H' 0 d x []
def SeqV (K : PySem.W.Frag) (S H : Hp) (x : V) (l : List D) : Prop := ∃ t a vs, x = .ref a ∧ (∀ H1, Sub H H1 → SqX t K H1 a vs) ∧ RpL K S l vs
section
variable {K : PySem.W.Frag} {S S' H H' H0 : Hp} {l m : List D}
theorem sqx_up {t : Bool} {a : Addr} {vs : List V} (s : Sub H H') (h : SqX t K H a vs) : SqX t K H' a vs := by
  cases t
  · exact Sub.sqL s h
  · exact Sub.sqT s h
theorem SeqV.mono {x : V} (sS : Sub S S') (sH : Sub H H') (h : SeqV K S H x l) : SeqV K S' H' x l := by
  obtain ⟨t, a, vs, e, q, r⟩ := h
  exact ⟨t, a, vs, e, fun H1 s => q H1 (sH.tr s), RpL.mono sS _ _ r⟩
theorem seq_frz {d : D} {v : V} (r : Rp K S d v) (e : seqItems true (d, 0) = .ok l) : SeqV K S S v l := by
  cases d with
  | lst m =>
    cases e
    simp only [Rp] at r
    obtain ⟨a, vs, e, q, _, r⟩ := r
    exact ⟨false, a, vs, e, fun H1 s => .of (s _ _ q), r⟩
  | tup m =>
    cases e
    simp only [Rp] at r
    obtain ⟨a, vs, e, q, _, r⟩ := r
    exact ⟨true, a, vs, e, fun H1 s => .of (s _ _ q), r⟩
  | ro m =>
    cases e
    simp only [Rp] at r
    obtain ⟨a, vs, e, q, _, r⟩ := r
    exact ⟨false, a, vs, e, fun H1 s => sqx_up (t := false) s q, r⟩
  | rot m =>
    cases e
    simp only [Rp] at r
    obtain ⟨a, vs, e, q, _, r⟩ := r
    exact ⟨true, a, vs, e, fun H1 s => sqx_up (t := true) s q, r⟩
  | _ => cases e
theorem seq_of {fz : Bool} {n : Nat} {d : D} {v : V} (h : View K S H n d v) (s : Sub S H) (e : seqItems fz (d, n) = .ok l) : SeqV K S (if fz then S else H) v l := by
  have low : ∀ {x : V}, SeqV K S S x l → SeqV K S (if fz then S else H) x l := fun q => q.mono .rfl (by
    cases fz
    · exact s
    · exact .rfl)
  cases d with
  | lst m =>
    simp only [seqItems] at e
    split at e
    · rename_i hn
      have em : m = l := Res.ok.inj e
      subst em
      rcases hn with hn | ⟨hf, hn⟩
      · subst hn
        obtain ⟨fp, o⟩ := h
        exact low (seq_frz o.zero.2 (by simp [seqItems]))
      · subst hf
        obtain ⟨a, vs, ev, q, _, r⟩ := h.lst1 hn s
        exact ⟨false, a, vs, ev, fun H1 s => .of (s _ _ q), r⟩
    · cases e
  | tup m => exact low (seq_frz h.of_tup (by simpa only [seqItems] using e))
  | ro m =>
    cases e
    cases n <;>
    · obtain ⟨fp, o⟩ := h
      simp only [Own] at o
      exact low (seq_frz o.2 rfl)
  | rot m =>
    cases e
    cases n <;>
    · obtain ⟨fp, o⟩ := h
      simp only [Own] at o
      exact low (seq_frz o.2 rfl)
  | _ => cases e
theorem wlk_l {a : Addr} {vs : List V} (q : ∀ H, Sub H0 H → SqL K H a vs) (r : RpL K S l vs) : Wlk K S H0 (Itl K a) l := fun S1 H sS sH s i => by
  refine ⟨fun e => ⟨vs, q H sH, ?_⟩, fun d e => ?_⟩
  · rw [← r.length, e]; exact Nat.le_refl _
  · obtain ⟨v, ev, rv⟩ := r.get e
    refine ⟨⟨vs, v, q H sH, ev⟩, fun x H' hy => ?_⟩
    obtain ⟨eH, hx⟩ := hy
    subst eH
    have hx := hx vs (q _ sH)
    rw [ev] at hx
    cases hx
    exact ⟨S1, .same s (Rp.mono sS _ _ rv)⟩
theorem wlk_t {a : Addr} {vs : List V} (q : ∀ H, Sub H0 H → SqT K H a vs) (r : RpL K S l vs) : Wlk K S H0 (Itt K a) l := fun S1 H sS sH s i => by
  refine ⟨fun e => ⟨vs, q H sH, ?_⟩, fun d e => ?_⟩
  · rw [← r.length, e]; exact Nat.le_refl _
  · obtain ⟨v, ev, rv⟩ := r.get e
    refine ⟨⟨vs, v, q H sH, ev⟩, fun x H' hy => ?_⟩
    obtain ⟨eH, hx⟩ := hy
    subst eH
    have hx := hx vs (q _ sH)
    rw [ev] at hx
    cases hx
    exact ⟨S1, .same s (Rp.mono sS _ _ rv)⟩
theorem upTo_get {lo : Int} {n i : Nat} {d : D} (h : (upTo lo n)[i]? = some d) : i < n ∧ d = .int (lo + (i : Int)) := by
  have lt := some_lt h
  unfold upTo at h lt
  rw [List.length_map, List.length_range] at lt
  rw [List.getElem?_map, List.getElem?_range lt] at h
  exact ⟨lt, (Option.some.inj h).symm⟩
theorem wlk_r {lo : Int} {n : Nat} : Wlk K S H0 (Itr lo n) (upTo lo n) := fun S1 H sS sH s i => by
  refine ⟨fun e => ?_, fun d e => ?_⟩
  · unfold upTo at e
    rw [List.length_map, List.length_range] at e
    show n ≤ i
    omega
  · obtain ⟨lt, ed⟩ := upTo_get e
    subst ed
    refine ⟨lt, fun x H' hy => ?_⟩
    obtain ⟨eH, ex⟩ := hy
    subst eH ex
    exact ⟨S1, .same s (by simp only [Rp])⟩
def downFrom (hi : Int) (n : Nat) : List D := (List.range n).map fun (k : Nat) => D.int (hi - (k : Int))
theorem wlk_c {hi : Int} {n : Nat} : Wlk K S H0 (Itc hi (-1) n) (downFrom hi n) := fun S1 H sS sH s i => by
  refine ⟨fun e => ?_, fun d e => ?_⟩
  · unfold downFrom at e
    rw [List.length_map, List.length_range] at e
    show n ≤ i
    omega
  · have lt := some_lt e
    unfold downFrom at e lt
    rw [List.length_map, List.length_range] at lt
    rw [List.getElem?_map, List.getElem?_range lt] at e
    have ed := Option.some.inj e
    subst ed
    refine ⟨lt, fun x H' hy => ?_⟩
    obtain ⟨eH, ex⟩ := hy
    subst eH ex
    refine ⟨S1, .same s ?_⟩
    simp only [Rp]
    congr 1
    omega
theorem zip_get : ∀ {l m : List D} {i : Nat} {d : D}, (zipItems l m)[i]? = some d → ∃ a b, l[i]? = some a ∧ m[i]? = some b ∧ d = .tup [a, b]
  | [], _, _, _, h => by simp [zipItems] at h
  | a :: l, [], _, _, h => by simp [zipItems] at h
  | a :: l, b :: m, 0, d, h => by
    simp [zipItems] at h
    exact ⟨a, b, rfl, rfl, h.symm⟩
  | a :: l, b :: m, i + 1, d, h => by
    simp only [zipItems, List.zipWith_cons_cons, List.getElem?_cons_succ] at h
    obtain ⟨x, y, h1, h2, h3⟩ := zip_get (l := l) (m := m) h
    exact ⟨x, y, by simpa using h1, by simpa using h2, h3⟩
theorem wlk_w {t u : Bool} {a b : Addr} {vs ws : List V} (q : ∀ H, Sub H0 H → SqX t K H a vs) (r : RpL K S l vs) (q' : ∀ H, Sub H0 H → SqX u K H b ws) (r' : RpL K S m ws) : Wlk K S H0 (Itw K t u a b) (zipItems l m) := fun S1 H sS sH s i => by
  refine ⟨fun e => ⟨vs, ws, q H sH, q' H sH, ?_⟩, fun d e => ?_⟩
  · have h1 := r.length
    have h2 := r'.length
    unfold zipItems at e
    rw [List.length_zipWith] at e
    omega
  · obtain ⟨d1, d2, e1, e2, ed⟩ := zip_get e
    subst ed
    obtain ⟨v, ev, rv⟩ := r.get e1
    obtain ⟨w, ew, rw'⟩ := r'.get e2
    refine ⟨⟨vs, ws, v, w, q H sH, q' H sH, ev, ew⟩, fun x H' hy => ?_⟩
    obtain ⟨T, y1, y2, ex, hT, eH, k1, k2⟩ := hy
    have k1 := k1 vs (q H sH)
    have k2 := k2 ws (q' H sH)
    rw [ev] at k1
    rw [ew] at k2
    cases k1
    cases k2
    subst ex eH
    exact Done.new.tup (K := K) s hT (.cons (Rp.mono sS _ _ rv) (.cons (Rp.mono sS _ _ rw') .nil)) (show 2 ≤ cap by decide)
theorem enm_get {l : List D} {i : Nat} {d : D} (h : (enmItems l)[i]? = some d) : ∃ a, l[i]? = some a ∧ d = .tup [.int (i : Nat), a] := by
  have lt := some_lt h
  unfold enmItems at h lt
  rw [List.length_zipWith, List.length_range, Nat.min_self] at lt
  rw [List.getElem?_zipWith, List.getElem?_range lt, List.getElem?_eq_getElem lt] at h
  exact ⟨l[i], List.getElem?_eq_getElem lt, (Option.some.inj h).symm⟩
theorem wlk_n {t : Bool} {a : Addr} {vs : List V} (q : ∀ H, Sub H0 H → SqX t K H a vs) (r : RpL K S l vs) : Wlk K S H0 (Itn K t a) (enmItems l) := fun S1 H sS sH s i => by
  refine ⟨fun e => ⟨vs, q H sH, ?_⟩, fun d e => ?_⟩
  · have h1 := r.length
    unfold enmItems at e
    rw [List.length_zipWith, List.length_range, Nat.min_self] at e
    omega
  · obtain ⟨d1, e1, ed⟩ := enm_get e
    subst ed
    obtain ⟨v, ev, rv⟩ := r.get e1
    refine ⟨⟨vs, v, q H sH, ev⟩, fun x H' hy => ?_⟩
    obtain ⟨T, y, ex, hT, eH, k1⟩ := hy
    have k1 := k1 vs (q H sH)
    rw [ev] at k1
    cases k1
    subst ex eH
    exact Done.new.tup (K := K) s hT (.cons (by simp only [Rp]) (.cons (Rp.mono sS _ _ rv) .nil)) (show 2 ≤ cap by decide)
theorem rev_get {α : Type} {l : List α} {i : Nat} {d : α} (h : l.reverse[i]? = some d) : i < l.length ∧ l[l.length - 1 - i]? = some d := by
  have lt := some_lt h
  rw [List.length_reverse] at lt
  rw [List.getElem?_reverse lt] at h
  exact ⟨lt, h⟩
theorem wlk_v {a : Addr} {vs : List V} (q : ∀ H, Sub H0 H → SqL K H a vs) (r : RpL K S l vs) : Wlk K S H0 (Itv K a vs.length) l.reverse := fun S1 H sS sH s i => by
  have hl := r.length
  refine ⟨fun e => ?_, fun d e => ?_⟩
  · rw [List.length_reverse] at e
    show vs.length ≤ i
    omega
  · obtain ⟨lt, e⟩ := rev_get e
    obtain ⟨v, ev, rv⟩ := r.get e
    rw [hl] at ev lt
    refine ⟨⟨lt, vs, v, q H sH, ev⟩, fun x H' hy => ?_⟩
    obtain ⟨eH, hx⟩ := hy
    subst eH
    have hx := hx vs (q _ sH)
    rw [ev] at hx
    cases hx
    exact ⟨S1, .same s (Rp.mono sS _ _ rv)⟩
theorem wlk_vt {a : Addr} {vs : List V} (q : ∀ H, Sub H0 H → SqT K H a vs) (r : RpL K S l vs) : Wlk K S H0 (RT.ItvT K a vs.length) l.reverse := fun S1 H sS sH s i => by
  have hl := r.length
  refine ⟨fun e => ?_, fun d e => ?_⟩
  · rw [List.length_reverse] at e
    show vs.length ≤ i
    omega
  · obtain ⟨lt, e⟩ := rev_get e
    obtain ⟨v, ev, rv⟩ := r.get e
    rw [hl] at ev lt
    refine ⟨⟨lt, vs, v, q H sH, ev⟩, fun x H' hy => ?_⟩
    obtain ⟨eH, hx⟩ := hy
    subst eH
    have hx := hx vs (q _ sH)
    rw [ev] at hx
    cases hx
    exact ⟨S1, .same s (Rp.mono sS _ _ rv)⟩
end
/-! ### readings of sources -/
def QS (K : PySem.W.Frag) (fz : Bool) : Post (List D) (It → Hp → Prop) := fun g S σ H C R l => ∀ J S' H', Sub H H' → Sub S S' → Stt K g S' σ H' C → Wlk K S' (if fz then S' else H') J l → R J H'
abbrev tS (K : PySem.W.Frag) (M : Md) (fz : Bool) (f : Env → Res (List D)) : TI := tX K M (QS K fz) f
theorem pmS {K : PySem.W.Frag} {fz : Bool} : PMono (QS K fz) := .mk fun sH sS h J S2 H2 a b c d => h J S2 H2 (sH.tr a) (sS.tr b) c d
theorem pi_imp {X : Cx} {tg e : Expr} {t t' : TI} (h : PI X tg e t) (k : ∀ σ H Q, t' σ H Q → t σ H Q) : PI X tg e t' := ⟨fun pins s σ H Q I q => h.run pins s σ H Q I (k σ H Q q)⟩
theorem nx_seqItems {fz : Bool} {c : D × Nat} : NX (seqItems fz c) := by
  unfold seqItems
  split <;> first | exact nx_ok | exact nx_ite nx_ok nx_fail | exact nx_fail
theorem nx_rngItems {l : List D} : NX (rngItems l) := by
  unfold rngItems
  split <;> first | exact nx_ite nx_ok nx_fail | exact nx_fail
section
variable {X : Cx} {M : Md} {G : Glb} {fz : Bool}
/-- by the value's kind -/
theorem pi_two {tg e : Expr} {te : TE} (h : PE X e te) {t' : TI} (k : ∀ σ H R, t' σ H R → te σ H fun x H1 => ∃ t a vs, x = .ref a ∧ SqX t X.K H1 a vs ∧ R (if t then Itt X.K a else Itl X.K a) H1) : PI X tg e t' := by
  constructor
  intro pins s σ H R I q
  refine thn (h.run pins s σ H _ I (k σ H R q)) fun v s1 ⟨x, H1, I1, r1, t, a, vs, ex, qx, z⟩ => ?_
  subst ex
  have one : ∀ {te : TE}, te = (fun _ H Q => H = H1 ∧ Q (.ref a) H) → True := fun _ => trivial
  cases r1
  cases t with
  | false =>
    obtain ⟨its, rv, p, _⟩ := I1.list qx
    refine PySem.wpAny_pyIter_list p.isList ?_
    exact pi_one (tk := s1.toks) I1 _ (turn_list a _) ⟨_, Heap.get?_push_size _ rfl, rfl, rfl⟩ z
  | true =>
    obtain ⟨its, rv, p, _⟩ := I1.tuple qx
    refine PySem.wpAny_pyIter_tuple (show s1.heap.IsTuple a its.toArray from p) ?_
    exact pi_one (tk := s1.toks) I1 _ (turn_tuple a _) ⟨_, Heap.get?_push_size _ rfl, rfl, rfl⟩ z
theorem wlk_x {K : PySem.W.Frag} {S H0 : Hp} {l : List D} {t : Bool} {a : Addr} {vs : List V} (q : ∀ H, Sub H0 H → SqX t K H a vs) (r : RpL K S l vs) : Wlk K S H0 (if t then Itt K a else Itl K a) l := by
  cases t
  · exact wlk_l q r
  · exact wlk_t q r
theorem subIf {S H : Hp} (s : Sub S H) (fz : Bool) : Sub (if fz then S else H) H := by
  cases fz
  · exact .rfl
  · exact s
theorem sp_seq {tg e : Expr} {b : BC} (h : PE X e (tV X.K M (vw G b))) : PI X tg e (tS X.K M fz (src G fz (.seq b))) := by
  refine pi_two h fun σ H R ⟨g, S, C, Γ, st, h⟩ => ?_
  refine useV pmS st h fun c v S1 H1 sH sS st1 v1 h1 => ?_
  obtain ⟨l, e, q⟩ := h1.ok nx_seqItems
  obtain ⟨t, a, vs, ev, qx, r⟩ := seq_of v1 st1.sub e
  exact ⟨t, a, vs, ev, qx H1 (subIf st1.sub fz), q _ S1 H1 .rfl .rfl st1.toStt (wlk_x qx r)⟩
theorem sp_made {tg e : Expr} {c : EC} (h : PE X e (tE X.K M (ev G c))) : PI X tg e (tS X.K M fz (src G fz (.made c))) := by
  refine pi_two h fun σ H R ⟨g, S, C, Γ, st, h⟩ => ?_
  refine useE pmS st h fun c v S1 H1 sH sS st1 r1 h1 => ?_
  obtain ⟨l, e, q⟩ := h1.ok nx_seqItems
  obtain ⟨t, a, vs, ev, qx, r⟩ := seq_frz r1 e
  refine ⟨t, a, vs, ev, qx H1 st1.sub, q _ S1 H1 .rfl .rfl st1.toStt (wlk_x (fun H s => qx H ?_) r)⟩
  cases fz
  · exact st1.sub.tr s
  · exact s
theorem rpl_int1 {K : PySem.W.Frag} {S : Hp} {i : Int} {l : List D} {vs : List V} (r : RpL K S (.int i :: l) vs) : ∃ ws, vs = .int i :: ws ∧ RpL K S l ws := by
  obtain ⟨v, ws, e, h1, h2⟩ := r.cons_inv
  simp only [Rp] at h1
  subst h1
  exact ⟨ws, e, h2⟩
theorem evs_len : ∀ (es : List EC) (Γ : Env) (ds : List (D × Nat)), evs G es Γ = .ok ds → ds.length = es.length
  | [], Γ, ds, h => by simp only [evs] at h; cases h; rfl
  | e :: es, Γ, ds, h => by
    simp only [evs] at h
    cases q : ev G e Γ with
    | ok d =>
      rw [q, Res.bind_ok] at h
      cases q2 : evs G es Γ with
      | ok r =>
        rw [q2, Res.bind_ok] at h
        cases h
        rw [List.length_cons, List.length_cons, evs_len es Γ r q2]
      | exc c ns ds => rw [q2] at h; cases h
      | fail => rw [q2] at h; cases h
    | exc c ns ds => rw [q] at h; cases h
    | fail => rw [q] at h; cases h
theorem rng_len {es : List EC} {k : Nat} (hk : es.length = k) : src G fz (.rng es) = fun Γ => (evs G es Γ).bind fun ds => if ds.length = k then rngItems (ds.map (·.1)) else .fail := by
  funext Γ
  simp only [src]
  cases q : evs G es Γ with
  | ok ds =>
    rw [Res.bind_ok, Res.bind_ok, if_pos]
    rw [evs_len es Γ ds q]
    exact hk
  | exc c ns ds => rfl
  | fail => rfl
theorem sp_rng1 {tg a : Expr} {es : List EC} {p pos : Pos} (hg : Gl X "range") (hm : X.mg "range" = none) (h : PA X [a] (tL X.K M (evs G es))) (hs : starEach [a] X.env = [(false, eval a X.env)]) :
    PI X tg (.Call (.Name "range" p) [a] [] pos) (tS X.K M fz fun Γ => (evs G es Γ).bind fun ds => if ds.length = 1 then rngItems (ds.map (·.1)) else .fail) := by
  refine pi_imp (pi_range1 hg hm h hs) fun σ H R ⟨g, S, C, Γ, st, h⟩ => ?_
  refine useL pmS st h fun ds vs S1 H1 sH sS st1 r1 h1 => ?_
  split at h1
  · rename_i hl
    obtain ⟨l, e, q⟩ := h1.ok nx_rngItems
    match ds, hl with
    | [(d, n)], _ =>
      cases d with
      | int j =>
        simp only [List.map_cons, List.map_nil, rngItems] at e
        split at e
        · rename_i hj
          cases e
          obtain ⟨ws, ev, r2⟩ := rpl_int1 r1
          rw [r2.nil_inv] at ev
          have q2 := q (Itr 0 j.toNat) S1 H1 .rfl .rfl st1.toStt wlk_r
          exact ⟨j, ev, hj.1, hj.2, q2⟩
        · cases e
      | _ => cases e
  · exact h1.elim
theorem sp_rng2 {tg a b : Expr} {es : List EC} {p pos : Pos} (hg : Gl X "range") (hm : X.mg "range" = none) (h : PA X [a, b] (tL X.K M (evs G es))) (hs : starEach [a, b] X.env = [(false, eval a X.env), (false, eval b X.env)]) (hs2 : starEach [b] X.env = [(false, eval b X.env)]) :
    PI X tg (.Call (.Name "range" p) [a, b] [] pos) (tS X.K M fz fun Γ => (evs G es Γ).bind fun ds => if ds.length = 2 then rngItems (ds.map (·.1)) else .fail) := by
  refine pi_imp (pi_range2 hg hm h hs hs2) fun σ H R ⟨g, S, C, Γ, st, h⟩ => ?_
  refine useL pmS st h fun ds vs S1 H1 sH sS st1 r1 h1 => ?_
  split at h1
  · rename_i hl
    obtain ⟨l, e, q⟩ := h1.ok nx_rngItems
    match ds, hl with
    | [(d, n), (d2, n2)], _ =>
      simp only [List.map_cons, List.map_nil] at e r1
      unfold rngItems at e
      split at e
      · rename_i x; cases x
      · rename_i i j x
        cases x
        split at e
        · rename_i hj
          cases e
          obtain ⟨ws, ev, r2⟩ := rpl_int1 r1
          obtain ⟨ws2, ev2, r3⟩ := rpl_int1 r2
          rw [r3.nil_inv] at ev2
          subst ev2
          have q2 := q (Itr i (j - i).toNat) S1 H1 .rfl .rfl st1.toStt wlk_r
          exact ⟨i, j, ev, ⟨hj.1.1, hj.1.2, hj.2.1, hj.2.2⟩, q2⟩
        · cases e
      · rename_i x; cases x
      · cases e
  · exact h1.elim
theorem sp_rng3 {tg a b c : Expr} {es : List EC} {p pos : Pos} (hg : Gl X "range") (hm : X.mg "range" = none) (h : PA X [a, b, c] (tL X.K M (evs G es))) (hs : starEach [a, b, c] X.env = (false, eval a X.env) :: starEach [b, c] X.env) (hp : (backTo pos (starEach [b, c] X.env)).any (·.1) = false) :
    PI X tg (.Call (.Name "range" p) [a, b, c] [] pos) (tS X.K M fz fun Γ => (evs G es Γ).bind fun ds => if ds.length = 3 then rngItems (ds.map (·.1)) else .fail) := by
  refine pi_imp (L2.pi_range3 hg hm h hs hp) fun σ H R ⟨g, S, C, Γ, st, h⟩ => ?_
  refine useL pmS st h fun ds vs S1 H1 sH sS st1 r1 h1 => ?_
  split at h1
  · rename_i hl
    obtain ⟨l, e, q⟩ := h1.ok nx_rngItems
    match ds, hl with
    | [(d, n), (d2, n2), (d3, n3)], _ =>
      simp only [List.map_cons, List.map_nil] at e r1
      unfold rngItems at e
      split at e
      · rename_i x; cases x
      · rename_i x; cases x
      · rename_i i j k x
        cases x
        split at e
        · rename_i hj
          cases e
          obtain ⟨ws, ev, r2⟩ := rpl_int1 r1
          obtain ⟨ws2, ev2, r3⟩ := rpl_int1 r2
          obtain ⟨ws3, ev3, r4⟩ := rpl_int1 r3
          rw [r4.nil_inv] at ev3
          subst ev3 ev2
          have ec := hj.2.2
          subst ec
          have q2 := q (Itc i (-1) (i - j).toNat) S1 H1 .rfl .rfl st1.toStt wlk_c
          exact ⟨i, j, -1, _, ev, RgC.neg hj.1.1 hj.1.2 hj.2.1.1 hj.2.1.2, q2⟩
        · cases e
      · cases e
  · exact h1.elim
theorem paired1 {α β : Type} {P : α → β → Prop} {a : α} {vs : List β} (h : Paired P [a] vs) : ∃ v, vs = [v] ∧ P a v := by
  cases h with
  | cons h r => cases r; exact ⟨_, rfl, h⟩
theorem paired2 {α β : Type} {P : α → β → Prop} {a b : α} {vs : List β} (h : Paired P [a, b] vs) : ∃ v w, vs = [v, w] ∧ P a v ∧ P b w := by
  cases h with
  | cons h r =>
    obtain ⟨w, e, h2⟩ := paired1 r
    subst e
    exact ⟨_, _, rfl, h, h2⟩
theorem sp_zip {e f : Expr} {a b : BC} {p pos tp : Pos} {es : List Expr} {kk : Nat} (hg : Gl X "zip") (hm : X.mg "zip" = none) (h : PA X [e, f] (tW X.K M (vws G [a, b])))
    (hs : starEach [e, f] X.env = (false, eval e X.env) :: starEach [f] X.env) (hp : (backTo pos (starEach [f] X.env)).any (·.1) = false) :
    PI X (.Tuple es kk tp) (.Call (.Name "zip" p) [e, f] [] pos) (tS X.K M fz (src G fz (.zip a b))) := by
  refine pi_imp (pi_W hg hm h hs hp) fun σ H R ⟨g, S, C, Γ, st, h⟩ => ?_
  have e : src G fz (.zip a b) Γ = (vws G [a, b] Γ).bind fun ds => match ds with
    | [x, y] => (seqItems fz x).bind fun l => (seqItems fz y).bind fun m => .ok (zipItems l m)
    | _ => .fail := by
    simp only [src, vws]
    cases vw G a Γ <;> simp only [Res.bind_ok, Res.bind_exc, Res.bind_fail]
    cases vw G b Γ <;> simp only [Res.bind_ok, Res.bind_exc, Res.bind_fail]
  rw [e] at h
  refine useW pmS st h fun ds vs S1 H1 sH sS st1 r1 h1 => ?_
  match ds, r1, h1 with
  | [x, y], r1, h1 =>
    obtain ⟨v, w, ev, vx, vy⟩ := paired2 r1
    subst ev
    obtain ⟨l, e1, q⟩ := PO.ok (nx_bind nx_seqItems fun _ => nx_bind nx_seqItems fun _ => nx_ok) h1
    cases k1 : seqItems fz x with
    | ok l1 =>
      rw [k1, Res.bind_ok] at e1
      cases k2 : seqItems fz y with
      | ok l2 =>
        rw [k2, Res.bind_ok] at e1
        cases e1
        obtain ⟨t, a1, xs, ex, qx, rx⟩ := seq_of vx st1.sub k1
        obtain ⟨u, a2, ys, ey, qy, ry⟩ := seq_of vy st1.sub k2
        subst ex ey
        exact ⟨t, u, a1, a2, xs, ys, rfl, qx H1 (subIf st1.sub fz), qy H1 (subIf st1.sub fz), q _ S1 H1 .rfl .rfl st1.toStt (wlk_w qx rx qy ry)⟩
      | exc c ns ds => rw [k2] at e1; cases e1
      | fail => rw [k2] at e1; cases e1
    | exc c ns ds => rw [k1] at e1; cases e1
    | fail => rw [k1] at e1; cases e1
  | [], r1, h1 => exact h1.elim
  | [_], r1, h1 => exact h1.elim
  | _ :: _ :: _ :: _, r1, h1 => exact h1.elim
theorem sp_enm {e : Expr} {b : BC} {p pos tp : Pos} {es : List Expr} {kk : Nat} (hg : Gl X "enumerate") (hm : X.mg "enumerate" = none) (h : PA X [e] (tW X.K M (vws G [b])))
    (hs : starEach [e] X.env = [(false, eval e X.env)]) : PI X (.Tuple es kk tp) (.Call (.Name "enumerate" p) [e] [] pos) (tS X.K M fz (src G fz (.enm b))) := by
  refine pi_imp (pi_N hg hm h hs) fun σ H R ⟨g, S, C, Γ, st, h⟩ => ?_
  have e : src G fz (.enm b) Γ = (vws G [b] Γ).bind fun ds => match ds with
    | [x] => (seqItems fz x).bind fun l => .ok (enmItems l)
    | _ => .fail := by
    simp only [src, vws]
    cases vw G b Γ <;> simp only [Res.bind_ok, Res.bind_exc, Res.bind_fail]
  rw [e] at h
  refine useW pmS st h fun ds vs S1 H1 sH sS st1 r1 h1 => ?_
  match ds, r1, h1 with
  | [x], r1, h1 =>
    obtain ⟨v, ev, vx⟩ := paired1 r1
    subst ev
    obtain ⟨l, e1, q⟩ := PO.ok (nx_bind nx_seqItems fun _ => nx_ok) h1
    cases k1 : seqItems fz x with
    | ok l1 =>
      rw [k1, Res.bind_ok] at e1
      cases e1
      obtain ⟨t, a1, xs, ex, qx, rx⟩ := seq_of vx st1.sub k1
      subst ex
      exact ⟨t, a1, xs, rfl, qx H1 (subIf st1.sub fz), q _ S1 H1 .rfl .rfl st1.toStt (wlk_n qx rx)⟩
    | exc c ns ds => rw [k1] at e1; cases e1
    | fail => rw [k1] at e1; cases e1
  | [], r1, h1 => exact h1.elim
  | _ :: _ :: _, r1, h1 => exact h1.elim
theorem sp_rev {tg e : Expr} {b : BC} {p pos : Pos} (hg : Gl X "reversed") (hm : X.mg "reversed" = none) (h : PE X e (tV X.K M (vw G b))) (hs : starEach [e] X.env = (false, eval e X.env) :: starEach [] X.env) :
    PI X tg (.Call (.Name "reversed" p) [e] [] pos) (tS X.K M fz (src G fz (.rev b))) := by
  refine pi_imp (RT.pi_revA hg hm h hs) fun σ H R ⟨g, S, C, Γ, st, h⟩ => ?_
  refine useV pmS st h fun c v S1 H1 sH sS st1 vx h1 => ?_
  obtain ⟨l, e1, q⟩ := PO.ok (nx_bind nx_seqItems fun _ => nx_ok) h1
  cases k1 : seqItems fz c with
  | ok l1 =>
    rw [k1, Res.bind_ok] at e1
    cases e1
    obtain ⟨t, a1, xs, ex, qx, rx⟩ := seq_of vx st1.sub k1
    subst ex
    refine ⟨a1, xs, rfl, ?_⟩
    cases t with
    | false => exact .inl ⟨qx H1 (subIf st1.sub fz), q _ S1 H1 .rfl .rfl st1.toStt (wlk_v qx rx)⟩
    | true => exact .inr ⟨qx H1 (subIf st1.sub fz), q _ S1 H1 .rfl .rfl st1.toStt (wlk_vt qx rx)⟩
  | exc c ns ds => rw [k1] at e1; cases e1
  | fail => rw [k1] at e1; cases e1
end
end Ev
/-! Ev, part K: targets; argument lists; the rest of the expressions. -/
namespace Ev
open PySem PySem.Spec L2
theorem wipe_set {i : Nat} {x : Option V} : ∀ {σ : L2.St} {vs : List Nat}, i ∈ vs → wipe (σ.set i x) vs = wipe σ vs
  | σ, [], h => by cases h
  | σ, v :: vs, h => by
    unfold wipe
    by_cases e : v = i
    · subst e
      apply List.ext_getElem?
      intro j
      by_cases hj : j = v
      · subst hj
        have l1 : (wipe (σ.set j x) vs).length = σ.length := by rw [wipe_length, List.length_set]
        have l2 : (wipe σ vs).length = σ.length := wipe_length _ _
        by_cases hl : j < σ.length
        · rw [List.getElem?_set_self (by omega), List.getElem?_set_self (by omega)]
        · rw [List.getElem?_eq_none (by rw [List.length_set]; omega), List.getElem?_eq_none (by rw [List.length_set]; omega)]
      · rw [List.getElem?_set_ne (Ne.symm hj), List.getElem?_set_ne (Ne.symm hj)]
        by_cases hm : j ∈ vs
        · have key : ∀ (τ : L2.St) (ws : List Nat), j ∈ ws → (wipe τ ws)[j]? = if j < τ.length then some none else none := by
            intro τ ws
            induction ws with
            | nil => intro h; cases h
            | cons w ws ih =>
              intro h
              unfold wipe
              by_cases hw : w = j
              · subst hw
                by_cases hl : w < τ.length
                · rw [List.getElem?_set_self (by rw [wipe_length]; exact hl), if_pos hl]
                · rw [List.getElem?_eq_none (by rw [List.length_set, wipe_length]; omega), if_neg hl]
              · rw [List.getElem?_set_ne hw]
                exact ih ((List.mem_cons.mp h).resolve_left fun z => hw z.symm)
          rw [key _ _ hm, key _ _ hm, List.length_set]
        · rw [wipe_out hm, wipe_out hm, List.getElem?_set_ne (Ne.symm hj)]
    · rw [wipe_set ((List.mem_cons.mp h).resolve_left fun z => e z.symm)]
theorem nStar_wipe {σ τ : L2.St} {us vs : List Nat} (h : ∀ i ∈ us, i ∈ vs) (e : wipe σ us = wipe τ us) (hl : σ.length = τ.length) : wipe σ vs = wipe τ vs := by
  have out : ∀ (ρ : L2.St) (ws : List Nat) (j : Nat), (wipe ρ ws)[j]? = if j ∈ ws then (if j < ρ.length then some none else none) else ρ[j]? := by
    intro ρ ws
    induction ws with
    | nil => intro j; simp [wipe]
    | cons w ws ih =>
      intro j
      unfold wipe
      by_cases hw : w = j
      · subst hw
        rw [if_pos List.mem_cons_self]
        by_cases hl : w < ρ.length
        · rw [List.getElem?_set_self (by rw [wipe_length]; exact hl), if_pos hl]
        · rw [List.getElem?_eq_none (by rw [List.length_set, wipe_length]; omega), if_neg hl]
      · rw [List.getElem?_set_ne hw, ih j]
        have : (j ∈ w :: ws) ↔ j ∈ ws := by
          rw [List.mem_cons]
          exact ⟨fun z => z.resolve_left fun q => hw q.symm, .inr⟩
        by_cases hm : j ∈ ws
        · rw [if_pos hm, if_pos (this.mpr hm)]
        · rw [if_neg hm, if_neg (fun z => hm (this.mp z))]
  apply List.ext_getElem?
  intro j
  rw [out, out]
  by_cases hj : j ∈ vs
  · rw [if_pos hj, if_pos hj, hl]
  · rw [if_neg hj, if_neg hj]
    have q := congrArg (fun l => l[j]?) e
    simp only [out] at q
    rw [if_neg (fun z => hj (h j z)), if_neg (fun z => hj (h j z))] at q
    exact q
/-! ### targets -/
def Then (K : PySem.W.Frag) (g : Gh) (S : Hp) (σ : L2.St) (H : Hp) (C : CM) (vs : List Nat) (Γ : Env) (Q : L2.St → Hp → Prop) : Prop := ∀ σ' C' S', Sub S S' → Stt K g S' σ' H C' → GR C' Γ σ' → wipe σ' vs = wipe σ vs → σ'.length = σ.length → (∀ i, i ∉ vs → C' i = C i) → Q σ' H
def tTG (K : PySem.W.Frag) (f : D × Nat → Env → Res Env) (vs : List Nat) : L2.TG := fun v σ H Q => ∃ g S C Γ c Γ', Stt K g S σ H C ∧ GR C Γ σ ∧ Got K g S σ H C c v ∧ f c Γ = .ok Γ' ∧ Then K g S σ H C vs Γ' Q
def tTGs (K : PySem.W.Frag) (f : List D → Env → Res Env) (vs : List Nat) : L2.TGs := fun ws σ H Q => ∃ g S C Γ ds Γ', Stt K g S σ H C ∧ GR C Γ σ ∧ RpL K S ds ws ∧ f ds Γ = .ok Γ' ∧ Then K g S σ H C vs Γ' Q
section
variable {X : Cx} {vs : List Nat}
theorem pg_imp {e : Expr} {t t' : L2.TG} (h : PG X e t) (k : ∀ v σ H Q, t' v σ H Q → t v σ H Q) : PG X e t' := ⟨fun pins s σ H v u Q I r q => h.run pins s σ H v u Q I r (k v σ H Q q)⟩
theorem pgs_imp {e : List Expr} {t t' : L2.TGs} (h : PGs X e t) (k : ∀ v σ H Q, t' v σ H Q → t v σ H Q) : PGs X e t' := ⟨fun pins s σ H v u Q I r q => h.run pins s σ H v u Q I r (k v σ H Q q)⟩
theorem sg_nm {i : Nat} {x : Str} {pos : Pos} (hN : X.N.Nodup) (hi : X.N[i]? = some x) (hx : Loc X.env.scope x) (hf : X.fn x = true ∨ X.env.scope.names.lookup x = some .local) (hv : i ∈ vs) : PG X (.Name x pos) (tTG X.K (asgT (.nm i)) vs) := by
  constructor
  intro pins s σ H v u Q I r h
  refine (pg_name hN hi hx hf).run pins s σ H v u Q I r ?_
  obtain ⟨g, S, C, Γ, c, Γ', st, gr, got, e, th⟩ := h
  cases e
  obtain ⟨j, hj, hc⟩ := st.free
  have hl : i < σ.length := by rw [I.len]; exact (List.getElem?_eq_some_iff.mp hi).1
  have s1 := (got j hj hc).store (i := i) setC_same hl (by omega)
  rw [setC_setC, setC_self hc] at s1
  exact th _ _ S .rfl s1 gr.set (wipe_set hv) (List.length_set ..) fun k hk => setC_ne fun z => hk (by rw [z]; exact hv)
theorem sgs_nil : PGs X [] (tTGs X.K (asgL []) vs) := by
  refine pgs_imp pgs_nil fun ws σ H Q ⟨g, S, C, Γ, ds, Γ', st, gr, r, e, th⟩ => ?_
  cases ds with
  | nil =>
    simp only [asgL] at e
    cases e
    exact ⟨r.nil_inv, th σ C S .rfl st gr rfl rfl fun _ _ => rfl⟩
  | cons d ds => simp only [asgL] at e; cases e
theorem sgs_cons {e : Expr} {es : List Expr} {t : TG} {ts : List TG} (h1 : PG X e (tTG X.K (asgT t) vs)) (h2 : PGs X es (tTGs X.K (asgL ts) vs))
    (hs : (assignEach (e :: es) X.env).map (·.2) = assign e X.env :: (assignEach es X.env).map (·.2)) : PGs X (e :: es) (tTGs X.K (asgL (t :: ts)) vs) := by
  refine pgs_imp (pgs_cons h1 h2 hs) fun ws σ H Q ⟨g, S, C, Γ, ds, Γ', st, gr, r, e, th⟩ => ?_
  cases ds with
  | nil => simp only [asgL] at e; cases e
  | cons d ds =>
    simp only [asgL] at e
    obtain ⟨v, rw', ev, rv, rr⟩ := r.cons_inv
    subst ev
    cases q : asgT t (d, 0) Γ with
    | ok Γ1 =>
      rw [q, Res.bind_ok] at e
      refine ⟨v, rw', rfl, g, S, C, Γ, (d, 0), Γ1, st, gr, .of st rv, q, fun σ1 C1 S1 s1 st1 gr1 w1 l1 k1 => ?_⟩
      exact ⟨g, S1, C1, Γ1, ds, Γ', st1, gr1, RpL.mono s1 _ _ rr, e, fun σ2 C2 S2 s2 st2 gr2 w2 l2 k2 => th σ2 C2 S2 (s1.tr s2) st2 gr2 (w2.trans w1) (l2.trans l1) fun i hi => (k2 i hi).trans (k1 i hi)⟩
    | exc c ns ds => rw [q] at e; cases e
    | fail => rw [q] at e; cases e
theorem asg_length : ∀ {ts : List TG} {ds : List D} {Γ Γ' : Env}, asgL ts ds Γ = .ok Γ' → ds.length = ts.length
  | [], [], _, _, _ => rfl
  | [], _ :: _, _, _, h => by simp only [asgL] at h; cases h
  | _ :: _, [], _, _, h => by simp only [asgL] at h; cases h
  | t :: ts, d :: ds, Γ, Γ', h => by
    simp only [asgL] at h
    cases q : asgT t (d, 0) Γ with
    | ok Γ1 =>
      rw [q, Res.bind_ok] at h
      rw [List.length_cons, List.length_cons, asg_length h]
    | exc c ns ds => rw [q] at h; cases h
    | fail => rw [q] at h; cases h
theorem sg_tp {es : List Expr} {k : Nat} {ts : List TG} {pos : Pos} (hc : X.calm = true) (h : PGs X es (tTGs X.K (asgL ts) vs)) (hn : (assignEach es X.env).length = ts.length) (hst : (assignEach es X.env).findIdx? (·.1) = none) :
    PG X (.Tuple es k pos) (tTG X.K (asgT (.tp ts)) vs) := by
  constructor
  intro pins s σ H v u Q I r ⟨g, S, C, Γ, c, Γ', st, gr, got, e, th⟩
  obtain ⟨S1, s1, rp, st1⟩ := got.frz st.free
  have th1 : Then X.K g S1 σ H C vs Γ' Q := fun σ2 C2 S2 s2 => th σ2 C2 S2 (s1.tr s2)
  obtain ⟨d, n⟩ := c
  cases d with
  | tup l =>
    simp only [asgT] at e
    simp only [Rp] at rp
    obtain ⟨a, ws, ev, q, _, rl⟩ := rp
    exact (pg_tup hc h hn hst).run pins s σ H v u Q I r ⟨a, ws, ev, .of (st1.sub _ _ q), by rw [← rl.length]; exact asg_length e, g, S1, C, Γ, l, Γ', st1, gr, rl, e, th1⟩
  | lst l =>
    simp only [asgT] at e
    split at e
    · simp only [Rp] at rp
      obtain ⟨a, ws, ev, q, _, rl⟩ := rp
      exact (pg_lst hc h hn hst).run pins s σ H v u Q I r ⟨a, ws, ev, .of (st1.sub _ _ q), by rw [← rl.length]; exact asg_length e, g, S1, C, Γ, l, Γ', st1, gr, rl, e, th1⟩
    · cases e
  | _ => simp only [asgT] at e; cases e
end
/-! ### argument lists -/
section
variable {X : Cx} {M : Md} {G : Glb}
theorem sa_nil : PA X [] (tL X.K M (evs G [])) := pa_imp pa_nil fun σ H Q ⟨g, S, C, Γ, st, h⟩ => h [] S H .rfl .rfl st.toStt .nil
theorem sa_cons {e : Expr} {es : List Expr} {c : EC} {cs : List EC} (h1 : PE X e (tE X.K M (ev G c))) (h2 : PA X es (tL X.K M (evs G cs))) (hs : starEach (e :: es) X.env = (false, eval e X.env) :: starEach es X.env) : PA X (e :: es) (tL X.K M (evs G (c :: cs))) := by
  refine pa_imp (pa_cons h1 h2 hs) fun σ H Q ⟨g, S, C, Γ, st, h⟩ => ?_
  simp only [evs] at h
  refine useE pmL st h fun c1 v S1 H1 sH sS st1 r1 h1 => useL pmL st1 h1 fun ds ws S2 H2 sH2 sS2 st2 r2 h2 => ?_
  exact h2 (v :: ws) S2 H2 .rfl .rfl st2.toStt (.cons (Rp.mono sS2 _ _ r1) r2)
theorem sb_nil : PA X [] (tW X.K M (vws G [])) := pa_imp pa_nil fun σ H Q ⟨g, S, C, Γ, st, h⟩ => h [] S H .rfl .rfl st.toStt .nil
theorem paired_mono {P Q : D × Nat → V → Prop} : ∀ {l : List (D × Nat)} {m : List V}, Paired P l m → (∀ a b, P a b → Q a b) → Paired Q l m
  | _, _, .nil, _ => .nil
  | _, _, .cons h r, k => .cons (k _ _ h) (paired_mono r k)
theorem sb_cons {e : Expr} {es : List Expr} {c : BC} {cs : List BC} (h1 : PE X e (tV X.K M (vw G c))) (h2 : PA X es (tW X.K M (vws G cs))) (hs : starEach (e :: es) X.env = (false, eval e X.env) :: starEach es X.env) : PA X (e :: es) (tW X.K M (vws G (c :: cs))) := by
  refine pa_imp (pa_cons h1 h2 hs) fun σ H Q ⟨g, S, C, Γ, st, h⟩ => ?_
  simp only [vws] at h
  refine useV pmW st h fun c1 v S1 H1 sH sS st1 v1 h1 => useW pmW st1 h1 fun ds ws S2 H2 sH2 sS2 st2 r2 h2 => ?_
  exact h2 (v :: ws) S2 H2 .rfl .rfl st2.toStt (.cons (v1.mono sH2 sS2) r2)
/-! ### tests -/
theorem rbl {K : PySem.W.Frag} {S : Hp} {b : Bool} : Rp K S (.bl b) (.bl b) := by simp only [Rp]
/-- a test's value from its reading as a value -/
theorem useB {α τ : Type} {p : Post α τ} {K : PySem.W.Frag} {g : Gh} {S H : Hp} {σ : L2.St} {C : CM} {Γ : Env} {t : TC} {k : Bool → Res α} {Q : τ} {R : VK} (hm : PMono p) (st : Sit K M g S σ H C Γ) (h : PO K M.W g S σ H C ((ts G t Γ).bind k) (p g S σ H C Q))
    (n : ∀ b S1 H1, Sub H H1 → Sub S S1 → Sit K M g S1 σ H1 C Γ → PO K M.W g S1 σ H1 C (k b) (p g S1 σ H1 C Q) → R (.bl b) H1) : tE K M (ev G (.tst t)) σ H R := by
  have e : (ts G t Γ).bind k = (ev G (.tst t) Γ).bind fun c => match c.1 with
    | .bl b => k b
    | _ => .fail := by
    simp only [ev]
    cases ts G t Γ <;> rfl
  rw [e] at h
  refine useE hm st h fun c v S1 H1 sH sS st1 r1 h1 => ?_
  obtain ⟨d, m⟩ := c
  cases d with
  | bl b => rw [rp_bl r1]; exact n b S1 H1 sH sS st1 h1
  | _ => exact h1.elim
theorem se_tru {e : Expr} {b : BC} (h : PE X e (tV X.K M (vw G b))) : PE X e (tE X.K M (ev G (.tst (.tru b)))) := by
  refine pe_imp h fun σ H Q ⟨g, S, C, Γ, st, h⟩ => ?_
  have e : ev G (.tst (.tru b)) Γ = (vw G b Γ).bind fun c => match c.1 with
      | .bl b => .ok (.bl b, 0)
      | _ => .fail := by
    simp only [ev, ts]
    cases vw G b Γ with
    | ok c => obtain ⟨d, n⟩ := c; cases d <;> rfl
    | exc c ns ds => rfl
    | fail => rfl
  rw [e] at h
  refine useV pmE st h fun c v S1 H1 sH sS st1 v1 h1 => ?_
  obtain ⟨d, n⟩ := c
  cases d with
  | bl b => rw [v1.bl st1.sub]; exact h1 (.bl b) S1 H1 .rfl .rfl (.of st1.toStt rbl)
  | _ => exact h1.elim
/-- a value that is a bool, as a test -/
theorem st_val {e : Expr} {t : TC} (h : PE X e (tE X.K M (ev G (.tst t)))) (he : ∀ whole, isTrue e X.env whole = (do let v ← whole; standAt e.pos; holding [v] (truthy v))) : PT X e (tT X.K M (ts G t)) := by
  refine pt_imp (pt_val h he) fun σ H Q ⟨g, S, C, Γ, st, h⟩ => ?_
  have h : PO X.K M.W g S σ H C ((ts G t Γ).bind .ok) (QB X.K g S σ H C Q) := by cases q : ts G t Γ <;> rw [q] at h <;> exact h
  exact useB (R := fun x H1 => ∃ c, x = .bl c ∧ Q c H1) pmB st h fun b S1 H1 sH sS st1 h1 => ⟨b, rfl, h1 S1 H1 .rfl .rfl st1.toStt⟩
theorem st_use {α τ : Type} {p : Post α τ} {K : PySem.W.Frag} {g : Gh} {S H : Hp} {σ : L2.St} {C : CM} {Γ : Env} {t : TC} {k : Bool → Res α} {Q : τ} {R : Bool → Hp → Prop} (hm : PMono p) (st : Sit K M g S σ H C Γ) (h : PO K M.W g S σ H C ((ts G t Γ).bind k) (p g S σ H C Q))
    (n : ∀ b S1 H1, Sub H H1 → Sub S S1 → Sit K M g S1 σ H1 C Γ → PO K M.W g S1 σ H1 C (k b) (p g S1 σ H1 C Q) → R b H1) : tT K M (ts G t) σ H R :=
  useT hm st h n
theorem s_and {a b : Expr} {r : List Expr} {pos : Pos} {t u : TC} (ha : PT X a (tT X.K M (ts G t))) (hb : PW X (.BoolOp .And (b :: r) pos) (tT X.K M (ts G u))) : PW X (.BoolOp .And (a :: b :: r) pos) (tT X.K M (ts G (.and t u))) := by
  refine pw_imp (pw_and ha hb) fun σ H Q ⟨g, S, C, Γ, st, h⟩ => ?_
  simp only [ts] at h
  refine st_use pmB st h fun c S1 H1 sH sS st1 h1 => ?_
  cases c with
  | true => exact iteT ⟨g, S1, C, Γ, st1, h1⟩
  | false => exact iteF (h1 S1 H1 .rfl .rfl st1.toStt)
theorem s_or {a b : Expr} {r : List Expr} {pos : Pos} {t u : TC} (ha : PT X a (tT X.K M (ts G t))) (hb : PW X (.BoolOp .Or (b :: r) pos) (tT X.K M (ts G u))) : PW X (.BoolOp .Or (a :: b :: r) pos) (tT X.K M (ts G (.or t u))) := by
  refine pw_imp (pw_or ha hb) fun σ H Q ⟨g, S, C, Γ, st, h⟩ => ?_
  simp only [ts] at h
  refine st_use pmB st h fun c S1 H1 sH sS st1 h1 => ?_
  cases c with
  | true => exact iteT (h1 S1 H1 .rfl .rfl st1.toStt)
  | false => exact iteF ⟨g, S1, C, Γ, st1, h1⟩
theorem st_not {a : Expr} {pos : Pos} {t : TC} (ha : PT X a (tT X.K M (ts G t))) : PT X (.UnaryOp .Not a pos) (tT X.K M (ts G (.not t))) := by
  refine pt_imp (pt_not ha) fun σ H Q ⟨g, S, C, Γ, st, h⟩ => ?_
  simp only [ts] at h
  exact st_use pmB st h fun c S1 H1 sH sS st1 h1 => h1 S1 H1 .rfl .rfl st1.toStt
theorem tst_bind {t : TC} {k : Bool → Res Bool} {Γ : Env} {u : TC} (e : ts G u Γ = (ts G t Γ).bind k) : ev G (.tst u) Γ = (ts G t Γ).bind fun b => (k b).bind fun c => .ok (.bl c, 0) := by
  simp only [ev]
  rw [e]
  cases ts G t Γ <;> rfl
theorem se_and {a b : Expr} {r : List Expr} {pos : Pos} {t u : TC} (ha : PE X a (tE X.K M (ev G (.tst t)))) (hb : PE X (.BoolOp .And (b :: r) pos) (tE X.K M (ev G (.tst u)))) : PE X (.BoolOp .And (a :: b :: r) pos) (tE X.K M (ev G (.tst (.and t u)))) := by
  refine pe_imp (pe_and ha hb) fun σ H Q ⟨g, S, C, Γ, st, h⟩ => ?_
  rw [tst_bind (t := t) (k := fun c => if c then ts G u Γ else .ok false) (by simp only [ts])] at h
  refine useB pmE st h fun c S1 H1 sH sS st1 h1 => ⟨c, rfl, ?_⟩
  cases c with
  | true => exact iteT ⟨g, S1, C, Γ, st1, h1⟩
  | false => exact iteF (h1 (.bl false) S1 H1 .rfl .rfl (.of st1.toStt rbl))
theorem se_or {a b : Expr} {r : List Expr} {pos : Pos} {t u : TC} (ha : PE X a (tE X.K M (ev G (.tst t)))) (hb : PE X (.BoolOp .Or (b :: r) pos) (tE X.K M (ev G (.tst u)))) : PE X (.BoolOp .Or (a :: b :: r) pos) (tE X.K M (ev G (.tst (.or t u)))) := by
  refine pe_imp (pe_or ha hb) fun σ H Q ⟨g, S, C, Γ, st, h⟩ => ?_
  rw [tst_bind (t := t) (k := fun c => if c then .ok true else ts G u Γ) (by simp only [ts])] at h
  refine useB pmE st h fun c S1 H1 sH sS st1 h1 => ⟨c, rfl, ?_⟩
  cases c with
  | true => exact iteT (h1 (.bl true) S1 H1 .rfl .rfl (.of st1.toStt rbl))
  | false => exact iteF ⟨g, S1, C, Γ, st1, h1⟩
theorem se_not {a : Expr} {pos : Pos} {t : TC} (ha : PE X a (tE X.K M (ev G (.tst t)))) : PE X (.UnaryOp .Not a pos) (tE X.K M (ev G (.tst (.not t)))) := by
  refine pe_imp (pe_not ha) fun σ H Q ⟨g, S, C, Γ, st, h⟩ => ?_
  rw [tst_bind (t := t) (k := fun c => .ok (!c)) (by simp only [ts])] at h
  exact useB pmE st h fun c S1 H1 sH sS st1 h1 => ⟨c, rfl, h1 (.bl (!c)) S1 H1 .rfl .rfl (.of st1.toStt rbl)⟩
theorem pe_one {a : Expr} {op : BoolOp} {pos : Pos} {te : TE} (h : PE X a te) : PE X (.BoolOp op [a] pos) te := ⟨fun pins s σ H Q I q => by
  have e : eval (.BoolOp op [a] pos) X.env = eval a X.env := by cases op <;> rfl
  rw [e]
  exact h.run pins s σ H Q I q⟩
theorem se_chn {o p : Cop} {a b c : Expr} {pos : Pos} {ca cb cc : BC} (hu : X.A.units + 65 < cLine) (ha : PE X a (tV X.K M (vw G ca))) (hb : PE X b (tV X.K M (vw G cb))) (hc : PE X c (tV X.K M (vw G cc))) (hm2 : behindInMarks (cpOf p) c = false) :
    PE X (.Compare a [cpOf o, cpOf p] [b, c] pos) (tE X.K M (ev G (.tst (.chn o p ca cb cc)))) := by
  refine pe_imp (pe_chain (hm := hm2) (opr_cmp hu o) (opr_cmp hu p) ha hb hc) fun σ H Q ⟨g, S, C, Γ, st, h⟩ => ?_
  have e : ev G (.tst (.chn o p ca cb cc)) Γ = (vw G ca Γ).bind fun x => (vw G cb Γ).bind fun y => (cmpD o x y).bind fun k => if k then (vw G cc Γ).bind fun z => (cmpD p y z).bind fun b => .ok (.bl b, 0) else .ok (.bl false, 0) := by
    simp only [ev, ts]
    cases vw G ca Γ <;> simp only [Res.bind_ok, Res.bind_exc, Res.bind_fail]
    cases vw G cb Γ <;> simp only [Res.bind_ok, Res.bind_exc, Res.bind_fail]
    rename_i x y
    cases cmpD o x y <;> simp only [Res.bind_ok, Res.bind_exc, Res.bind_fail]
    rename_i k
    cases k
    · rfl
    · simp only [if_true]
      cases vw G cc Γ <;> simp only [Res.bind_ok, Res.bind_exc, Res.bind_fail]
  rw [e] at h
  refine useV pmE st h fun c v S1 H1 sH sS st1 v1 h1 => useV pmE st1 h1 fun c2 v2 S2 H2 sH2 sS2 st2 v2' h2 => ?_
  cases q : cmpD o c c2 with
  | ok b =>
    rw [q, Res.bind_ok] at h2
    refine ⟨S2, c, c2, st2.sub, v1.mono sH2 sS2, v2', b, q, b, rfl, ?_⟩
    cases b with
    | true =>
      simp only [if_true] at h2
      refine iteT (useV pmE st2 h2 fun c4 v4 S4 H4 sH4 sS4 st4 v4' h4 => ?_)
      cases q4 : cmpD p c2 c4 with
      | ok b4 =>
        rw [q4] at h4
        exact ⟨S4, c2, c4, st4.sub, v2'.mono sH4 sS4, v4', b4, q4, h4 (.bl b4) S4 H4 .rfl .rfl (.of st4.toStt rbl)⟩
      | exc c ns ds => exact absurd q4 (nx_cmpD c ns ds)
      | fail => rw [q4] at h4; exact h4.elim
    | false => exact iteF (h2 (.bl false) S2 H2 .rfl .rfl (.of st2.toStt rbl))
  | exc c ns ds => exact absurd q (nx_cmpD c ns ds)
  | fail => rw [q] at h2; exact h2.elim
/-! ### values -/
theorem se_ifx {c a b : Expr} {pos : Pos} {t : TC} {ca cb : EC} (hc : PT X c (tT X.K M (ts G t))) (ha : PE X a (tE X.K M (ev G ca))) (hb : PE X b (tE X.K M (ev G cb))) : PE X (.IfExp c a b pos) (tE X.K M (ev G (.ifx t ca cb))) := by
  refine pe_imp (pe_ifExp hc ha hb) fun σ H Q ⟨g, S, C, Γ, st, h⟩ => ?_
  simp only [ev] at h
  refine st_use pmE st h fun c S1 H1 sH sS st1 h1 => ?_
  cases c with
  | true => exact iteT ⟨g, S1, C, Γ, st1, h1⟩
  | false => exact iteF ⟨g, S1, C, Γ, st1, h1⟩
theorem se_tup {es : List Expr} {k : Nat} {pos : Pos} {cs : List EC} (hl : cs.length ≤ 1000) (h : PA X es (tL X.K M (evs G cs))) : PE X (.Tuple es k pos) (tE X.K M (ev G (.tup cs))) := by
  refine pe_imp (pe_tup h) fun σ H Q ⟨g, S, C, Γ, st, h⟩ => ?_
  simp only [ev] at h
  have h : PO X.K M.W g S σ H C ((evs G cs Γ).bind fun ds => if ds.length = cs.length then .ok (.tup (ds.map (·.1)), 0) else .fail) (QE X.K g S σ H C Q) := by
    cases q : evs G cs Γ with
    | ok ds => rw [q, Res.bind_ok] at h; rw [Res.bind_ok, if_pos (evs_len cs Γ ds q)]; exact h
    | exc c ns ds => rw [q] at h; exact h
    | fail => rw [q] at h; exact h
  refine useL pmE st h fun ds ws S1 H1 sH sS st1 r1 h1 => ?_
  split at h1
  · rename_i el
    have lw : ws.length ≤ cap := by
      have := r1.length
      rw [List.length_map] at this
      unfold cap
      omega
    exact ⟨cap_le lw, fun p hp => (Done.of st1.toStt h1).tup st1.sub hp r1 lw⟩
  · exact h1.elim
theorem se_lst {es : List Expr} {pos : Pos} {cs : List EC} (hl : cs.length ≤ 1000) (h : PA X es (tL X.K M (evs G cs))) : PE X (.List es pos) (tE X.K M (ev G (.lst 0 cs))) := by
  refine pe_imp (pe_lst h) fun σ H Q ⟨g, S, C, Γ, st, h⟩ => ?_
  simp only [ev, true_or, if_true] at h
  have h : PO X.K M.W g S σ H C ((evs G cs Γ).bind fun ds => if ds.length = cs.length then .ok (.lst (ds.map (·.1)), 1) else .fail) (QE X.K g S σ H C Q) := by
    cases q : evs G cs Γ with
    | ok ds => rw [q, Res.bind_ok] at h; rw [Res.bind_ok, if_pos (evs_len cs Γ ds q)]; exact h
    | exc c ns ds => rw [q] at h; exact h
    | fail => rw [q] at h; exact h
  refine useL pmE st h fun ds ws S1 H1 sH sS st1 r1 h1 => ?_
  split at h1
  · rename_i el
    have lw : ws.length ≤ cap := by
      have := r1.length
      rw [List.length_map] at this
      unfold cap
      omega
    exact ⟨cap_le lw, fun p hp => (Done.of st1.toStt h1).lst st1.sub hp r1 lw⟩
  · exact h1.elim
theorem sv_idx {a b : Expr} {pos : Pos} {ca : BC} {cb : EC} (hu : X.A.units + 1 < cLine) (ha : PE X a (tV X.K M (vw G ca))) (hb : PE X b (tE X.K M (ev G cb))) (hs : PlainIx b) : PE X (.Subscript a b pos) (tV X.K M (vw G (.idx ca cb))) := by
  refine pe_imp (pe_ix (ixr_idx hu) ha hb hs) fun σ H Q ⟨g, S, C, Γ, st, h⟩ => ?_
  simp only [vw] at h
  refine useV pmV st h fun c v S1 H1 sH sS st1 v1 h1 => useE pmV st1 h1 fun c2 v2 S2 H2 sH2 sS2 st2 r2 h2 => ?_
  obtain ⟨c3, e, q⟩ := h2.ok nx_idxD
  exact ⟨S2, c, c2.1, st2.sub, v1.mono sH2 sS2, Rp.mono st2.sub _ _ r2, c3, e, fun w vwv => q w S2 H2 .rfl .rfl st2.toStt vwv⟩
theorem se_idx {a b : Expr} {pos : Pos} {ca : BC} {cb : EC} (hu : X.A.units + 1 < cLine) (ha : PE X a (tV X.K M (vw G ca))) (hb : PE X b (tE X.K M (ev G cb))) (hs : PlainIx b) : PE X (.Subscript a b pos) (tE X.K M (ev G (.idx ca cb))) := by
  refine pe_imp (pe_ix (ixr_idx hu) ha hb hs) fun σ H Q ⟨g, S, C, Γ, st, h⟩ => ?_
  simp only [ev] at h
  refine useV pmE st h fun c v S1 H1 sH sS st1 v1 h1 => useE pmE st1 h1 fun c2 v2 S2 H2 sH2 sS2 st2 r2 h2 => ?_
  cases e : idxD c c2.1 with
  | ok r =>
    rw [e, Res.bind_ok] at h2
    split at h2
    · rename_i hr
      refine ⟨S2, c, c2.1, st2.sub, v1.mono sH2 sS2, Rp.mono st2.sub _ _ r2, r, e, fun w vwv => ?_⟩
      obtain ⟨d, n⟩ := r
      dsimp only at hr vwv
      subst hr
      obtain ⟨fp, o⟩ := vwv
      exact h2 w S2 H2 .rfl .rfl (.of st2.toStt o.zero.2)
    · exact h2.elim
  | exc c ns ds => exact absurd e (nx_idxD c ns ds)
  | fail => rw [e] at h2; exact h2.elim
/-! ### slices -/
def QP (K : PySem.W.Frag) : Post (Option Int) (Option Int → Hp → Prop) := fun g S σ H C Q o => ∀ S' H', Sub H H' → Sub S S' → Stt K g S' σ H' C → Q o H'
theorem pmP {K : PySem.W.Frag} : PMono (QP K) := .mk fun sH sS h S2 H2 a b c => h S2 H2 (sH.tr a) (sS.tr b) c
abbrev tP (K : PySem.W.Frag) (M : Md) (f : Env → Res (Option Int)) : TO := tX K M (QP K) f
theorem po_imp {e : Option Expr} {t t' : TO} (h : L2.PO X e t) (k : ∀ σ H Q, t' σ H Q → t σ H Q) : L2.PO X e t' := ⟨fun pins s σ H Q I q => h.run pins s σ H Q I (k σ H Q q)⟩
theorem sp_none : L2.PO X none (tP X.K M fun Γ => (evs G [] Γ).bind partOf) := po_imp po_none fun σ H Q ⟨g, S, C, Γ, st, h⟩ => h S H .rfl .rfl st.toStt
theorem sp_some {e : Expr} {c : EC} (h : PE X e (tE X.K M (ev G c))) : L2.PO X (some e) (tP X.K M fun Γ => (evs G [c] Γ).bind partOf) := po_imp (po_some h) fun σ H Q ⟨g, S, C, Γ, st, h⟩ => by
  have e : (evs G [c] Γ).bind partOf = (ev G c Γ).bind fun x => partOf [x] := by
    simp only [evs]
    cases ev G c Γ <;> rfl
  have h : PO X.K M.W g S σ H C ((evs G [c] Γ).bind partOf) (QP X.K g S σ H C Q) := h
  rw [e] at h
  refine useE pmP st h fun x v S1 H1 sH sS st1 r1 h1 => ?_
  obtain ⟨d, n⟩ := x
  cases d with
  | int i => exact ⟨i, rp_int r1, h1 S1 H1 .rfl .rfl st1.toStt⟩
  | _ => exact h1.elim
theorem usePart {α τ : Type} {p : Post α τ} {K : PySem.W.Frag} {g : Gh} {S H : Hp} {σ : L2.St} {C : CM} {Γ : Env} {f : Env → Res (Option Int)} {k : Option Int → Res α} {Q : τ} {R : Option Int → Hp → Prop} (hm : PMono p) (st : Sit K M g S σ H C Γ) (h : PO K M.W g S σ H C ((f Γ).bind k) (p g S σ H C Q))
    (n : ∀ c S1 H1, Sub H H1 → Sub S S1 → Sit K M g S1 σ H1 C Γ → PO K M.W g S1 σ H1 C (k c) (p g S1 σ H1 C Q) → R c H1) : tP K M f σ H R :=
  use hm st h fun c hk S1 H1 sH sS st1 => n c S1 H1 sH sS (st.to sS st1) (hk S1 H1 sH sS)
theorem bind_assoc {α β γ : Type} (a : Res α) (f : α → Res β) (k : β → Res γ) : (a.bind f).bind k = a.bind fun x => (f x).bind k := by cases a <;> rfl
theorem nx_partOf {l : List (D × Nat)} : NX (partOf l) := by
  unfold partOf
  split <;> first | exact nx_ok | exact nx_fail
theorem se_slc {a : Expr} {lo hi : Option Expr} {p2 pos : Pos} {b : BC} {cl ch : List EC} (ha : PE X a (tV X.K M (vw G b))) (hl : L2.PO X lo (tP X.K M fun Γ => (evs G cl Γ).bind partOf)) (hh : L2.PO X hi (tP X.K M fun Γ => (evs G ch Γ).bind partOf)) :
    PE X (.Subscript a (.Slice lo hi none p2) pos) (tE X.K M fun Γ => (vw G b Γ).bind fun x => ((evs G cl Γ).bind partOf).bind fun l => ((evs G ch Γ).bind partOf).bind fun h => slcD x l h) := by
  refine pe_imp (pe_slice slr_slc ha hl hh) fun σ H Q ⟨g, S, C, Γ, st, h⟩ => ?_
  refine useV pmE st h fun c v S1 H1 sH sS st1 v1 h1 => usePart pmE st1 h1 fun l S2 H2 sH2 sS2 st2 h2 => usePart pmE st2 h2 fun u S3 H3 sH3 sS3 st3 h3 => ?_
  obtain ⟨c3, e, q⟩ := h3.ok nx_slcD
  exact ⟨S3, c, st3.sub, v1.mono (sH2.tr sH3) (sS2.tr sS3), c3, e, .of st3.toStt q⟩
theorem se_rev {a : Expr} {k : Nat} {p1 p2 p3 pos : Pos} {b : BC} (ha : PE X a (tV X.K M (vw G b))) : PE X (.Subscript a (.Slice none none (some (.UnaryOp .USub (.Constant (.int 1) k p1) p2)) p3) pos) (tE X.K M (ev G (.rev b))) := by
  refine pe_imp (pe_revL ha) fun σ H Q ⟨g, S, C, Γ, st, h⟩ => ?_
  simp only [ev] at h
  refine useV pmE st h fun c v S1 H1 sH sS st1 v1 h1 => ?_
  obtain ⟨c3, e, q⟩ := h1.ok nx_revD
  obtain ⟨d, n⟩ := c
  cases d with
  | lst l =>
    simp only [revD] at e
    split at e
    · rename_i hn
      cases e
      obtain ⟨a, vs, ev, h, z, r⟩ := v1.lst1 hn st1.sub
      exact ⟨a, vs, ev, .of h, fun p hp => (Done.of st1.toStt q).lst st1.sub hp r.reverse (by rw [List.length_reverse]; exact z)⟩
    · cases e
  | _ => cases e
/-! ### built-in functions -/
theorem se_biB {x : Str} {id : String} {f : Bi} {e : Expr} {es : List Expr} {p pos : Pos} {bs : List BC} (hf : biVal f = .builtin id) (hc : CallR X (biVal f) (rBi X.K f)) (hg : Gl X x) (hm : X.mg x = none) (hv : bootBuiltins x = some (.builtin id)) (ha : PA X (e :: es) (tW X.K M (vws G bs)))
    (hn : x ≠ "__name__") (hdb : (x == ("__debug__" : Str)) = false) (he : starEach (e :: es) X.env = (false, eval e X.env) :: starEach es X.env) (hpl : (backTo pos (starEach es X.env)).any (·.1) = false) : PE X (.Call (.Name x p) (e :: es) [] pos) (tE X.K M (ev G (.bi f bs))) := by
  rw [hf] at hc
  refine pe_imp (pe_callB hc hg hm hv ha hn hdb he hpl) fun σ H Q ⟨g, S, C, Γ, st, h⟩ => ?_
  simp only [ev] at h
  refine useW pmE st h fun ds vs S1 H1 sH sS st1 r1 h1 => ?_
  obtain ⟨c, e, q⟩ := h1.ok nx_biD
  exact ⟨S1, ds, st1.sub, r1, c, e, .of st1.toStt q⟩
theorem se_biT {x : Str} {T : String} {f : Bi} {e : Expr} {es : List Expr} {p pos : Pos} {bs : List BC} (hf : biVal f = .type T) (hc : CallR X (biVal f) (rBi X.K f)) (hg : Gl X x) (hm : X.mg x = none) (hv : bootBuiltins x = some (.type T)) (ha : PA X (e :: es) (tW X.K M (vws G bs)))
    (hn : x ≠ "__name__") (hdb : (x == ("__debug__" : Str)) = false) (he : starEach (e :: es) X.env = (false, eval e X.env) :: starEach es X.env) (hpl : (backTo pos (starEach es X.env)).any (·.1) = false) : PE X (.Call (.Name x p) (e :: es) [] pos) (tE X.K M (ev G (.bi f bs))) := by
  rw [hf] at hc
  refine pe_imp (pe_callTy hc hg hm hv ha hn hdb he hpl) fun σ H Q ⟨g, S, C, Γ, st, h⟩ => ?_
  simp only [ev] at h
  refine useW pmE st h fun ds vs S1 H1 sH sS st1 r1 h1 => ?_
  obtain ⟨c, e, q⟩ := h1.ok nx_biD
  exact ⟨S1, ds, st1.sub, r1, c, e, .of st1.toStt q⟩
end
end Ev
/-! Ev, part L: further steps of the ghost state; comprehensions. -/
namespace Ev
open PySem PySem.Spec L2
section
variable {K : PySem.W.Frag} {g : Gh} {S S' H H' : Hp} {σ σ' : L2.St} {C C2 : CM}
/-- cells are let go, slots forgotten -/
theorem Stt.thin (st : Stt K g S σ H C) (hc : ∀ i c, C2 i = some c → C i = some c) (hs : ∀ i d n v, C2 i = some (d, n, v) → i < σ'.length → σ'[i]? = some (some v)) : Stt K g S σ' H C2 := by
  obtain ⟨fp, o⟩ := st.own
  refine ⟨st.sub, st.pre, st.lim, ⟨fun i => match C2 i with | some _ => fp i | none => [], ?_⟩, hs, ?_⟩
  · have mem : ∀ {i a}, a ∈ (match C2 i with | some _ => fp i | none => []) → a ∈ fp i := fun {i a} h => by
      split at h
      · exact h
      · cases h
    refine ⟨fun i d n v e => ?_, fun i e => ?_, fun i => ?_, fun i j a h1 h2 => o.dis i j a (mem h1) (mem h2), fun i a h => o.out i a (mem h), fun i a h => o.inH i a (mem h)⟩
    · simp only [e]
      exact o.at_ i d n v (hc _ _ e)
    · simp only [e]
    · cases C2 i with
      | some c => exact o.nd i
      | none => exact List.nodup_nil
  · obtain ⟨b, h⟩ := st.fin
    refine ⟨b, fun j hj => ?_⟩
    cases e : C2 j with
    | none => rfl
    | some c =>
      have := hc _ _ e
      rw [h j hj] at this
      cases this
/-- cells change places -/
theorem Stt.perm (st : Stt K g S σ H C) (p : Nat → Nat) (pp : ∀ i, p (p i) = i) {b : Nat} (hb : ∀ j, b ≤ j → p j = j) (hs : ∀ i d n v, C (p i) = some (d, n, v) → i < σ'.length → σ'[i]? = some (some v)) : Stt K g S σ' H fun i => C (p i) := by
  obtain ⟨fp, o⟩ := st.own
  refine ⟨st.sub, st.pre, st.lim, ⟨fun i => fp (p i), fun i d n v e => o.at_ _ d n v e, fun i e => o.no _ e, fun i => o.nd _, fun i j a h1 h2 => ?_, fun i a h => o.out _ a h, fun i a h => o.inH _ a h⟩, hs, ?_⟩
  · have := congrArg p (o.dis _ _ a h1 h2)
    rwa [pp, pp] at this
  · obtain ⟨c, h⟩ := st.fin
    exact ⟨max b c, fun j hj => by rw [hb j (by omega)]; exact h j (by omega)⟩
/-- the thing of a cell changes within its objects -/
theorem Stt.edit (st : Stt K g S σ H C) {i n : Nat} {d d' : D} {v : V} (e : C i = some (d, n, v))
    (h : ∀ fi, Own K S H n d v fi → fi.Nodup → (∀ a ∈ fi, S a = none) → Own K S H' n d' v fi ∧ ∀ a, a ∉ fi → H' a = H a) : Stt K g S σ H' (setC C i (some (d', n, v))) := by
  obtain ⟨fp, o⟩ := st.own
  obtain ⟨ow, ne⟩ := h (fp i) (o.at_ i d n v e) (o.nd i) fun a ha => (o.out i a ha).1
  have keep : ∀ a, S a ≠ none ∨ g.T a ≠ none → H' a = H a := fun a ha => ne a fun hm => by
    rcases ha with z | z
    · exact z (o.out i a hm).1
    · exact z (o.out i a hm).2
  refine ⟨fun a u q => ?_, fun a u q => ?_, st.lim, ⟨fp, fun k dk nk vk ek => ?_, fun k ek => ?_, o.nd, o.dis, o.out, fun k a ha => ?_⟩, fun k dk nk vk ek hl => ?_, ?_⟩
  · rw [keep a (.inl (by rw [q]; simp))]
    exact st.sub _ _ q
  · rw [keep a (.inr (by rw [q]; simp))]
    exact st.pre _ _ q
  · by_cases hk : k = i
    · subst hk
      rw [setC_same] at ek
      cases ek
      exact ow
    · rw [setC_ne hk] at ek
      exact (o.at_ k dk nk vk ek).mono .rfl nk dk vk _ fun a ha u q => by rw [ne a fun z => hk (o.dis k i a ha z)]; exact q
  · by_cases hk : k = i
    · subst hk; rw [setC_same] at ek; cases ek
    · rw [setC_ne hk] at ek; exact o.no k ek
  · by_cases hk : k = i
    · subst hk; exact ow.inH a ha
    · rw [ne a fun z => hk (o.dis k i a ha z)]
      exact o.inH k a ha
  · by_cases hk : k = i
    · subst hk
      rw [setC_same] at ek
      cases ek
      exact st.slot k _ _ _ e hl
    · rw [setC_ne hk] at ek; exact st.slot k dk nk vk ek hl
  · obtain ⟨b, hf⟩ := st.fin
    exact ⟨_, fin_set hf⟩
theorem All3.put {P : D → V → List Addr → Prop} {d : D} {v : V} {f : List Addr} (h : P d v f) : ∀ {ds vs fs} (j : Nat), All3 P ds vs fs → All3 P (ds.set j d) (vs.set j v) (fs.set j f)
  | _, _, _, _, .nil => .nil
  | _, _, _, 0, .cons _ r => .cons h r
  | _, _, _, j + 1, .cons q r => .cons q (All3.put h j r)
theorem mem_set_flat {x : Addr} {f : List Addr} : ∀ {fs : List (List Addr)} {j : Nat}, x ∈ (fs.set j f).flatten → x ∈ fs.flatten ∨ x ∈ f
  | [], j, h => by simp at h
  | q :: fs, 0, h => by
    rw [List.set_cons_zero, List.flatten_cons] at h
    rw [List.flatten_cons]
    rcases List.mem_append.mp h with h | h
    · exact .inr h
    · exact .inl (List.mem_append_right _ h)
  | q :: fs, j + 1, h => by
    rw [List.set_cons_succ, List.flatten_cons] at h
    rw [List.flatten_cons]
    rcases List.mem_append.mp h with h | h
    · exact .inl (List.mem_append_left _ h)
    · rcases mem_set_flat h with h | h
      · exact .inl (List.mem_append_right _ h)
      · exact .inr h
theorem nodup_set_flat {f : List Addr} (nf : f.Nodup) : ∀ {fs : List (List Addr)} {j : Nat}, fs.flatten.Nodup → (∀ x ∈ f, x ∉ fs.flatten) → (fs.set j f).flatten.Nodup
  | [], j, _, _ => by simp
  | q :: fs, 0, nd, dj => by
    rw [List.flatten_cons] at nd dj
    obtain ⟨n1, n2, n3⟩ := List.nodup_append.mp nd
    rw [List.set_cons_zero, List.flatten_cons]
    exact List.nodup_append.mpr ⟨nf, n2, fun a ha b hb e => dj a ha (List.mem_append_right _ (by rw [e]; exact hb))⟩
  | q :: fs, j + 1, nd, dj => by
    rw [List.flatten_cons] at nd dj
    obtain ⟨n1, n2, n3⟩ := List.nodup_append.mp nd
    rw [List.set_cons_succ, List.flatten_cons]
    refine List.nodup_append.mpr ⟨n1, nodup_set_flat nf n2 fun x hx h => dj x hx (List.mem_append_right _ h), fun a ha b hb e => ?_⟩
    rcases mem_set_flat hb with h | h
    · exact n3 a ha b h e
    · exact dj b h (List.mem_append_left _ (by rw [← e]; exact ha))
/-- what is held at j goes to the place k of the list at i -/
theorem Stt.putIn (st : Stt K g S σ H C) {i j n k : Nat} {l : List D} {d : D} {p : Addr} {v : V} (hij : i ≠ j) (e : C i = some (.lst l, n + 1, .ref p)) (ej : C j = some (d, n, v)) :
    ∃ vs, H p = some (.lst vs) ∧ vs.length = l.length ∧ Stt K g S σ (upd H p (.lst (vs.set k v))) (setC (setC C j none) i (some (.lst (l.set k d), n + 1, .ref p))) := by
  obtain ⟨fp, o⟩ := st.own
  have oi := o.at_ i _ _ _ e
  have oj := o.at_ j _ _ _ ej
  simp only [Own] at oi
  obtain ⟨a, vs, fps, ea, q, z, r, ef⟩ := oi
  cases ea
  have len : vs.length = l.length := r.len.1.symm
  have hp : p ∈ fp i := by rw [ef]; exact List.mem_cons_self
  have Sp : S p = none := (o.out i p hp).1
  have Tp : g.T p = none := (o.out i p hp).2
  have off : ∀ k, k ≠ i → p ∉ fp k := fun k hk h => hk (o.dis k i p h hp)
  have ndi := o.nd i
  rw [ef] at ndi
  obtain ⟨npf, ndf⟩ := List.nodup_cons.mp ndi
  have inner : ∀ f ∈ fps, p ∉ f := fun f hf hm => npf (List.mem_flatten.mpr ⟨f, hf, hm⟩)
  -- the new objects
  have sub : ∀ b, b ∈ p :: (fps.set k (fp j)).flatten → b ∈ fp i ∨ b ∈ fp j := fun b hb => by
    rcases List.mem_cons.mp hb with hb | hb
    · exact .inl (by rw [hb]; exact hp)
    · rcases mem_set_flat hb with h | h
      · exact .inl (by rw [ef]; exact List.mem_cons_of_mem _ h)
      · exact .inr h
  have apart : ∀ x ∈ fp j, x ∉ fps.flatten := fun x hx h => hij (o.dis i j x (by rw [ef]; exact List.mem_cons_of_mem _ h) hx)
  have nd' : (p :: (fps.set k (fp j)).flatten).Nodup := by
    refine List.nodup_cons.mpr ⟨fun h => ?_, nodup_set_flat (o.nd j) ndf apart⟩
    rcases mem_set_flat h with h | h
    · exact npf h
    · exact off j (Ne.symm hij) h
  refine ⟨vs, q, len, fun b u h => ?_, fun b u h => ?_, st.lim, ⟨fun m => if m = i then p :: (fps.set k (fp j)).flatten else if m = j then [] else fp m, fun m dk nk vk ek => ?_, fun m ek => ?_, fun m => ?_, fun m m' b h1 h2 => ?_, fun m b h => ?_, fun m b h => ?_⟩, fun m dk nk vk ek hk => ?_, ?_⟩
  · rw [upd_ne (ne_of_none h Sp)]; exact st.sub _ _ h
  · rw [upd_ne (ne_of_none h Tp)]; exact st.pre _ _ h
  · by_cases hk : m = i
    · subst hk
      rw [setC_same] at ek
      cases ek
      simp only [if_true, Own]
      refine ⟨p, vs.set k v, fps.set k (fp j), rfl, upd_same, by rw [List.length_set]; exact z, ?_, rfl⟩
      refine All3.put ?_ k (r.imp fun d v f mm h => ?_)
      · exact oj.mono .rfl n d v _ fun b hb u => by rw [upd_ne fun y => off j (Ne.symm hij) (by rw [← y]; exact hb)]; exact id
      · exact h.mono .rfl n d v _ fun b hb u => by rw [upd_ne fun y => inner f mm (by rw [← y]; exact hb)]; exact id
    · rw [setC_ne hk] at ek
      by_cases hkj : m = j
      · subst hkj; rw [setC_same] at ek; cases ek
      · rw [setC_ne hkj] at ek
        simp only [hk, hkj, if_false]
        exact (o.at_ m dk nk vk ek).mono .rfl nk dk vk _ fun b hb u => by rw [upd_ne fun y => off m hk (by rw [← y]; exact hb)]; exact id
  · by_cases hk : m = i
    · subst hk; rw [setC_same] at ek; cases ek
    · rw [setC_ne hk] at ek
      by_cases hkj : m = j
      · simp only [hkj, if_true]
        split
        · rename_i y; exact absurd y.symm hij
        · rfl
      · rw [setC_ne hkj] at ek
        simp only [hk, hkj, if_false]
        exact o.no m ek
  · show (if m = i then p :: (fps.set k (fp j)).flatten else if m = j then [] else fp m).Nodup
    split
    · exact nd'
    · split
      · exact List.nodup_nil
      · exact o.nd m
  · have m1 : ∀ {m}, b ∈ (if m = i then p :: (fps.set k (fp j)).flatten else if m = j then [] else fp m) → (m = i ∧ (b ∈ fp i ∨ b ∈ fp j)) ∨ (m ≠ i ∧ m ≠ j ∧ b ∈ fp m) := fun {m} h => by
      split at h
      · rename_i y; exact .inl ⟨y, sub b h⟩
      · split at h
        · cases h
        · rename_i y1 y2; exact .inr ⟨y1, y2, h⟩
    rcases m1 h1 with ⟨y1, y2⟩ | ⟨y1, y2, y3⟩
    · rcases m1 h2 with ⟨x1, x2⟩ | ⟨x1, x2, x3⟩
      · rw [y1, x1]
      · rcases y2 with y2 | y2
        · exact absurd (o.dis i m' b y2 x3).symm x1
        · exact absurd (o.dis j m' b y2 x3).symm x2
    · rcases m1 h2 with ⟨x1, x2⟩ | ⟨x1, x2, x3⟩
      · rcases x2 with x2 | x2
        · exact absurd (o.dis m i b y3 x2) y1
        · exact absurd (o.dis m j b y3 x2) y2
      · exact o.dis m m' b y3 x3
  · have h : b ∈ (if m = i then p :: (fps.set k (fp j)).flatten else if m = j then [] else fp m) := h
    split at h
    · rcases sub b h with h | h
      · exact o.out i b h
      · exact o.out j b h
    · split at h
      · cases h
      · exact o.out m b h
  · have h : b ∈ (if m = i then p :: (fps.set k (fp j)).flatten else if m = j then [] else fp m) := h
    have get : ∀ m, b ∈ fp m → ∃ u, upd H p (.lst (vs.set k v)) b = some u := fun m h => by
      by_cases y : b = p
      · exact ⟨_, by rw [y, upd_same]⟩
      · rw [upd_ne y]; exact o.inH m b h
    split at h
    · rcases sub b h with h | h
      · exact get i h
      · exact get j h
    · split at h
      · cases h
      · exact get m h
  · by_cases hk2 : m = i
    · subst hk2
      rw [setC_same] at ek
      cases ek
      exact st.slot m _ _ _ e hk
    · rw [setC_ne hk2] at ek
      by_cases hkj : m = j
      · subst hkj; rw [setC_same] at ek; cases ek
      · rw [setC_ne hkj] at ek; exact st.slot m dk nk vk ek hk
  · obtain ⟨c, hc⟩ := st.fin
    refine ⟨max c (i + 1), fun m hm => ?_⟩
    rw [setC_ne (by omega)]
    by_cases hkj : m = j
    · subst hkj; exact setC_same
    · rw [setC_ne hkj]; exact hc m (by omega)
theorem All3.snoc {P : D → V → List Addr → Prop} {d : D} {v : V} {f : List Addr} (h : P d v f) : ∀ {ds vs fs}, All3 P ds vs fs → All3 P (ds ++ [d]) (vs ++ [v]) (fs ++ [f])
  | _, _, _, .nil => .cons h .nil
  | _, _, _, .cons q r => .cons q (All3.snoc h r)
/-- what is held at j goes into the list at i -/
theorem Stt.app (st : Stt K g S σ H C) {i j n : Nat} {l : List D} {d : D} {p : Addr} {v : V} (hij : i ≠ j) (e : C i = some (.lst l, n + 1, .ref p)) (ej : C j = some (d, n, v)) (hl : l.length < cap) :
    ∃ vs, H p = some (.lst vs) ∧ vs.length = l.length ∧ Stt K g S σ (upd H p (.lst (vs ++ [v]))) (setC (setC C j none) i (some (.lst (l ++ [d]), n + 1, .ref p))) := by
  obtain ⟨fp, o⟩ := st.own
  have oi := o.at_ i _ _ _ e
  have oj := o.at_ j _ _ _ ej
  simp only [Own] at oi
  obtain ⟨a, vs, fps, ea, q, z, r, ef⟩ := oi
  cases ea
  have len : vs.length = l.length := r.len.1.symm
  have hp : p ∈ fp i := by rw [ef]; exact List.mem_cons_self
  have Sp : S p = none := (o.out i p hp).1
  have Tp : g.T p = none := (o.out i p hp).2
  have off : ∀ k, k ≠ i → p ∉ fp k := fun k hk h => hk (o.dis k i p h hp)
  have inner : ∀ f ∈ fps, p ∉ f := fun f hf hm => by
    have nd := o.nd i
    rw [ef] at nd
    exact (List.nodup_cons.mp nd).1 (List.mem_flatten.mpr ⟨f, hf, hm⟩)
  refine ⟨vs, q, len, fun b u k => ?_, fun b u k => ?_, st.lim, ⟨fun k => if k = i then fp i ++ fp j else if k = j then [] else fp k, fun k dk nk vk ek => ?_, fun k ek => ?_, fun k => ?_, fun k m b h1 h2 => ?_, fun k b h => ?_, fun k b h => ?_⟩, fun k dk nk vk ek hk => ?_, ?_⟩
  · rw [upd_ne (ne_of_none k Sp)]; exact st.sub _ _ k
  · rw [upd_ne (ne_of_none k Tp)]; exact st.pre _ _ k
  · by_cases hk : k = i
    · subst hk
      rw [setC_same] at ek
      cases ek
      simp only [if_true, Own]
      refine ⟨p, vs ++ [v], fps ++ [fp j], rfl, upd_same, by rw [List.length_append, len]; exact hl, ?_, by rw [ef, List.flatten_append]; simp⟩
      refine All3.snoc ?_ (r.imp fun d v f m h => ?_)
      · exact oj.mono .rfl n d v _ fun b hb u => by rw [upd_ne fun y => off j (Ne.symm hij) (by rw [← y]; exact hb)]; exact id
      · exact h.mono .rfl n d v _ fun b hb u => by rw [upd_ne fun y => inner f m (by rw [← y]; exact hb)]; exact id
    · rw [setC_ne hk] at ek
      by_cases hkj : k = j
      · subst hkj; rw [setC_same] at ek; cases ek
      · rw [setC_ne hkj] at ek
        simp only [hk, hkj, if_false]
        exact (o.at_ k dk nk vk ek).mono .rfl nk dk vk _ fun b hb u => by rw [upd_ne fun y => off k hk (by rw [← y]; exact hb)]; exact id
  · by_cases hk : k = i
    · subst hk; rw [setC_same] at ek; cases ek
    · rw [setC_ne hk] at ek
      by_cases hkj : k = j
      · simp only [hk, hkj, if_false, if_true]
        split
        · rename_i y; exact absurd y.symm hij
        · rfl
      · rw [setC_ne hkj] at ek
        simp only [hk, hkj, if_false]
        exact o.no k ek
  · show (if k = i then fp i ++ fp j else if k = j then [] else fp k).Nodup
    split
    · exact List.nodup_append.mpr ⟨o.nd i, o.nd j, fun a ha b hb y => hij (o.dis i j a ha (by rw [y]; exact hb))⟩
    · split
      · exact List.nodup_nil
      · exact o.nd k
  · have m1 : ∀ {k}, b ∈ (if k = i then fp i ++ fp j else if k = j then [] else fp k) → (k = i ∧ (b ∈ fp i ∨ b ∈ fp j)) ∨ (k ≠ i ∧ k ≠ j ∧ b ∈ fp k) := fun {k} h => by
      split at h
      · rename_i y; exact .inl ⟨y, List.mem_append.mp h⟩
      · split at h
        · cases h
        · rename_i y1 y2; exact .inr ⟨y1, y2, h⟩
    rcases m1 h1 with ⟨y1, y2⟩ | ⟨y1, y2, y3⟩
    · rcases m1 h2 with ⟨z1, z2⟩ | ⟨z1, z2, z3⟩
      · rw [y1, z1]
      · rcases y2 with y2 | y2
        · exact absurd (o.dis m i b z3 y2) z1
        · exact absurd (o.dis m j b z3 y2) z2
    · rcases m1 h2 with ⟨z1, z2⟩ | ⟨z1, z2, z3⟩
      · rcases z2 with z2 | z2
        · exact absurd (o.dis k i b y3 z2) y1
        · exact absurd (o.dis k j b y3 z2) y2
      · exact o.dis k m b y3 z3
  · have h : b ∈ (if k = i then fp i ++ fp j else if k = j then [] else fp k) := h
    split at h
    · rcases List.mem_append.mp h with h | h
      · exact o.out i b h
      · exact o.out j b h
    · split at h
      · cases h
      · exact o.out k b h
  · have h : b ∈ (if k = i then fp i ++ fp j else if k = j then [] else fp k) := h
    have old : ∃ u, H b = some u := by
      split at h
      · rcases List.mem_append.mp h with h | h
        · exact o.inH i b h
        · exact o.inH j b h
      · split at h
        · cases h
        · exact o.inH k b h
    by_cases hb : b = p
    · subst hb; exact ⟨_, upd_same⟩
    · rw [upd_ne hb]; exact old
  · by_cases hki : k = i
    · subst hki
      rw [setC_same] at ek
      cases ek
      exact st.slot k _ _ _ e hk
    · rw [setC_ne hki] at ek
      by_cases hkj : k = j
      · subst hkj; rw [setC_same] at ek; cases ek
      · rw [setC_ne hkj] at ek; exact st.slot k dk nk vk ek hk
  · obtain ⟨b, h⟩ := st.fin
    exact ⟨_, fin_set (fin_set h)⟩
/-- a held thing goes to another free place -/
theorem Stt.move (st : Stt K g S σ H C) {i j : Nat} {c : D × Nat × V} (e : C i = some c) (hi : σ.length ≤ i) (hj : σ.length ≤ j) (hc : C j = none) : Stt K g S σ H (setC (setC C i none) j (some c)) := by
  have hij : i ≠ j := fun z => by rw [z, hc] at e; cases e
  have := st.perm (σ' := σ) (fun k => if k = i then j else if k = j then i else k) (fun k => by
    by_cases h1 : k = i
    · subst h1; simp only [if_true]; rw [if_neg (Ne.symm hij)]
    · by_cases h2 : k = j
      · subst h2; simp only [h1, if_true, if_false]
      · simp only [h1, h2, if_false]) (b := max (i + 1) (j + 1)) (fun k hk => by
    rw [if_neg (by omega), if_neg (by omega)]) (fun k d n v ek hl => by
    rw [if_neg (by omega), if_neg (by omega)] at ek
    exact st.slot k d n v ek hl)
  have eq : (fun k => C (if k = i then j else if k = j then i else k)) = setC (setC C i none) j (some c) := by
    funext k
    by_cases h2 : k = j
    · subst h2
      rw [setC_same, if_neg (Ne.symm hij), if_pos rfl, e]
    · rw [setC_ne h2]
      by_cases h1 : k = i
      · subst h1
        rw [setC_same, if_pos rfl, hc]
      · rw [setC_ne h1, if_neg h1, if_neg h2]
  rw [eq] at this
  exact this
end
end Ev
/-! Ev, part M: comprehensions. -/
namespace Ev
open PySem PySem.Spec L2
theorem wipe_get (ρ : L2.St) (ws : List Nat) (j : Nat) : (wipe ρ ws)[j]? = if j ∈ ws then (if j < ρ.length then some none else none) else ρ[j]? := by
  induction ws generalizing j with
  | nil => simp [wipe]
  | cons w ws ih =>
    unfold wipe
    by_cases hw : w = j
    · subst hw
      rw [if_pos List.mem_cons_self]
      by_cases hl : w < ρ.length
      · rw [List.getElem?_set_self (by rw [wipe_length]; exact hl), if_pos hl]
      · rw [List.getElem?_eq_none (by rw [List.length_set, wipe_length]; omega), if_neg hl]
    · rw [List.getElem?_set_ne hw, ih j]
      have : (j ∈ w :: ws) ↔ j ∈ ws := by
        rw [List.mem_cons]
        exact ⟨fun z => z.resolve_left fun q => hw q.symm, .inr⟩
      by_cases hm : j ∈ ws
      · rw [if_pos hm, if_pos (this.mpr hm)]
      · rw [if_neg hm, if_neg (fun z => hm (this.mp z))]
theorem wipe_wipe {σ : L2.St} {us vs : List Nat} (h : ∀ i ∈ us, i ∈ vs) : wipe (wipe σ us) vs = wipe σ vs := by
  apply List.ext_getElem?
  intro j
  rw [wipe_get, wipe_get, wipe_length, wipe_get]
  by_cases hj : j ∈ vs
  · rw [if_pos hj, if_pos hj]
  · rw [if_neg hj, if_neg hj, if_neg fun z => hj (h j z)]
theorem wipeG_len (Γ : Env) : ∀ vs : List Nat, (wipeG Γ vs).length = Γ.length
  | [] => rfl
  | v :: vs => by unfold wipeG; rw [List.length_set, wipeG_len Γ vs]
theorem wipeG_get (ρ : Env) (ws : List Nat) (j : Nat) : (wipeG ρ ws)[j]? = if j ∈ ws then (if j < ρ.length then some none else none) else ρ[j]? := by
  induction ws generalizing j with
  | nil => simp [wipeG]
  | cons w ws ih =>
    unfold wipeG
    by_cases hw : w = j
    · subst hw
      rw [if_pos List.mem_cons_self]
      by_cases hl : w < ρ.length
      · rw [List.getElem?_set_self (by rw [wipeG_len]; exact hl), if_pos hl]
      · rw [List.getElem?_eq_none (by rw [List.length_set, wipeG_len]; omega), if_neg hl]
    · rw [List.getElem?_set_ne hw, ih j]
      have : (j ∈ w :: ws) ↔ j ∈ ws := by
        rw [List.mem_cons]
        exact ⟨fun z => z.resolve_left fun q => hw q.symm, .inr⟩
      by_cases hm : j ∈ ws
      · rw [if_pos hm, if_pos (this.mpr hm)]
      · rw [if_neg hm, if_neg (fun z => hm (this.mp z))]
section
variable {K : PySem.W.Frag} {g : Gh} {S S' H H' : Hp} {σ σ' : L2.St} {C C2 : CM} {Γ : Env} {vs : List Nat}
theorem gr_wipe (gr : GR C Γ σ) (h1 : ∀ i ∈ vs, C2 i = none) (h2 : ∀ i, i < σ.length → i ∉ vs → C2 i = C i) : GR C2 (wipeG Γ vs) (wipe σ vs) := by
  refine ⟨by rw [wipeG_len, wipe_length]; exact gr.1, fun i hi => ?_⟩
  rw [wipeG_len] at hi
  rw [wipeG_get]
  by_cases hv : i ∈ vs
  · rw [if_pos hv, if_pos hi, h1 i hv]
    rfl
  · rw [if_neg hv, h2 i (by rw [← gr.1]; exact hi) hv]
    exact gr.2 i hi
/-- the cells of a block's own names stand aside while it runs -/
theorem Stt.block (st : Stt K g S σ H C) (hv : ∀ i ∈ vs, i < σ.length) : ∃ Cw B, σ.length ≤ B ∧ (∀ j, B ≤ j → Cw j = none ∧ C j = none) ∧ Stt K g S (wipe σ vs) H Cw ∧ (∀ i ∈ vs, Cw i = none) ∧ (∀ i, i < σ.length → i ∉ vs → Cw i = C i) ∧
    ∀ S' H' j c, B ≤ j → Stt K g S' (wipe σ vs) H' (setC Cw j c) → Stt K g S' σ H' (setC C j c) := by
  obtain ⟨b0, hb0⟩ := st.fin
  obtain ⟨b, hb1, hb2⟩ : ∃ b, σ.length ≤ b ∧ b0 ≤ b := ⟨max σ.length b0, by omega, by omega⟩
  have far : ∀ j, b ≤ j → C j = none := fun j hj => hb0 j (by omega)
  let p : Nat → Nat := fun i => if i ∈ vs then i + b else if b ≤ i ∧ i - b ∈ vs then i - b else i
  have pv : ∀ i, i ∈ vs → p i = i + b := fun i h => if_pos h
  have po : ∀ i, i ∉ vs → ¬ (b ≤ i ∧ i - b ∈ vs) → p i = i := fun i h1 h2 => by show (if i ∈ vs then i + b else if b ≤ i ∧ i - b ∈ vs then i - b else i) = i; rw [if_neg h1, if_neg h2]
  have pb : ∀ i, i ∉ vs → (b ≤ i ∧ i - b ∈ vs) → p i = i - b := fun i h1 h2 => by show (if i ∈ vs then i + b else if b ≤ i ∧ i - b ∈ vs then i - b else i) = i - b; rw [if_neg h1, if_pos h2]
  have pp : ∀ i, p (p i) = i := fun i => by
    by_cases h1 : i ∈ vs
    · have n1 : i + b ∉ vs := fun z => by have := hv _ z; omega
      rw [pv i h1, pb (i + b) n1 ⟨by omega, by rw [Nat.add_sub_cancel]; exact h1⟩]
      omega
    · by_cases h2 : b ≤ i ∧ i - b ∈ vs
      · rw [pb i h1 h2, pv _ h2.2]; omega
      · rw [po i h1 h2, po i h1 h2]
  have pfar : ∀ j, 2 * b ≤ j → p j = j := fun j hj => by
    have n1 : j ∉ vs := fun z => by have := hv _ z; omega
    exact po j n1 fun z => by have := hv _ z.2; omega
  have plow : ∀ i, i < σ.length → i ∉ vs → p i = i := fun i h1 h2 => po i h2 fun z => by omega
  refine ⟨fun i => C (p i), 2 * b, by omega, fun j hj => ⟨?_, far j (by omega)⟩, ?_, fun i hi => ?_, fun i h1 h2 => ?_, fun S2 H2 j c hj st2 => ?_⟩
  · show C (p j) = none
    rw [pfar j hj]
    exact far j (by omega)
  · refine st.perm p pp (b := 2 * b) pfar fun i d n v e hl => ?_
    rw [wipe_length] at hl
    by_cases hi : i ∈ vs
    · rw [pv i hi, far _ (by omega)] at e; cases e
    · rw [plow i hl hi] at e
      rw [wipe_get, if_neg hi]
      exact st.slot i d n v e hl
  · show C (p i) = none
    rw [pv i hi]
    exact far _ (by omega)
  · show C (p i) = C i
    rw [plow i h1 h2]
  · have eq : (fun i => setC (fun i => C (p i)) j c (p i)) = setC C j c := by
      funext i
      by_cases hi : i = j
      · subst hi
        rw [pfar i hj, setC_same, setC_same]
      · have hp : p i ≠ j := fun z => hi (by rw [← pp i, z, pfar j hj])
        rw [setC_ne hp, setC_ne hi, pp]
    have := st2.perm (σ' := σ) p pp (b := 2 * b) pfar fun i d n v e hl => ?_
    · rw [eq] at this
      exact this
    · have e2 := congrFun eq i
      rw [e2, setC_ne (by omega)] at e
      exact st.slot i d n v e hl
/-- the turn's end: the block's own names forgotten -/
theorem Stt.settle {σ0 : L2.St} {C1 : CM} (st : Stt K g S σ H C) (hw : wipe σ vs = wipe σ0 vs) (h1 : ∀ i, i ∉ vs → C i = C1 i) (h2 : ∀ i ∈ vs, C1 i = none) : Stt K g S (wipe σ0 vs) H C1 := by
  refine st.thin (fun i c e => ?_) fun i d n v e hl => ?_
  · have hi : i ∉ vs := fun z => by rw [h2 i z] at e; cases e
    rw [h1 i hi]
    exact e
  · have hi : i ∉ vs := fun z => by rw [h2 i z] at e; cases e
    rw [← hw] at hl ⊢
    rw [wipe_length] at hl
    rw [wipe_get, if_neg hi]
    exact st.slot i d n v (by rw [h1 i hi]; exact e) hl
/-! ### one clause -/
def M0 : Md := ⟨fun _ _ _ _ => False, none⟩
/-- the list that is being made -/
def Acc (K : PySem.W.Frag) (g : Gh) (S1 H1 : Hp) (σw : L2.St) (Cw : CM) (jD m : Nat) (D : Addr) (acc : List Ev.D) (H : Hp) : Prop := ∃ S', Sub S1 S' ∧ Sub H1 H ∧ Stt K g S' σw H (setC Cw jD (some (.lst acc, m + 1, .ref D)))
/-- in a turn, behind the store -/
structure Mid (K : PySem.W.Frag) (g : Gh) (S1 H1 : Hp) (σ0 : L2.St) (vs : List Nat) (Cw : CM) (jD m : Nat) (D : Addr) (acc : List Ev.D) (Γ : Env) (S : Hp) (σ : L2.St) (H : Hp) (C : CM) : Prop where
  s : Sub S1 S
  h : Sub H1 H
  st : Stt K g S σ H C
  gr : GR C Γ σ
  w : wipe σ vs = wipe σ0 vs
  off : ∀ i, i ∉ vs → C i = setC Cw jD (some (.lst acc, m + 1, .ref D)) i
theorem Mid.settle {S1 H1 : Hp} {σ0 : L2.St} {Cw : CM} {jD m : Nat} {D : Addr} {acc : List Ev.D} (q : Mid K g S1 H1 σ0 vs Cw jD m D acc Γ S σ H C) (hj : jD ∉ vs) (hw : ∀ i ∈ vs, Cw i = none) : Acc K g S1 H1 (wipe σ0 vs) Cw jD m D acc H :=
  ⟨S, q.s, q.h, q.st.settle q.w q.off fun i hi => by rw [setC_ne fun z => hj (by rw [← z]; exact hi)]; exact hw i hi⟩
theorem clause {G : Glb} {S1 H1 Hw : Hp} {σ0 : L2.St} {Cw : CM} {jD m : Nat} {D : Addr} {Γw : Env} {J : It} {items res : List Ev.D} {t : TG} {ifs : List TC} {body : Env → Res (List Ev.D)} {acc0 : List Ev.D} {H0 : Hp} {Fin : Hp → Prop} {Bd : L2.St → Hp → (Hp → Prop) → Prop}
    (hl : σ0.length ≤ jD) (hw : ∀ i ∈ vs, Cw i = none) (hv : ∀ i ∈ vs, i < σ0.length) (gr : GR Cw Γw (wipe σ0 vs)) (wk : Wlk K S1 Hw J items) (sw : ∀ S' H, Sub S1 S' → Sub H1 H → Sub S' H → Sub Hw H) (h0 : Acc K g S1 H1 (wipe σ0 vs) Cw jD m D acc0 H0)
    (run : (compAll (fun d Γ1 => asgT t (d, 0) Γ1) (fun Γ1 => tss G ifs Γ1) body Γw items).bind (fun r => .ok (acc0 ++ r)) = .ok res)
    (fin : ∀ H, Acc K g S1 H1 (wipe σ0 vs) Cw jD m D res H → Fin H)
    (bd : ∀ acc Γ1 ds r S σ H C (Nx : Hp → Prop), body Γ1 = .ok ds → acc ++ ds ++ r = res → Mid K g S1 H1 σ0 vs Cw jD m D acc Γ1 S σ H C → (∀ H, Acc K g S1 H1 (wipe σ0 vs) Cw jD m D (acc ++ ds) H → Nx H) → Bd σ H Nx) :
    ∃ W : Nat → Nat → Hp → Prop, (∃ k, W 0 k H0) ∧ ∀ i k H, W i k H →
      (J.stop i H ∧ Fin H) ∨ (J.go i H ∧ ∃ Nx : Hp → Prop, (∀ H', Nx H' → ∃ k', k' < k ∧ W (i + 1) k' H') ∧ ∀ x H', J.yld i H x H' → tTG K (asgT t) vs x (wipe σ0 vs) H' fun σ2 H2 => wipe σ2 vs = wipe σ0 vs ∧ tT K M0 (tss G ifs) σ2 H2 fun b H3 =>
        if b = true then Bd σ2 H3 Nx else Nx H3) := by
  have hj : jD ∉ vs := fun z => by have := hv _ z; omega
  refine ⟨fun i k H => k = items.length - i ∧ i ≤ items.length ∧ ∃ acc, Acc K g S1 H1 (wipe σ0 vs) Cw jD m D acc H ∧ (compAll (fun d Γ1 => asgT t (d, 0) Γ1) (fun Γ1 => tss G ifs Γ1) body Γw (items.drop i)).bind (fun r => .ok (acc ++ r)) = .ok res, ⟨items.length, by simp, Nat.zero_le _, acc0, h0, run⟩, ?_⟩
  rintro i k H ⟨rfl, hi, acc, hA, e⟩
  obtain ⟨S', sS, sH, st⟩ := id hA
  obtain ⟨w1, w2⟩ := wk S' H sS (sw S' H sS sH st.sub) st.sub i
  by_cases hlt : i < items.length
  · right
    obtain ⟨go, yl⟩ := w2 items[i] (List.getElem?_eq_getElem hlt)
    rw [List.drop_eq_getElem_cons hlt] at e
    unfold compAll at e
    cases ea : asgT t (items[i], 0) Γw with
    | ok Γ1 =>
      rw [ea] at e
      dsimp only at e
      cases et : tss G ifs Γ1 with
      | ok b =>
        rw [et] at e
        have mid : ∀ {x H'}, J.yld i H x H' → (∀ σ2 C2 S2, Mid K g S1 H1 σ0 vs Cw jD m D acc Γ1 S2 σ2 H' C2 → tT K M0 (tss G ifs) σ2 H' fun b H3 => if b = true then Bd σ2 H3 (fun H' => ∃ k', k' < items.length - i ∧ (k' = items.length - (i + 1) ∧ i + 1 ≤ items.length ∧ ∃ acc, Acc K g S1 H1 (wipe σ0 vs) Cw jD m D acc H' ∧ (compAll (fun d Γ1 => asgT t (d, 0) Γ1) (fun Γ1 => tss G ifs Γ1) body Γw (items.drop (i + 1))).bind (fun r => .ok (acc ++ r)) = .ok res)) else ∃ k', k' < items.length - i ∧ (k' = items.length - (i + 1) ∧ i + 1 ≤ items.length ∧ ∃ acc, Acc K g S1 H1 (wipe σ0 vs) Cw jD m D acc H3 ∧ (compAll (fun d Γ1 => asgT t (d, 0) Γ1) (fun Γ1 => tss G ifs Γ1) body Γw (items.drop (i + 1))).bind (fun r => .ok (acc ++ r)) = .ok res)) →
            tTG K (asgT t) vs x (wipe σ0 vs) H' fun σ2 H2 => wipe σ2 vs = wipe σ0 vs ∧ tT K M0 (tss G ifs) σ2 H2 fun b H3 => if b = true then Bd σ2 H3 (fun H' => ∃ k', k' < items.length - i ∧ (k' = items.length - (i + 1) ∧ i + 1 ≤ items.length ∧ ∃ acc, Acc K g S1 H1 (wipe σ0 vs) Cw jD m D acc H' ∧ (compAll (fun d Γ1 => asgT t (d, 0) Γ1) (fun Γ1 => tss G ifs Γ1) body Γw (items.drop (i + 1))).bind (fun r => .ok (acc ++ r)) = .ok res)) else ∃ k', k' < items.length - i ∧ (k' = items.length - (i + 1) ∧ i + 1 ≤ items.length ∧ ∃ acc, Acc K g S1 H1 (wipe σ0 vs) Cw jD m D acc H3 ∧ (compAll (fun d Γ1 => asgT t (d, 0) Γ1) (fun Γ1 => tss G ifs Γ1) body Γw (items.drop (i + 1))).bind (fun r => .ok (acc ++ r)) = .ok res) := fun {x H'} y kk => by
          obtain ⟨S2, nw⟩ := yl x H' y
          have st2 := st.upS nw.sH nw.sS nw.sSH nw.fr
          refine ⟨g, S2, _, Γw, (items[i], 0), Γ1, st2, gr.tmp (by rw [wipe_length]; exact hl), .of st2 nw.ow.zero.2, ea, fun σ2 C2 S3 s3 st3 gr3 w3 l3 off => ?_⟩
          rw [wipe_wipe fun _ z => z] at w3
          exact ⟨w3, kk σ2 C2 S3 ⟨(sS.tr nw.sS).tr s3, sH.tr nw.sH, st3, gr3, w3, off⟩⟩
        refine ⟨go, _, fun H' z => z, fun x H' y => mid y fun σ2 C2 S2 q => ?_⟩
        refine ⟨g, S2, C2, Γ1, ⟨q.st, q.gr, trivial⟩, ?_⟩
        rw [et]
        intro S3 H3 sH3 sS3 st3
        have q3 : Mid K g S1 H1 σ0 vs Cw jD m D acc Γ1 S3 σ2 H3 C2 := ⟨q.s.tr sS3, q.h.tr sH3, st3, q.gr, q.w, q.off⟩
        cases b with
        | true =>
          refine iteT ?_
          dsimp only at e
          cases eb : body Γ1 with
          | ok ds =>
            rw [eb] at e
            dsimp only at e
            rw [bind_assoc] at e
            cases er : compAll (fun d Γ1 => asgT t (d, 0) Γ1) (fun Γ1 => tss G ifs Γ1) body Γw (items.drop (i + 1)) with
            | ok r =>
              rw [er] at e
              simp only [Res.bind_ok, Res.ok.injEq] at e
              refine bd acc Γ1 ds r S3 σ2 H3 C2 _ eb (by rw [List.append_assoc]; exact e) q3 fun H4 a4 => ⟨items.length - (i + 1), by omega, rfl, hlt, acc ++ ds, a4, ?_⟩
              rw [Res.bind_ok, List.append_assoc, e]
            | exc c ns ds => rw [er] at e; cases e
            | fail => rw [er] at e; cases e
          | exc c ns ds => rw [eb] at e; cases e
          | fail => rw [eb] at e; cases e
        | false => exact iteF ⟨items.length - (i + 1), by omega, rfl, hlt, acc, q3.settle hj hw, e⟩
      | exc c ns ds => rw [et] at e; cases e
      | fail => rw [et] at e; cases e
    | exc c ns ds => rw [ea] at e; cases e
    | fail => rw [ea] at e; cases e
  · left
    have ei : i = items.length := by omega
    subst ei
    rw [List.drop_length] at e
    simp only [compAll, Res.bind_ok, List.append_nil, Res.ok.injEq] at e
    subst e
    exact ⟨w1 rfl, fin H hA⟩
/-- an item comes to the list -/
theorem Mid.emit {S1 H1 : Hp} {σ0 : L2.St} {Cw : CM} {jD m n : Nat} {D : Addr} {acc : List Ev.D} {d : Ev.D} {y : V} (q : Mid K g S1 H1 σ0 vs Cw jD m D acc Γ S σ H C) (hD1 : H1 D = none) (hl : σ0.length ≤ jD) (hv : ∀ i ∈ vs, i < σ0.length) (hw : ∀ i ∈ vs, Cw i = none) (hn : m = 0 ∨ n = m) (hz : acc.length < cap) (sS : Sub S S') (sH : Sub H H') (got : Got K g S' σ H' C (d, n) y) :
    ∃ xs, H' D = some (.lst xs) ∧ xs.length < sizeLine ∧ Acc K g S1 H1 (wipe σ0 vs) Cw jD m D (acc ++ [d]) (upd H' D (.lst (xs ++ [y]))) := by
  have hj : jD ∉ vs := fun z => by have := hv _ z; omega
  have hC : C jD = some (.lst acc, m + 1, .ref D) := by rw [q.off jD hj, setC_same]
  obtain ⟨j, jl, jc⟩ := q.st.free
  have nj : jD ≠ j := fun z => by rw [z, jc] at hC; cases hC
  obtain ⟨S2, s2, st2⟩ : ∃ S2, Sub S' S2 ∧ Stt K g S2 σ H' (setC C j (some (d, m, y))) := by
    by_cases h0 : m = 0
    · subst h0
      obtain ⟨S2, a, _, b⟩ := (got j jl jc).freeze setC_same
      rw [setC_setC] at b
      exact ⟨S2, a, b⟩
    · have := hn.resolve_left h0
      subst this
      exact ⟨S', .rfl, got j jl jc⟩
  obtain ⟨xs, hD, lx, st3⟩ := st2.app (i := jD) nj (by rw [setC_ne nj]; exact hC) setC_same hz
  rw [setC_setC, setC_self jc] at st3
  refine ⟨xs, hD, ?_, S2, (q.s.tr sS).tr s2, ?_, st3.settle q.w (fun i hi => ?_) fun i hi => ?_⟩
  · rw [lx, ← cap_eq]; exact hz
  · intro a o ha
    have hne : a ≠ D := ne_of_none ha hD1
    rw [upd_ne hne]
    exact (q.h.tr sH) a o ha
  · by_cases e : i = jD
    · subst e; rw [setC_same, setC_same]
    · rw [setC_ne e, setC_ne e, q.off i hi, setC_ne e]
  · rw [setC_ne fun z => hj (by rw [← z]; exact hi)]
    exact hw i hi
end
end Ev
/-! Ev, part N: comprehensions as values. -/
namespace Ev
open PySem PySem.Spec L2
theorem nx_compAll {asg : D → Env → Res Env} {test : Env → Res Bool} {body : Env → Res (List D)} {Γ : Env} : ∀ l : List D, NX (compAll asg test body Γ l)
  | [] => nx_ok
  | x :: xs => by
    unfold compAll
    split
    · split
      · split
        · exact nx_bind (nx_compAll xs) fun _ => nx_ok
        · exact nx_fail
      · exact nx_compAll xs
      · exact nx_fail
    · exact nx_fail
theorem capL_ok {m : Nat} {r : Res (List D)} {c : D × Nat} (h : capL m r = .ok c) : ∃ ds, r = .ok ds ∧ ds.length ≤ cap ∧ c = (.lst ds, m + 1) := by
  unfold capL at h
  cases r with
  | ok ds =>
    rw [Res.bind_ok] at h
    split at h
    · rename_i hl
      exact ⟨ds, rfl, hl, (Res.ok.inj h).symm⟩
    · cases h
  | exc c ns ds => cases h
  | fail => cases h
theorem one1_ok {m : Nat} {r : Res (D × Nat)} {ds : List D} (h : one1 m r = .ok ds) : ∃ d n, r = .ok (d, n) ∧ (m = 0 ∨ n = m) ∧ ds = [d] := by
  unfold one1 at h
  split at h
  · split at h
    · rename_i d n hn
      exact ⟨d, n, rfl, hn, (Res.ok.inj h).symm⟩
    · cases h
  · cases h
section
variable {X : Cx} {M : Md} {G : Glb} {K : PySem.W.Frag} {g : Gh} {S H : Hp} {σ : L2.St} {C : CM} {Γ : Env} {vs : List Nat}
theorem acc_start {Cw : CM} {B m : Nat} {D : Addr} (st : Stt K g S σ H Cw) (hB : σ.length ≤ B) (hc : Cw B = none) (hD : H D = none) : Acc K g S H σ Cw B m D [] (upd H D (.lst [])) := by
  have hS := none_of_sub st.sub hD
  refine ⟨S, .rfl, subUpd hD, st.push (subUpd hD) .rfl (st.sub.tr (subUpd hD)) (fun a h e => absurd e h) hB hc (fq := [D]) ?_ (by simp) fun a ha => ?_⟩
  · simp only [Own]
    exact ⟨D, [], [], rfl, upd_same, by decide, .nil, rfl⟩
  · have e : a = D := by simpa using ha
    subst e
    exact ⟨hD, hS⟩
theorem acc_end {Cw : CM} {B m : Nat} {D : Addr} {res : List Ev.D} {S1 H1 H : Hp} {Q : VK} (hB : σ.length ≤ B) (hC : C B = none) (back : ∀ S' H' j c, B ≤ j → Stt K g S' (wipe σ vs) H' (setC Cw j c) → Stt K g S' σ H' (setC C j c)) (q : QE K g S1 σ H1 C Q (.lst res, m + 1)) (a : Acc K g S1 H1 (wipe σ vs) Cw B m D res H) : Q (.ref D) H := by
  obtain ⟨S', sS, sH, st⟩ := a
  have st2 := back S' H B _ (Nat.le_refl _) st
  refine q (.ref D) S' H sH sS fun j hj hc => ?_
  by_cases e : j = B
  · subst e; exact st2
  · have := st2.move (i := B) (j := j) setC_same hB hj (by rw [setC_ne e]; exact hc)
    rw [setC_setC, setC_self hC] at this
    exact this
theorem len_of {acc ds r res : List D} {d : D} (e : acc ++ ds ++ r = res) (hd : ds = [d]) (hl : res.length ≤ cap) : acc.length < cap := by
  subst hd
  have := congrArg List.length e
  simp only [List.length_append, List.length_cons, List.length_nil] at this
  omega
/-- the reading of an element -/
def tEl (te : TE) (D : Addr) : L2.St → Hp → (Hp → Prop) → Prop := fun σ H Nx => te σ H fun y H4 => ∃ acc, H4 D = some (.lst acc) ∧ acc.length < sizeLine ∧ Nx (upd H4 D (.lst (acc ++ [y])))
theorem bd_el {S1 H1 : Hp} {σ0 : L2.St} {Cw : CM} {jD m : Nat} {D : Addr} {e : EC} {res : List Ev.D} (hD1 : H1 D = none) (hl : σ0.length ≤ jD) (hv : ∀ i ∈ vs, i < σ0.length) (hw : ∀ i ∈ vs, Cw i = none) (hz : res.length ≤ cap) :
    ∀ acc Γ1 ds r S σ H C (Nx : Hp → Prop), one1 m (ev G e Γ1) = .ok ds → acc ++ ds ++ r = res → Mid K g S1 H1 σ0 vs Cw jD m D acc Γ1 S σ H C → (∀ H, Acc K g S1 H1 (wipe σ0 vs) Cw jD m D (acc ++ ds) H → Nx H) → tEl (tE K M0 (ev G e)) D σ H Nx := by
  intro acc Γ1 ds r S σ H C Nx hb er q nx
  obtain ⟨d, n, ee, hn, ed⟩ := one1_ok hb
  refine ⟨g, S, C, Γ1, ⟨q.st, q.gr, trivial⟩, ?_⟩
  rw [ee]
  intro y S4 H4 sH4 sS4 got
  obtain ⟨xs, hD, lx, a⟩ := q.emit hD1 hl hv hw hn (len_of er ed hz) sS4 sH4 got
  subst ed
  exact ⟨xs, hD, lx, nx _ a⟩
theorem lc_read {s : SRC} {t : TG} {cs : List TC} {e : EC} {m : Nat} (hv : ∀ i ∈ t.slots, i < σ.length) {Q : VK} (h : tE K M (ev G (.comp m t s cs e)) σ H Q) :
    tLc (tS K M false (src G false s)) (tTG K (asgT t) t.slots) (tT K M0 (tss G cs)) (tE K M0 (ev G e)) t.slots σ H Q := by
  obtain ⟨g, S, C, Γ, st, h⟩ := h
  simp only [ev] at h
  refine use pmE st h fun items hk J S1 H1 sH sS st1 wk D hD => ?_
  obtain ⟨c, ec, q⟩ := PO.ok (by unfold capL; exact nx_bind (nx_compAll _) fun _ => nx_ite nx_ok nx_fail) (hk S1 H1 sH sS)
  obtain ⟨res, er, hz, ec⟩ := capL_ok ec
  subst ec
  obtain ⟨Cw, B, hB, far, stw, w0, wk0, back⟩ := st1.block hv
  exact clause (m := m) hB w0 hv (gr_wipe st.gr w0 wk0) wk (fun _ _ _ h _ => h) (acc_start stw (by rw [wipe_length]; exact hB) (far B (Nat.le_refl _)).1 hD) (by
    rw [er]
    rfl) (fun H a => acc_end hB (far B (Nat.le_refl _)).2 back q a) (bd_el (e := e) hD hB hv w0 hz)
theorem lc2_read {s s2 : SRC} {t t2 : TG} {cs cs2 : List TC} {e : EC} {m : Nat} (hv : ∀ i ∈ t.slots ++ t2.slots, i < σ.length) {Q : VK} (h : tE K M (ev G (.comp2 m t s cs t2 s2 cs2 e)) σ H Q) :
    tLc2 (tS K M false (src G false s)) (tTG K (asgT t) (t.slots ++ t2.slots)) (tT K M0 (tss G cs)) (tS K M0 true (src G true s2)) (tTG K (asgT t2) t2.slots) (tT K M0 (tss G cs2)) (tE K M0 (ev G e)) (t.slots ++ t2.slots) t2.slots σ H Q := by
  obtain ⟨g, S, C, Γ, st, h⟩ := h
  simp only [ev] at h
  refine use pmE st h fun items hk J S1 H1 sH sS st1 wk D hD => ?_
  obtain ⟨c, ec, q⟩ := PO.ok (by unfold capL; exact nx_bind (nx_compAll _) fun _ => nx_ite nx_ok nx_fail) (hk S1 H1 sH sS)
  obtain ⟨res, er, hz, ec⟩ := capL_ok ec
  subst ec
  obtain ⟨Cw, B, hB, far, stw, w0, wk0, back⟩ := st1.block hv
  have sub2 : ∀ i ∈ t2.slots, i ∈ t.slots ++ t2.slots := fun i hi => List.mem_append_right _ hi
  refine clause (m := m) hB w0 hv (gr_wipe st.gr w0 wk0) wk (fun _ _ _ h _ => h) (acc_start stw (by rw [wipe_length]; exact hB) (far B (Nat.le_refl _)).1 hD) (by
    rw [er]
    rfl) (fun H a => acc_end hB (far B (Nat.le_refl _)).2 back q a) ?_
  intro acc Γ1 ds r S2 σ2 H2 C2 Nx hb eR q2 nx
  cases ei : src G true s2 Γ1 with
  | ok items2 =>
    rw [ei] at hb
    simp only [nxR, Res.bind_ok] at hb
    refine ⟨g, S2, C2, Γ1, ⟨q2.st, q2.gr, trivial⟩, ?_⟩
    rw [ei]
    intro J1 S4 H4 sH4 sS4 st4 wk4
    have ls : σ2.length = σ.length := by
      have := congrArg List.length q2.w
      rwa [wipe_length, wipe_length] at this
    have hB2 : σ2.length ≤ B := by rw [ls]; exact hB
    have hv2 : ∀ i ∈ t2.slots, i < σ2.length := fun i hi => by rw [ls]; exact hv i (sub2 i hi)
    have nB : B ∉ t.slots ++ t2.slots := fun z => by have := hv _ z; omega
    have nB2 : B ∉ t2.slots := fun z => nB (sub2 _ z)
    have cB : C2 B = some (.lst acc, m + 1, .ref D) := by rw [q2.off B nB, setC_same]
    have cw : setC (fun i => if i ∈ t2.slots then none else C2 i) B (some (.lst acc, m + 1, .ref D)) = fun i => if i ∈ t2.slots then none else C2 i := setC_self (by rw [if_neg nB2]; exact cB)
    refine clause (g := g) (m := m) (vs := t2.slots) (Cw := fun i => if i ∈ t2.slots then none else C2 i) (σ0 := σ2) (S1 := S4) (H1 := H1) (Hw := S4) (acc0 := acc) (res := acc ++ ds) hB2 (fun i hi => if_pos hi) hv2 (gr_wipe q2.gr (fun i hi => if_pos hi) fun i _ hi => if_neg hi) wk4 (fun _ _ h _ h' => h.tr h')
      ⟨S4, .rfl, q2.h.tr sH4, ?_⟩ (by rw [hb]; rfl) (fun H a => nx H ?_) (bd_el (e := e) hD hB2 hv2 (fun i hi => if_pos hi) ?_)
    · rw [cw]
      refine st4.thin (fun i c e => ?_) fun i d n v e hl => ?_
      · split at e
        · cases e
        · exact e
      · split at e
        · cases e
        · rename_i hi
          rw [wipe_length] at hl
          rw [wipe_get, if_neg hi]
          exact st4.slot i d n v e hl
    · obtain ⟨S5, sS5, sH5, st5⟩ := a
      refine ⟨S5, (q2.s.tr sS4).tr sS5, sH5, st5.settle ?_ (fun i hi => ?_) fun i hi => ?_⟩
      · rw [wipe_wipe sub2]; exact q2.w
      · by_cases e : i = B
        · subst e; rw [setC_same, setC_same]
        · rw [setC_ne e, setC_ne e, if_neg fun z => hi (sub2 i z), q2.off i hi, setC_ne e]
      · rw [setC_ne fun z => nB (by rw [← z]; exact hi)]
        exact w0 i hi
    · have := congrArg List.length eR
      simp only [List.length_append] at this ⊢
      omega
  | exc c ns ds => rw [ei] at hb; cases hb
  | fail => rw [ei] at hb; cases hb
end
end Ev
/-! Ev, part O: statements. -/
namespace Ev
open PySem PySem.Spec L2
mutual
theorem nx_asgT : ∀ {t : TG} {c : D × Nat} {Γ : Env}, NX (asgT t c Γ)
  | .nm i, c, Γ => by simp only [asgT]; exact nx_ok
  | .tp ts, (.tup l, n), Γ => by simp only [asgT]; exact nx_asgL
  | .tp ts, (.lst l, n), Γ => by simp only [asgT]; exact nx_ite nx_asgL nx_fail
  | .tp ts, (.non, n), Γ => by simp only [asgT]; exact nx_fail
  | .tp ts, (.bl _, n), Γ => by simp only [asgT]; exact nx_fail
  | .tp ts, (.int _, n), Γ => by simp only [asgT]; exact nx_fail
  | .tp ts, (.str _, n), Γ => by simp only [asgT]; exact nx_fail
  | .tp ts, (.ro _, n), Γ => by simp only [asgT]; exact nx_fail
  | .tp ts, (.rot _, n), Γ => by simp only [asgT]; exact nx_fail
  | .tp ts, (.ins _ _ _, n), Γ => by simp only [asgT]; exact nx_fail
  | .tp ts, (.dic _ _ _, n), Γ => by simp only [asgT]; exact nx_fail
  | .tp ts, (.exn _ _ _, n), Γ => by simp only [asgT]; exact nx_fail
  | .tp ts, (.slf _ _ _ _, n), Γ => by simp only [asgT]; exact nx_fail
theorem nx_asgL : ∀ {ts : List TG} {l : List D} {Γ : Env}, NX (asgL ts l Γ)
  | [], [], Γ => by simp only [asgL]; exact nx_ok
  | [], _ :: _, Γ => by simp only [asgL]; exact nx_fail
  | _ :: _, [], Γ => by simp only [asgL]; exact nx_fail
  | t :: ts, d :: ds, Γ => by simp only [asgL]; exact nx_bind nx_asgT fun _ => nx_asgL
end
def PSt (K : PySem.W.Frag) (M : Md) (g : Gh) (S : Hp) (E : Ends) : Out → Prop
  | .nx Γ => ∀ σ' S' H' C', Sub S S' → Sit K M g S' σ' H' C' Γ → E.nx σ' H'
  | .brk Γ => ∀ σ' S' H' C', Sub S S' → Sit K M g S' σ' H' C' Γ → E.bk σ' H'
  | .cnt Γ => ∀ σ' S' H' C', Sub S S' → Sit K M g S' σ' H' C' Γ → E.ct σ' H'
  | .ret d n => ∀ v S' σ' H' C' j, Sub S S' → Stt K g S' σ' H' C' → C' j = some (d, n, v) → E.rt v H'
  | .exc c ns ds Γ => ∀ S' σ' H' C' dx vs, Sub S S' → Stt K g S' σ' H' C' → GR C' Γ σ' → ns.length = vs.length → RpL K S' ds vs → XD S' dx ns vs → M.W (.ref (He.ga K c)) dx σ' H'
  | .fail => False
def tSt (K : PySem.W.Frag) (M : Md) (f : Env → Out) : TS := fun E σ H => ∃ g S C Γ, Sit K M g S σ H C Γ ∧ PSt K M g S E (f Γ)
section
variable {K : PySem.W.Frag} {M : Md} {g : Gh} {S S' H H' : Hp} {σ : L2.St} {C : CM} {Γ : Env} {E : Ends}
theorem PSt.mono {o : Out} (sS : Sub S S') (h : PSt K M g S E o) : PSt K M g S' E o := by
  cases o with
  | nx Γ => exact fun σ' S2 H' C' a => h σ' S2 H' C' (sS.tr a)
  | brk Γ => exact fun σ' S2 H' C' a => h σ' S2 H' C' (sS.tr a)
  | cnt Γ => exact fun σ' S2 H' C' a => h σ' S2 H' C' (sS.tr a)
  | ret d n => exact fun v S2 σ' H' C' j a => h v S2 σ' H' C' j (sS.tr a)
  | exc c ns ds Γ => exact fun S2 σ' H' C' dx vs a => h S2 σ' H' C' dx vs (sS.tr a)
  | fail => exact h
/-- an expression in a statement -/
theorem useO {β τ' : Type} {p' : Post β τ'} {f : Env → Res β} {k : β → Out} {R : τ'} (st : Sit K M g S σ H C Γ) (h : PSt K M g S E ((f Γ).out Γ k))
    (n : ∀ b, (∀ S1, Sub S S1 → PSt K M g S1 E (k b)) → p' g S σ H C R b) : tX K M p' f σ H R := by
  refine ⟨g, S, C, Γ, st, ?_⟩
  cases e : f Γ with
  | ok b =>
    rw [e] at h
    exact n b fun S1 a => PSt.mono a h
  | exc c ns ds =>
    rw [e] at h
    exact fun S' H' dx vs sH sS st' hl r x => h S' σ H' C dx vs sS st' st.gr hl r x
  | fail => rw [e] at h; exact h.elim
theorem useOE {f : Env → Res (D × Nat)} {k : D × Nat → Out} {R : VK} (st : Sit K M g S σ H C Γ) (h : PSt K M g S E ((f Γ).out Γ k))
    (n : ∀ c v S1 H1, Sub H H1 → Sub S S1 → Sit K M g S1 σ H1 C Γ → Got K g S1 σ H1 C c v → PSt K M g S1 E (k c) → R v H1) : tE K M f σ H R :=
  useO st h fun c hk v S1 H1 sH sS got => n c v S1 H1 sH sS (st.to sS (got.stt st.toStt.free)) got (hk S1 sS)
theorem useOF {f : Env → Res (D × Nat)} {k : D × Nat → Out} {R : VK} (st : Sit K M g S σ H C Γ) (h : PSt K M g S E ((f Γ).out Γ k))
    (n : ∀ c v S1 H1, Sub H H1 → Sub S S1 → Sit K M g S1 σ H1 C Γ → Rp K S1 c.1 v → PSt K M g S1 E (k c) → R v H1) : tE K M f σ H R :=
  useO st h fun c hk v S1 H1 sH sS got => by
    obtain ⟨S2, a, b, d⟩ := got.frz st.toStt.free
    exact n c v S2 H1 sH (sS.tr a) (st.to (sS.tr a) d) b (hk S2 (sS.tr a))
theorem useOT {f : Env → Res Bool} {k : Bool → Out} {R : Bool → Hp → Prop} (st : Sit K M g S σ H C Γ) (h : PSt K M g S E ((f Γ).out Γ k))
    (n : ∀ b S1 H1, Sub H H1 → Sub S S1 → Sit K M g S1 σ H1 C Γ → PSt K M g S1 E (k b) → R b H1) : tT K M f σ H R :=
  useO st h fun c hk S1 H1 sH sS st1 => n c S1 H1 sH sS (st.to sS st1) (hk S1 sS)
theorem useOL {f : Env → Res (List (D × Nat))} {k : List (D × Nat) → Out} {R : List V → Hp → Prop} (st : Sit K M g S σ H C Γ) (h : PSt K M g S E ((f Γ).out Γ k))
    (n : ∀ ds vs S1 H1, Sub H H1 → Sub S S1 → Sit K M g S1 σ H1 C Γ → RpL K S1 (ds.map (·.1)) vs → PSt K M g S1 E (k ds) → R vs H1) : tL K M f σ H R :=
  useO st h fun c hk vs S1 H1 sH sS st1 r => n c vs S1 H1 sH sS (st.to sS st1) r (hk S1 sS)
end
section
variable {X : Cx} {M : Md} {G : Glb}
theorem s_nil : PSs X [] (tSt X.K M (ex G .skip)) := pss_imp pss_nil fun E σ H ⟨g, S, C, Γ, st, h⟩ => h σ S H C .rfl st
theorem s_pass {pos : Pos} : PS X (.Pass pos) (tSt X.K M (ex G .skip)) := ps_imp ps_pass fun E σ H ⟨g, S, C, Γ, st, h⟩ => h σ S H C .rfl st
theorem s_doc {x : Str} {j : Nat} {pos pos' : Pos} : PS X (.Expr (.Constant (.str x) j pos) pos') (tSt X.K M (ex G .skip)) := ps_imp ps_doc fun E σ H ⟨g, S, C, Γ, st, h⟩ => h σ S H C .rfl st
theorem s_brk {pos : Pos} : PS X (.Break pos) (tSt X.K M (ex G .brk)) := ps_imp ps_break fun E σ H ⟨g, S, C, Γ, st, h⟩ => h σ S H C .rfl st
theorem s_cnt {pos : Pos} : PS X (.Continue pos) (tSt X.K M (ex G .cnt)) := ps_imp ps_continue fun E σ H ⟨g, S, C, Γ, st, h⟩ => h σ S H C .rfl st
theorem s_cons {s : Stmt} {r : List Stmt} {a b : SC} (h1 : PS X s (tSt X.K M (ex G a))) (h2 : PSs X r (tSt X.K M (ex G b))) : PSs X (s :: r) (tSt X.K M (ex G (.seq a b))) := by
  refine pss_imp (pss_cons h1 h2) fun E σ H ⟨g, S, C, Γ, st, h⟩ => ?_
  refine ⟨g, S, C, Γ, st, ?_⟩
  simp only [ex] at h
  cases e : ex G a Γ with
  | nx Γ1 =>
    rw [e] at h
    exact fun σ' S' H' C' sS st' => ⟨g, S', C', Γ1, st', PSt.mono sS h⟩
  | brk Γ => rw [e] at h; exact h
  | cnt Γ => rw [e] at h; exact h
  | ret d n => rw [e] at h; exact h
  | exc c ns ds Γ => rw [e] at h; exact h
  | fail => rw [e] at h; exact h
/-- a freezing ahead of the rest -/
theorem s_frz {r : List Stmt} {i : Nat} {b : SC} (hx : M.x = none) (h2 : PSs X r (tSt X.K M (ex G b))) : PSs X r (tSt X.K M (ex G (.seq (.frz i) b))) := by
  refine pss_imp h2 fun E σ H ⟨g, S, C, Γ, st, h⟩ => ?_
  simp only [ex] at h
  split at h
  · rename_i d n e
    obtain ⟨v, hc, hi⟩ := st.gr.at_ e
    obtain ⟨S2, a, r, s2⟩ := st.toStt.freeze hc
    exact ⟨g, S2, _, _, ⟨s2, st.gr.setΓ, by rw [hx]; trivial⟩, PSt.mono a h⟩
  · exact ⟨g, S, C, Γ, st, h⟩
theorem s_ret {e : Expr} {pos : Pos} {c : EC} (he : PE X e (tE X.K M (ev G c))) : PS X (.Return (some e) pos) (tSt X.K M (ex G (.ret c))) := by
  refine ps_imp (ps_ret he) fun E σ H ⟨g, S, C, Γ, st, h⟩ => ?_
  simp only [ex] at h
  refine useOE st h fun c v S1 H1 sH sS st1 got q => ?_
  obtain ⟨j, hj, hc⟩ := st.toStt.free
  exact q v S1 σ H1 _ j .rfl (got j hj hc) setC_same
theorem s_retN {pos : Pos} : PS X (.Return none pos) (tSt X.K M (ex G (.ret (.lit .non)))) := by
  refine ps_imp ps_retN fun E σ H ⟨g, S, C, Γ, st, h⟩ => ?_
  obtain ⟨j, hj, hc⟩ := st.toStt.free
  exact h .non S σ H _ j .rfl (st.toStt.hold (by simp only [Rp]) hj hc) setC_same
theorem s_reto {i : Nat} {x : Str} {p pos : Pos} (hN : X.N[i]? = some x) (hv : Vis X.env.scope x) (hd : (x == ("__debug__" : Str)) = false) (hcd : (x == ("__classdict__" : Str)) = false) : PS X (.Return (some (.Name x p)) pos) (tSt X.K M (ex G (.reto i))) := by
  refine ps_imp (ps_ret (pe_var hN hv hd hcd)) fun E σ H ⟨g, S, C, Γ, st, h⟩ => ?_
  simp only [ex] at h
  split at h
  · rename_i d n e
    obtain ⟨v, hc, hi⟩ := st.gr.at_ e
    exact ⟨v, st.slot i d n v hc hi, h v S σ H C i .rfl st.toStt hc⟩
  · exact h.elim
theorem got_fz {K : PySem.W.Frag} {g : Gh} {S H : Hp} {σ : L2.St} {C : CM} {c : D × Nat} {v : V} (fz : Bool) (st : Stt K g S σ H C) (got : Got K g S σ H C c v) : ∃ S', Sub S S' ∧ Stt K g S' σ H C ∧ Got K g S' σ H C (if fz then (c.1, 0) else c) v := by
  cases fz with
  | true =>
    obtain ⟨S', a, b, d⟩ := got.frz st.free
    exact ⟨S', a, d, .of d b⟩
  | false => exact ⟨S, .rfl, st, got⟩
theorem s_asg {tg e : Expr} {pos : Pos} {t : TG} {fz : Bool} {c : EC} {vs : List Nat} (hx : M.x = none) (he : PE X e (tE X.K M (ev G c))) (hg : PG X tg (tTG X.K (asgT t) vs)) (hs : swapsWithSole [tg] e pos.line X.env = pure false) (hw : swappedStores [tg] e X.env = pure none)
    (h1 : (assignEach [tg] X.env).map (·.2) = [assign tg X.env]) : PS X (.Assign [tg] e pos) (tSt X.K M (ex G (.asg t fz c))) := by
  refine ps_imp (ps_asg he hg hs hw h1) fun E σ H ⟨g, S, C, Γ, st, h⟩ => ?_
  simp only [ex] at h
  refine useOE st h fun c v S1 H1 sH sS st1 got q => ?_
  obtain ⟨S2, a, st2, got2⟩ := got_fz fz st1.toStt got
  cases e : asgT t (if fz then (c.1, 0) else c) Γ with
  | ok Γ' =>
    rw [e] at q
    exact ⟨g, S2, C, Γ, _, Γ', st2, st.gr, got2, e, fun σ' C' S' s' st' gr' _ _ _ => q σ' S' H1 C' (a.tr s') ⟨st', gr', by rw [hx]; trivial⟩⟩
  | exc cc ns ds =>
    rw [e] at q
    exact absurd e (nx_asgT cc ns ds)
  | fail => rw [e] at q; exact q.elim
theorem s_ife {c : Expr} {a b : List Stmt} {pos : Pos} {t : TC} {ca cb : SC} (hc : PT X c (tT X.K M (ts G t))) (ha : PSs X a (tSt X.K M (ex G ca))) (hb : PSs X b (tSt X.K M (ex G cb))) : PS X (.If c a b pos) (tSt X.K M (ex G (.ife t ca cb))) := by
  refine ps_imp (ps_if hc ha hb) fun E σ H ⟨g, S, C, Γ, st, h⟩ => ?_
  simp only [ex] at h
  refine useOT st h fun c S1 H1 sH sS st1 q => ?_
  cases c with
  | true => exact iteT ⟨g, S1, C, Γ, st1, q⟩
  | false => exact iteF ⟨g, S1, C, Γ, st1, q⟩
theorem s_exp {e : Expr} {pos : Pos} {c : EC} (he : PE X e (tE X.K M (ev G c))) (hs : swapsWith e none pos.line X.env = pure false) : PS X (.Expr e pos) (tSt X.K M (ex G (.exp c))) := by
  refine ps_imp (ps_expr he hs) fun E σ H ⟨g, S, C, Γ, st, h⟩ => ?_
  simp only [ex] at h
  exact useOE st h fun c v S1 H1 sH sS st1 got q => q σ S1 H1 C .rfl st1
/-! ### loops -/
theorem s_for {tg iter : Expr} {body : List Stmt} {pos : Pos} {t : TG} {s : SRC} {b : SC} {vs : List Nat} (hx : M.x = none) (hp : PassesOwn (model X.prog X.w) X.A X.env X.xe) (hc : X.calm = true) (hi : PI X tg iter (tS X.K M true (src G true s))) (hg : PG X tg (tTG X.K (asgT t) vs)) (hb : PSs X body (tSt X.K M (ex G b)))
    (hs : ∀ x, foldedSetIterable iter X.env x = pure x) : PS X (.For tg iter body [] pos) (tSt X.K M (ex G (.for t s b))) := by
  refine ps_imp (ps_for hp hc hi hg hb hs) fun E σ H ⟨g, S, C, Γ, st, h⟩ => ?_
  simp only [ex] at h
  refine useO st h fun items hk J S1 H1 sH sS st1 wk => ?_
  have h1 := hk S1 sS
  refine ⟨fun i k σ H => k = items.length - i ∧ i ≤ items.length ∧ ∃ S' C' Γ', Sub S1 S' ∧ Sit X.K M g S' σ H C' Γ' ∧ PSt X.K M g S' E (forRun (fun d Γ1 => asgT t (d, 0) Γ1) (fun Γ1 => ex G b Γ1) (items.drop i) Γ'),
    ⟨items.length, by simp, Nat.zero_le _, S1, C, Γ, .rfl, st.to sS st1, by rw [List.drop_zero]; exact h1⟩, ?_⟩
  rintro i k σ2 H2 ⟨rfl, hi, S2, C2, Γ2, s2, st2, e⟩
  obtain ⟨w1, w2⟩ := wk S2 H2 s2 (s2.tr st2.sub) st2.sub i
  by_cases hlt : i < items.length
  · right
    obtain ⟨go, yl⟩ := w2 items[i] (List.getElem?_eq_getElem hlt)
    rw [List.drop_eq_getElem_cons hlt] at e
    unfold forRun at e
    cases ea : asgT t (items[i], 0) Γ2 with
    | ok Γ3 =>
      rw [ea] at e
      dsimp only at e
      refine ⟨go, fun σ' H' => ∃ S' C' Γ', Sub S1 S' ∧ Sit X.K M g S' σ' H' C' Γ' ∧ PSt X.K M g S' E (forRun (fun d Γ1 => asgT t (d, 0) Γ1) (fun Γ1 => ex G b Γ1) (items.drop (i + 1)) Γ'), fun σ' H' z => ⟨items.length - (i + 1), by omega, rfl, hlt, z⟩, fun x H' y => ?_⟩
      obtain ⟨S3, nw⟩ := yl x H' y
      have st3 := st2.toStt.upS nw.sH nw.sS nw.sSH nw.fr
      refine ⟨g, S3, C2, Γ2, (items[i], 0), Γ3, st3, st2.gr, .of st3 nw.ow.zero.2, ea, fun σ4 C4 S4 s4 st4 gr4 _ _ _ => ?_⟩
      have b1 : Sub S1 S4 := (s2.tr nw.sS).tr s4
      have e4 := PSt.mono (nw.sS.tr s4) e
      refine ⟨g, S4, C4, Γ3, ⟨st4, gr4, by rw [hx]; trivial⟩, ?_⟩
      cases eb : ex G b Γ3 with
      | nx Γ5 => rw [eb] at e4; exact fun σ' S' H' C' a st' => ⟨S', C', Γ5, b1.tr a, st', PSt.mono a e4⟩
      | cnt Γ5 => rw [eb] at e4; exact fun σ' S' H' C' a st' => ⟨S', C', Γ5, b1.tr a, st', PSt.mono a e4⟩
      | brk Γ5 => rw [eb] at e4; exact fun σ' S' H' C' a st' => e4 σ' S' H' C' a st'
      | ret d n => rw [eb] at e4; exact e4
      | exc c ns ds Γ => rw [eb] at e4; exact e4
      | fail => rw [eb] at e4; exact e4
    | exc c ns ds => rw [ea] at e; exact e.elim
    | fail => rw [ea] at e; exact e.elim
  · left
    have ei : i = items.length := by omega
    subst ei
    rw [List.drop_length] at e
    unfold forRun at e
    exact ⟨w1 rfl, e σ2 S2 H2 C2 .rfl st2⟩
theorem s_whl {c : Expr} {body : List Stmt} {pos : Pos} {m : Env → Nat} {t : TC} {b : SC} (hp : PassesOwn (model X.prog X.w) X.A X.env X.xe) (hc : PT X c (tT X.K M (ts G t))) (hb : PSs X body (tSt X.K M (ex G b))) : PS X (.While c body [] pos) (tSt X.K M (ex G (.whl m t b))) := by
  refine ps_imp (ps_while hp hc hb) fun E σ H ⟨g, S, C, Γ, st, h⟩ => ?_
  simp only [ex] at h
  refine ⟨fun k σ H => ∃ S' C' Γ', Sub S S' ∧ Sit X.K M g S' σ H C' Γ' ∧ PSt X.K M g S' E (whlRun (fun Γ1 => ts G t Γ1) (fun Γ1 => ex G b Γ1) k Γ'), ⟨m Γ, S, C, Γ, .rfl, st, h⟩, ?_⟩
  rintro k σ2 H2 ⟨S2, C2, Γ2, s2, st2, e⟩
  cases k with
  | zero => exact e.elim
  | succ k =>
    unfold whlRun at e
    refine useOT st2 e fun b1 S3 H3 sH sS st3 q => ?_
    cases b1 with
    | false => exact iteF (q σ2 S3 H3 C2 .rfl st3)
    | true =>
      simp only [if_true] at q
      refine iteT ⟨fun σ' H' => ∃ S' C' Γ', Sub S S' ∧ Sit X.K M g S' σ' H' C' Γ' ∧ PSt X.K M g S' E (whlRun (fun Γ1 => ts G t Γ1) (fun Γ1 => ex G b Γ1) k Γ'), fun σ' H' z => ⟨k, Nat.lt_succ_self k, z⟩, g, S3, C2, Γ2, st3, ?_⟩
      cases eb : ex G b Γ2 with
      | nx Γ5 => rw [eb] at q; exact fun σ' S' H' C' a st' => ⟨S', C', Γ5, (s2.tr sS).tr a, st', PSt.mono a q⟩
      | cnt Γ5 => rw [eb] at q; exact fun σ' S' H' C' a st' => ⟨S', C', Γ5, (s2.tr sS).tr a, st', PSt.mono a q⟩
      | brk Γ5 => rw [eb] at q; exact fun σ' S' H' C' a st' => q σ' S' H' C' a st'
      | ret d n => rw [eb] at q; exact q
      | exc c ns ds Γ => rw [eb] at q; exact q
      | fail => rw [eb] at q; exact q
end
end Ev
/-! Ev, part P: stores into lists and dicts, append, pop. -/
namespace Ev
open PySem PySem.Spec L2
section
variable {K : PySem.W.Frag} {S H : Hp}
theorem RpL.set {y : D} {w : V} (ry : Rp K S y w) : ∀ {ds : List D} {vs : List V} (j : Nat), RpL K S ds vs → RpL K S (ds.set j y) (vs.set j w)
  | [], _, _, h => by rw [h.nil_inv]; exact .nil
  | d :: ds, vs, 0, h => by
    obtain ⟨v, r, e, h1, h2⟩ := h.cons_inv
    subst e
    exact .cons ry h2
  | d :: ds, vs, j + 1, h => by
    obtain ⟨v, r, e, h1, h2⟩ := h.cons_inv
    subst e
    exact .cons h1 (RpL.set ry j h2)
theorem RpL.dropLast {ds : List D} {vs : List V} (h : RpL K S ds vs) : RpL K S ds.dropLast vs.dropLast := by
  rw [List.dropLast_eq_take, List.dropLast_eq_take, ← h.length]
  exact h.take _
theorem RpL.erase : ∀ {ds : List D} {vs : List V} (j : Nat), RpL K S ds vs → RpL K S (ds.eraseIdx j) (vs.eraseIdx j)
  | [], _, _, h => by rw [h.nil_inv]; simpa using RpL.nil
  | d :: ds, vs, 0, h => by
    obtain ⟨v, r, e, h1, h2⟩ := h.cons_inv
    subst e
    simpa using h2
  | d :: ds, vs, j + 1, h => by
    obtain ⟨v, r, e, h1, h2⟩ := h.cons_inv
    subst e
    simp only [List.eraseIdx_cons_succ]
    exact .cons h1 (RpL.erase j h2)
theorem own1_lst {l : List D} {v : V} {fi : List Addr} : Own K S H 1 (.lst l) v fi ↔ ∃ a vs, v = .ref a ∧ fi = [a] ∧ H a = some (.lst vs) ∧ vs.length ≤ cap ∧ RpL K S l vs := by
  constructor
  · intro h
    simp only [Own] at h
    obtain ⟨a, vs, fps, e, q, z, r, ef⟩ := h
    have r2 : RpL K S l vs := r.rpl fun d v f _ h => h.2
    have z2 : ∀ f ∈ fps, f = [] := by
      have key : ∀ {ds vs fs}, All3 (fun d v fp => fp = [] ∧ Rp K S d v) ds vs fs → ∀ f ∈ fs, f = [] := by
        intro ds vs fs a3
        induction a3 with
        | nil => intro f hf; cases hf
        | cons h r ih =>
          intro f hf
          rcases List.mem_cons.mp hf with e | e
          · rw [e]; exact h.1
          · exact ih f e
      exact key r
    have z3 : fps.flatten = [] := List.flatten_eq_nil_iff.mpr z2
    rw [z3] at ef
    exact ⟨a, vs, e, ef, q, z, r2⟩
  · rintro ⟨a, vs, e, ef, q, z, r⟩
    obtain ⟨fps, a3, fl⟩ := All3.of0 (H := H) r
    simp only [Own]
    exact ⟨a, vs, fps, e, q, z, a3.imp fun d v f _ h => by simpa only [Own] using h, by rw [fl]; exact ef⟩
theorem own1_dic {t : Bool} {ks ds : List D} {v : V} {fi : List Addr} : Own K S H 1 (.dic t ks ds) v fi ↔ ∃ a, v = .ref a ∧ fi = [a] ∧ DicH K S H t ks ds v := by
  cases t <;> simp only [Own, DicH]
  · constructor
    · rintro ⟨a, vs, kk, e, ef, r, z, z2, q1, q2⟩
      exact ⟨a, e, ef, a, vs, e, r, z, z2, kk, q1, q2⟩
    · rintro ⟨a, e, ef, b, vs, e2, r, z, z2, kk, q1, q2⟩
      rw [e] at e2
      cases e2
      exact ⟨a, vs, kk, e, ef, r, z, z2, q1, q2⟩
  · constructor
    · rintro ⟨a, vs, kk, e, ef, r, z, z2, q1, q2⟩
      exact ⟨a, e, ef, a, vs, e, r, z, z2, kk, q1, q2⟩
    · rintro ⟨a, e, ef, b, vs, e2, r, z, z2, kk, q1, q2⟩
      rw [e] at e2
      cases e2
      exact ⟨a, vs, kk, e, ef, r, z, z2, q1, q2⟩
theorem upd_off {p a : Addr} {o : HO} : a ∉ [p] → upd H p o a = H a := fun h => upd_ne fun z => h (by rw [z]; exact List.mem_cons_self)
theorem All3.impI {P P' : D → V → List Addr → Prop} : ∀ {ds vs fs}, All3 P ds vs fs → (∀ (i : Nat) d v f, fs[i]? = some f → P d v f → P' d v f) → All3 P' ds vs fs
  | _, _, _, .nil, _ => .nil
  | _, _, _, .cons h r, k => .cons (k 0 _ _ _ rfl h) (All3.impI r fun i d v f e h => k (i + 1) d v f (by simpa using e) h)
theorem All3.setAt {P P' : D → V → List Addr → Prop} {d' : D} : ∀ {ds vs fs} (j : Nat), All3 P ds vs fs → (∀ (i : Nat) d v f, i ≠ j → fs[i]? = some f → P d v f → P' d v f) → (∀ v f, vs[j]? = some v → fs[j]? = some f → P' d' v f) → All3 P' (ds.set j d') vs fs
  | _, _, _, _, .nil, _, _ => .nil
  | _, _, _, 0, .cons h r, k, n => .cons (n _ _ rfl rfl) (r.impI fun i d v f e h => k (i + 1) d v f (by omega) (by simpa using e) h)
  | _, _, _, j + 1, .cons h r, k, n => .cons (k 0 _ _ _ (by omega) rfl h) (All3.setAt j r (fun i d v f hi e h => k (i + 1) d v f (by omega) (by simpa using e) h) fun v f e1 e2 => n v f (by simpa using e1) (by simpa using e2))
theorem flat_dis : ∀ {fps : List (List Addr)} {i j : Nat} {f f' : List Addr} {x : Addr}, fps.flatten.Nodup → fps[i]? = some f → fps[j]? = some f' → x ∈ f → x ∈ f' → i = j
  | [], i, j, f, f', x, _, h, _, _, _ => by simp at h
  | q :: fps, i, j, f, f', x, nd, h1, h2, m1, m2 => by
    rw [List.flatten_cons] at nd
    obtain ⟨n1, n2, n3⟩ := List.nodup_append.mp nd
    cases i with
    | zero =>
      cases j with
      | zero => rfl
      | succ j =>
        simp only [List.getElem?_cons_zero, Option.some.injEq] at h1
        simp only [List.getElem?_cons_succ] at h2
        subst h1
        exact absurd rfl (n3 x m1 x (List.mem_flatten.mpr ⟨f', List.mem_of_getElem? h2, m2⟩))
    | succ i =>
      cases j with
      | zero =>
        simp only [List.getElem?_cons_zero, Option.some.injEq] at h2
        simp only [List.getElem?_cons_succ] at h1
        subst h2
        exact absurd rfl (n3 x m2 x (List.mem_flatten.mpr ⟨f, List.mem_of_getElem? h1, m1⟩))
      | succ j =>
        simp only [List.getElem?_cons_succ] at h1 h2
        rw [flat_dis n2 h1 h2 m1 m2]
/-- a list of lists: one of them changes -/
theorem own2_edit {l m : List D} {a : Addr} {fi : List Addr} {j : Nat} (h : Own K S H 2 (.lst l) (.ref a) fi) (nd : fi.Nodup) (e : l[j]? = some (.lst m)) : ∃ vs b ws, H a = some (.lst vs) ∧ vs.length = l.length ∧ vs[j]? = some (.ref b) ∧ b ∈ fi ∧ H b = some (.lst ws) ∧ ws.length ≤ cap ∧ RpL K S m ws ∧
    ∀ m' ws', RpL K S m' ws' → ws'.length ≤ cap → Own K S (upd H b (.lst ws')) 2 (.lst (l.set j (.lst m'))) (.ref a) fi := by
  unfold Own at h
  obtain ⟨a', vs, fps, ea, q, z, r, ef⟩ := h
  cases ea
  obtain ⟨v, f, hv, hf, o1⟩ := atI_all3 r e
  obtain ⟨b, ws, ev, ef1, hb, lb, rb⟩ := own1_lst.mp o1
  subst ev ef1
  rw [ef] at nd
  obtain ⟨na, nd⟩ := List.nodup_cons.mp nd
  have mb : b ∈ fps.flatten := List.mem_flatten.mpr ⟨[b], List.mem_of_getElem? hf, List.mem_cons_self⟩
  have nab : a ≠ b := fun z => na (by rw [z]; exact mb)
  refine ⟨vs, b, ws, q, r.len.1.symm, hv, by rw [ef]; exact List.mem_cons_of_mem _ mb, hb, lb, rb, fun m' ws' r' l' => ?_⟩
  unfold Own
  refine ⟨a, vs, fps, rfl, by rw [upd_ne nab]; exact q, z, r.setAt j (fun i d v f hi hf2 o => ?_) fun v f hv2 hf2 => ?_, ef⟩
  · refine o.mono .rfl 1 d v _ fun x hx u => ?_
    rw [upd_ne fun y => hi (flat_dis nd hf2 hf (by rw [← y]; exact hx) List.mem_cons_self)]
    exact id
  · rw [hv] at hv2
    rw [hf] at hf2
    cases hv2
    cases hf2
    exact own1_lst.mpr ⟨b, ws', rfl, rfl, upd_same, l', r'⟩
end
/-! ### x[k] = e -/
def rPut : TSet := fun o i v H Q => rSetL o i v H Q ∨ rSetD o i v H Q
section
variable {X : Cx} {M : Md} {G : Glb}
theorem set_put (hu : X.A.units + 1 < cLine) : PSet X rPut := fun pins s σ H o i v ov iv u Q I ro ri rv h => by
  rcases h with h | h
  · exact set_list pins s σ H o i v ov iv u Q I ro ri rv h
  · exact set_dict hu pins s σ H o i v ov iv u Q I ro ri rv h
theorem evs1 {c : EC} {Γ : Env} {k : List (D × Nat) → Out} : (evs G [c] Γ).out Γ k = (ev G c Γ).out Γ fun x => k [x] := by
  simp only [evs]
  cases ev G c Γ <;> rfl
theorem evs2 {c d : EC} {Γ : Env} {k : List (D × Nat) → Out} : (evs G [c, d] Γ).out Γ k = (ev G c Γ).out Γ fun x => (ev G d Γ).out Γ fun y => k [x, y] := by
  simp only [evs]
  cases ev G c Γ <;> simp only [Res.bind_ok, Res.bind_exc, Res.bind_fail, Res.out_ok, Res.out_exc, Res.out_fail]
  cases ev G d Γ <;> rfl
theorem evs0 {Γ : Env} {k : List (D × Nat) → Out} : (evs G [] Γ).out Γ k = k [] := by
  simp only [evs]
  rfl
/-- a cell's new thing -/
theorem nx_edit {K : PySem.W.Frag} {g : Gh} {S H H' : Hp} {σ : L2.St} {C : CM} {Γ : Env} {E : Ends} {i n : Nat} {d d' : D} {v : V} (hx : M.x = none) (st : Sit K M g S σ H C Γ) (q : PSt K M g S E (.nx (Γ.set i (some (d', n))))) (e : C i = some (d, n, v))
    (h : ∀ fi, Own K S H n d v fi → fi.Nodup → (∀ a ∈ fi, S a = none) → Own K S H' n d' v fi ∧ ∀ a, a ∉ fi → H' a = H a) : E.nx σ H' :=
  q σ S H' _ .rfl ⟨st.toStt.edit e h, st.gr.setΓ, by rw [hx]; trivial⟩
theorem put1_nx {K : PySem.W.Frag} {g : Gh} {S H : Hp} {σ : L2.St} {C : CM} {Γ : Env} {E : Ends} {i : Nat} {d x z d' : D} {v y w : V} (hx : M.x = none) (st : Sit K M g S σ H C Γ) (ec : C i = some (d, 1, v)) (e : put1 d x z = some d') (rx : Rp K S x y) (rz : Rp K S z w) (q : PSt K M g S E (.nx (Γ.set i (some (d', 1))))) :
    rPut v y w H fun H' => E.nx σ H' := by
  obtain ⟨fp, o⟩ := st.own
  have oi := o.at_ i _ _ _ ec
  cases d with
  | lst l =>
    cases x with
    | int k =>
      simp only [put1] at e
      obtain ⟨j, ej, ed⟩ := Option.map_eq_some_iff.mp e
      subst ed
      obtain ⟨a, vs, ev, ef, hq, lv, r⟩ := own1_lst.mp oi
      have ey := rp_int rx
      subst ey
      refine .inl ⟨a, vs, k, j, ev, rfl, hq, by rw [← r.length]; exact ej, nx_edit hx st q ec fun fi ow nd so => ?_⟩
      obtain ⟨a2, vs2, ev2, ef2, hq2, lv2, r2⟩ := own1_lst.mp ow
      rw [ev] at ev2
      cases ev2
      rw [hq] at hq2
      cases hq2
      subst ef2
      exact ⟨own1_lst.mpr ⟨a, _, ev, rfl, upd_same, by rw [List.length_set]; exact lv, r.set rz j⟩, fun b hb => upd_off hb⟩
    | _ => simp only [put1] at e; cases e
  | dic t ks ds =>
    simp only [put1] at e
    split at e
    · rename_i hk
      cases e
      obtain ⟨a, ev, ef, dh⟩ := own1_dic.mp oi
      obtain ⟨a1, H', ev1, dp, ⟨u, eu⟩, dh'⟩ := dic_put dh hk.1 (Rp.mono st.sub _ _ rx) rz hk.2
      rw [ev] at ev1
      cases ev1
      refine .inr ⟨a, H', ev, dp, nx_edit hx st q ec fun fi ow nd so => ?_⟩
      obtain ⟨a2, ev2, ef2, _⟩ := own1_dic.mp ow
      rw [ev] at ev2
      cases ev2
      subst ef2 ev
      exact ⟨own1_dic.mpr ⟨a, rfl, rfl, dh'⟩, fun b hb => by rw [eu]; exact upd_off hb⟩
    · cases e
  | _ => simp only [put1] at e; cases e
theorem putN_ok {d k d' : D} {n : Nat} {y : D × Nat} (h : putN (d, n) k y = some d') : ∃ l k0 j, d = .lst l ∧ k = .int k0 ∧ n = y.2 + 1 ∧ ixN l.length k0 = some j ∧ d' = .lst (l.set j y.1) := by
  cases d with
  | lst l =>
    cases k with
    | int k0 =>
      simp only [putN] at h
      split at h
      · rename_i hz
        obtain ⟨j, e3, e4⟩ := Option.map_eq_some_iff.mp h
        exact ⟨l, k0, j, rfl, rfl, hz.1, e3, e4.symm⟩
      · cases h
    | _ => simp only [putN] at h; cases h
  | _ => simp only [putN] at h; cases h
theorem s_sti1 {i : Nat} {x : Str} {ix e : Expr} {p1 p2 pos : Pos} {k c : EC} {m : Nat} (hx : M.x = none) (hu : X.A.units + 1 < cLine) (hN : X.N[i]? = some x) (hv : Vis X.env.scope x) (hd : (x == ("__debug__" : Str)) = false) (hcd : (x == ("__classdict__" : Str)) = false)
    (hi : PE X ix (tE X.K M (ev G k))) (he : PE X e (tE X.K M (ev G c)))
    (ha : ∀ v, assign (.Subscript (.Name x p1) ix p2) X.env v = (do
      let ov ← holding [v] (eval (.Name x p1) X.env)
      let iv ← holding [v, ov] (eval ix X.env)
      standAt p2
      holding [v, ov, iv] (setItem ov iv v)
      release [v, ov, iv] []))
    (hs : swapsWithSole [.Subscript (.Name x p1) ix p2] e pos.line X.env = pure false) (hw : swappedStores [.Subscript (.Name x p1) ix p2] e X.env = pure none)
    (h1 : (assignEach [.Subscript (.Name x p1) ix p2] X.env).map (·.2) = [assign (.Subscript (.Name x p1) ix p2) X.env]) : PS X (.Assign [.Subscript (.Name x p1) ix p2] e pos) (tSt X.K M (ex G (.sti i [k] m c))) := by
  refine ps_imp (ps_asg he (pg_sub (pe_var hN hv hd hcd) hi (set_put hu) ha) hs hw h1) fun E σ H ⟨g, S, C, Γ, st, h⟩ => ?_
  simp only [ex] at h
  split at h
  · rename_i cc e
    obtain ⟨d, n⟩ := cc
    obtain ⟨v, hc, hl⟩ := st.gr.at_ e
    by_cases hn : n = 1
    · subst hn
      have h : PSt X.K M g S E ((ev G c Γ).out Γ fun y => (ev G k Γ).out Γ fun kk => optO (put1 d kk.1 y.1) fun d => .nx (Γ.set i (some (d, 1)))) := h
      refine useOF st h fun y w S1 H1 sH sS st1 r1 q => ?_
      refine ⟨v, st.slot i d 1 v hc hl, useOF st1 q fun kk u S2 H2 sH2 sS2 st2 r2 q2 => ?_⟩
      cases ep : put1 d kk.1 y.1 with
      | none => rw [ep] at q2; exact q2.elim
      | some d' =>
        rw [ep] at q2
        exact put1_nx hx st2 hc ep r2 (Rp.mono sS2 _ _ r1) q2
    · have h : PSt X.K M g S E ((ev G c Γ).out Γ fun y => (ev G k Γ).out Γ fun kk => if n = 1 then optO (put1 d kk.1 y.1) fun d => .nx (Γ.set i (some (d, 1))) else optO (putN (d, n) kk.1 y) fun d => .nx (Γ.set i (some (d, n)))) := h
      simp only [if_neg hn] at h
      refine useOE st h fun y w S1 H1 sH sS st1 got q => ?_
      obtain ⟨j, hj, hcj⟩ := st1.toStt.free
      have st1' : Sit X.K M g S1 σ H1 (setC C j (some (y.1, y.2, w))) Γ := ⟨got j hj hcj, st1.gr.tmp hj, st1.ex⟩
      have nj : i ≠ j := by omega
      refine ⟨v, st.slot i d n v hc hl, useOF st1' q fun kk u S2 H2 sH2 sS2 st2 r2 q2 => ?_⟩
      cases ep : putN (d, n) kk.1 y with
      | none => rw [ep] at q2; exact q2.elim
      | some d' =>
        rw [ep] at q2
        obtain ⟨l, k0, j0, ed, ek, en, e1, e2⟩ := putN_ok ep
        subst ed en e2
        have eu : u = .int k0 := by rw [ek] at r2; exact rp_int r2
        subst eu
        have hci : setC C j (some (y.1, y.2, w)) i = some (.lst l, y.2 + 1, v) := by rw [setC_ne nj]; exact hc
        obtain ⟨fp, o⟩ := st2.own
        have oi := o.at_ i _ _ _ hci
        obtain ⟨a, ev⟩ : ∃ a, v = .ref a := by
          unfold Own at oi
          obtain ⟨a, _, _, e, _⟩ := oi
          exact ⟨a, e⟩
        subst ev
        obtain ⟨vs, hq, lv, st3⟩ := st2.toStt.putIn (i := i) (k := j0) nj hci setC_same
        rw [setC_setC, setC_self hcj] at st3
        exact .inl ⟨a, vs, k0, j0, rfl, rfl, hq, by rw [lv]; exact e1, q2 σ S2 _ _ .rfl ⟨st3, st.gr.setΓ, by rw [hx]; trivial⟩⟩
  · exact h.elim
theorem innerAt_ok {c : D × Nat} {k : D} {r : List D × Nat × List D} (h : innerAt c k = some r) : ∃ i, c = (.lst r.1, 2) ∧ k = .int i ∧ ixN r.1.length i = some r.2.1 ∧ r.1[r.2.1]? = some (.lst r.2.2) := by
  unfold innerAt at h
  split at h
  · split at h
    · rename_i l n i hn
      subst hn
      obtain ⟨j, e1, e2⟩ := Option.bind_eq_some_iff.mp h
      split at e2
      · rename_i m em
        cases e2
        exact ⟨i, rfl, rfl, e1, em⟩
      · cases e2
    · cases h
  · cases h
theorem s_sti2 {i : Nat} {x : Str} {ix ix2 e : Expr} {p1 p2 p3 pos : Pos} {k k2 c : EC} {m : Nat} (hx : M.x = none) (hN : X.N[i]? = some x) (hv : Vis X.env.scope x) (hd : (x == ("__debug__" : Str)) = false) (hcd : (x == ("__classdict__" : Str)) = false)
    (hi : PE X ix (tE X.K M (ev G k))) (hi2 : PE X ix2 (tE X.K M (ev G k2))) (he : PE X e (tE X.K M (ev G c))) (hpl : PlainIx ix)
    (ha : ∀ v, assign (.Subscript (.Subscript (.Name x p1) ix p2) ix2 p3) X.env v = (do
      let ov ← holding [v] (eval (.Subscript (.Name x p1) ix p2) X.env)
      let iv ← holding [v, ov] (eval ix2 X.env)
      standAt p3
      holding [v, ov, iv] (setItem ov iv v)
      release [v, ov, iv] []))
    (hs : swapsWithSole [.Subscript (.Subscript (.Name x p1) ix p2) ix2 p3] e pos.line X.env = pure false) (hw : swappedStores [.Subscript (.Subscript (.Name x p1) ix p2) ix2 p3] e X.env = pure none)
    (h1 : (assignEach [.Subscript (.Subscript (.Name x p1) ix p2) ix2 p3] X.env).map (·.2) = [assign (.Subscript (.Subscript (.Name x p1) ix p2) ix2 p3) X.env]) :
    PS X (.Assign [.Subscript (.Subscript (.Name x p1) ix p2) ix2 p3] e pos) (tSt X.K M (ex G (.sti i [k, k2] m c))) := by
  refine ps_imp (ps_asg he (pg_sub (pe_ix ix_list (pe_var hN hv hd hcd) hi hpl) hi2 set_list ha) hs hw h1) fun E σ H ⟨g, S, C, Γ, st, h⟩ => ?_
  simp only [ex] at h
  split at h
  · rename_i cc e
    obtain ⟨d, n⟩ := cc
    obtain ⟨v, hc, hl⟩ := st.gr.at_ e
    refine useOF st h fun y w S1 H1 sH sS st1 r1 q => ?_
    refine ⟨v, st.slot i d n v hc hl, useOF st1 q fun kk u S2 H2 sH2 sS2 st2 r2 q2 => ?_⟩
    cases ei : innerAt (d, n) kk.1 with
    | none => rw [ei] at q2; exact q2.elim
    | some r =>
      rw [ei] at q2
      obtain ⟨l, j, m2⟩ := r
      obtain ⟨i0, ec, ek, e1, e2⟩ := innerAt_ok ei
      cases ec
      have eu : u = .int i0 := by rw [ek] at r2; exact rp_int r2
      obtain ⟨fp, o⟩ := st2.own
      have oi := o.at_ i _ _ _ hc
      obtain ⟨a, ev⟩ : ∃ a, v = .ref a := by
        unfold Own at oi
        obtain ⟨a, _, _, e, _⟩ := oi
        exact ⟨a, e⟩
      subst ev
      obtain ⟨vs, b, ws, hq, lv, hb, mb, hw2, lw, rw2, _⟩ := own2_edit oi (o.nd i) e2
      refine ⟨a, vs, i0, .ref b, rfl, eu, .of hq, by unfold atI; rw [lv]; dsimp only at e1; rw [e1]; exact hb, ?_⟩
      have q2 : PSt X.K M g S2 E ((ev G k2 Γ).out Γ fun kk2 => optO (put1 (.lst m2) kk2.1 y.1) fun d => .nx (Γ.set i (some (.lst (l.set j d), 2)))) := q2
      refine useOF st2 q2 fun kk2 u2 S3 H3 sH3 sS3 st3 r3 q3 => ?_
      cases ep : put1 (.lst m2) kk2.1 y.1 with
      | none => rw [ep] at q3; exact q3.elim
      | some d' =>
        rw [ep] at q3
        obtain ⟨dd, nn⟩ := kk2
        cases dd with
        | int i2 =>
          simp only [put1] at ep
          obtain ⟨j2, ej, ed⟩ := Option.map_eq_some_iff.mp ep
          subst ed
          have eu2 := rp_int r3
          subst eu2
          have hw3 : H3 b = some (.lst ws) := sH3 _ _ hw2
          refine ⟨b, ws, i2, j2, rfl, rfl, hw3, by rw [← rw2.length]; exact ej, nx_edit hx st3 q3 hc fun fi ow nd so => ?_⟩
          obtain ⟨vs3, b3, ws3, hq3, lv3, hb3, mb3, hw33, lw3, rw3, upd3⟩ := own2_edit ow nd e2
          have hq3' : H3 a = some (.lst vs) := sH3 _ _ hq
          rw [hq3'] at hq3
          cases hq3
          rw [hb] at hb3
          cases hb3
          rw [hw3] at hw33
          cases hw33
          exact ⟨upd3 _ _ (rw3.set (Rp.mono sS3 _ _ (Rp.mono sS2 _ _ r1)) j2) (by rw [List.length_set]; exact lw3), fun x hx => upd_ne fun z => hx (by rw [z]; exact mb3)⟩
        | _ => simp only [put1] at ep; cases ep
  · exact h.elim
/-! ### x.append(e), x.pop() -/
theorem tyV_lst {K : PySem.W.Frag} {H : Hp} {a : Addr} {vs : List V} (h : H a = some (.lst vs)) : tyV K "list" (.ref a) H := .inl ⟨rfl, vs, .of h⟩
theorem s_app1 {i : Nat} {x : Str} {e : Expr} {p1 p2 p3 pos : Pos} {c : EC} {m : Nat} (hx : M.x = none) (hN : X.N[i]? = some x) (hv : Vis X.env.scope x) (hd : (x == ("__debug__" : Str)) = false) (hcd : (x == ("__classdict__" : Str)) = false)
    (he : PE X e (tE X.K M (ev G c))) (hb : attributeBase (.Name x p1) "append" X.env (eval (.Name x p1) X.env) = eval (.Name x p1) X.env)
    (hf : ((backTo p3 (starEach [e] X.env)).all (fun x => !x.1) && (backToKw p3 (keywordEach [] X.env)).all (fun x => x.1.isSome) && decide ([e].length + ([] : List Keyword).length + (if ([] : List Keyword).isEmpty then 0 else 1) < 30)) = true)
    (hl : (p2.endLine == p3.line) = true) (hst : starEach [e] X.env = (false, eval e X.env) :: starEach [] X.env) (hs : swapsWith (.Call (.Attribute (.Name x p1) "append" p2) [e] [] p3) none pos.line X.env = pure false) :
    PS X (.Expr (.Call (.Attribute (.Name x p1) "append" p2) [e] [] p3) pos) (tSt X.K M (ex G (.app i [] m c))) := by
  refine ps_imp (ps_expr (pe_bm PySem.F.plainAttrs_list PySem.F.slot_list_append PySem.F.type_list_append mt_append (pe_var hN hv hd hcd) (pa_cons he pa_nil hst) hb hf hl hst rfl) hs) fun E σ H ⟨g, S, C, Γ, st, h⟩ => ?_
  simp only [ex] at h
  split at h
  · rename_i l n e
    obtain ⟨v, hc, hli⟩ := st.gr.at_ e
    obtain ⟨fp, o⟩ := st.own
    have oi := o.at_ i _ _ _ hc
    obtain ⟨a, vs, hv1, hq⟩ : ∃ a vs, v = .ref a ∧ H a = some (.lst vs) := by
      unfold Own at oi
      obtain ⟨a, vs, _, e, q, _⟩ := oi
      exact ⟨a, vs, e, q⟩
    subst hv1
    refine ⟨.ref a, st.slot i _ _ _ hc hli, tyV_lst hq, useOE st h fun y w S1 H1 sH sS st1 got q => ?_⟩
    split at q
    · rename_i hz
      obtain ⟨j, hj, hcj⟩ := st1.toStt.free
      have nj : i ≠ j := by omega
      obtain ⟨S2, s2, st2⟩ : ∃ S2, Sub S1 S2 ∧ Stt X.K g S2 σ H1 (setC C j (some (y.1, n, w))) := by
        by_cases h0 : n = 0
        · subst h0
          obtain ⟨S2, a, _, b⟩ := (got j hj hcj).freeze setC_same
          rw [setC_setC] at b
          exact ⟨S2, a, b⟩
        · have hn := hz.2.resolve_left h0
          have gj := got j hj hcj
          rw [hn] at gj
          exact ⟨S1, .rfl, gj⟩
      obtain ⟨xs, hD, lx, st3⟩ := st2.app (i := i) nj (by rw [setC_ne nj]; exact hc) setC_same hz.1
      rw [setC_setC, setC_self hcj] at st3
      exact ⟨a, xs, w, rfl, rfl, hD, by rw [lx, ← cap_eq]; exact hz.1, q σ S2 _ _ s2 ⟨st3, st.gr.setΓ, by rw [hx]; trivial⟩⟩
    · exact q.elim
  · exact h.elim
end
end Ev
/-! Ev, part Pa: lists deeper within an owned thing. -/
namespace Ev
open PySem PySem.Spec L2
section
variable {K : PySem.W.Frag} {S S' H H' : Hp}
/-- along the path js of the datum the walk leads from v to w -/
def Walk (H : Hp) : List Nat → D → V → V → Prop
  | [], _, v, w => v = w
  | j :: js, .lst l, v, w => ∃ a vs x dj, v = .ref a ∧ H a = some (.lst vs) ∧ vs.length = l.length ∧ vs[j]? = some x ∧ l[j]? = some dj ∧ Walk H js dj x w
  | _ :: _, _, _, _ => False
theorem Walk.up (sH : Sub H H') : ∀ {js : List Nat} {d : D} {v w : V}, Walk H js d v w → Walk H' js d v w
  | [], _, _, _, h => h
  | j :: js, .lst l, v, w, h => by
    obtain ⟨a, vs, x, dj, e, q, hl, hx, hd, r⟩ := h
    exact ⟨a, vs, x, dj, e, sH _ _ q, hl, hx, hd, r.up sH⟩
  | _ :: _, .non, _, _, h => h.elim
  | _ :: _, .bl _, _, _, h => h.elim
  | _ :: _, .int _, _, _, h => h.elim
  | _ :: _, .str _, _, _, h => h.elim
  | _ :: _, .tup _, _, _, h => h.elim
  | _ :: _, .ro _, _, _, h => h.elim
  | _ :: _, .rot _, _, _, h => h.elim
  | _ :: _, .ins _ _ _, _, _, h => h.elim
  | _ :: _, .dic _ _ _, _, _, h => h.elim
  | _ :: _, .exn _ _ _, _, _, h => h.elim
  | _ :: _, .slf _ _ _ _, _, _, h => h.elim
theorem Walk.det : ∀ {js : List Nat} {d : D} {v w w' : V}, Walk H js d v w → Walk H js d v w' → w = w'
  | [], _, _, _, _, h, h' => h.symm.trans h'
  | j :: js, .lst l, v, w, w', h, h' => by
    obtain ⟨a, vs, x, dj, e, q, hl, hx, hd, r⟩ := h
    obtain ⟨a', vs', x', dj', e', q', hl', hx', hd', r'⟩ := h'
    subst e
    cases e'
    rw [q] at q'
    cases q'
    rw [hx] at hx'
    cases hx'
    rw [hd] at hd'
    cases hd'
    exact r.det r'
  | _ :: _, .non, _, _, _, h, _ => h.elim
  | _ :: _, .bl _, _, _, _, h, _ => h.elim
  | _ :: _, .int _, _, _, _, h, _ => h.elim
  | _ :: _, .str _, _, _, _, h, _ => h.elim
  | _ :: _, .tup _, _, _, _, h, _ => h.elim
  | _ :: _, .ro _, _, _, _, h, _ => h.elim
  | _ :: _, .rot _, _, _, _, h, _ => h.elim
  | _ :: _, .ins _ _ _, _, _, _, h, _ => h.elim
  | _ :: _, .dic _ _ _, _, _, _, h, _ => h.elim
  | _ :: _, .exn _ _ _, _, _, _, h, _ => h.elim
  | _ :: _, .slf _ _ _ _, _, _, _, h, _ => h.elim
theorem pAt_nil {d : D} {m : List D} (h : pAt [] d = some m) : d = .lst m := by
  cases d with
  | lst l => simp only [pAt, Option.some.injEq] at h; rw [h]
  | _ => simp only [pAt] at h; cases h
theorem pAt_cons {j : Nat} {js : List Nat} {d : D} {m : List D} (h : pAt (j :: js) d = some m) : ∃ l dj, d = .lst l ∧ l[j]? = some dj ∧ pAt js dj = some m := by
  cases d with
  | lst l =>
    simp only [pAt] at h
    obtain ⟨dj, e1, e2⟩ := Option.bind_eq_some_iff.mp h
    exact ⟨l, dj, rfl, e1, e2⟩
  | _ => simp only [pAt] at h; cases h
theorem nodup_in : ∀ {fps : List (List Addr)} {f : List Addr}, fps.flatten.Nodup → f ∈ fps → f.Nodup
  | [], _, _, h => nomatch h
  | q :: fps, f, nd, h => by
    rw [List.flatten_cons] at nd
    obtain ⟨n1, n2, _⟩ := List.nodup_append.mp nd
    rcases List.mem_cons.mp h with e | h
    · rw [e]; exact n1
    · exact nodup_in n2 h
/-- the list at a path of what is owned -/
theorem own_path : ∀ (js : List Nat) (q : Nat) (d : D) (v : V) (fi : List Addr) (m : List D), Own K S H (js.length + 1 + q) d v fi → fi.Nodup → pAt js d = some m →
    ∃ b ws, b ∈ fi ∧ H b = some (.lst ws) ∧ ws.length = m.length ∧ Walk H js d v (.ref b) ∧ (q = 0 → RpL K S m ws ∧ ws.length ≤ cap ∧ ∀ m' ws', RpL K S m' ws' → ws'.length ≤ cap → Own K S (upd H b (.lst ws')) (js.length + 1 + q) (pSet js d m') v fi)
  | [], q, d, v, fi, m, h, nd, e => by
    have e := pAt_nil e
    subst e
    have e1 : ([] : List Nat).length + 1 + q = q + 1 := by simp; omega
    rw [e1] at h ⊢
    have h0 := h
    simp only [Own] at h
    obtain ⟨a, vs, fps, ev, hq, z, r, ef⟩ := h
    refine ⟨a, vs, by rw [ef]; exact List.mem_cons_self, hq, r.len.1.symm, ev, fun q0 => ?_⟩
    subst q0
    obtain ⟨a2, vs2, ev2, ef2, hq2, lv2, r2⟩ := own1_lst.mp h0
    rw [ev] at ev2
    cases ev2
    rw [hq] at hq2
    cases hq2
    exact ⟨r2, z, fun m' ws' r' l' => own1_lst.mpr ⟨a, ws', ev, ef2, upd_same, l', r'⟩⟩
  | j :: js, q, d, v, fi, m, h, nd, e => by
    obtain ⟨l, dj, rfl, ej, em⟩ := pAt_cons e
    have e1 : (j :: js).length + 1 + q = js.length + 1 + q + 1 := by simp; omega
    rw [e1] at h ⊢
    simp only [Own] at h
    obtain ⟨a, vs, fps, ev, hq, z, r, ef⟩ := h
    obtain ⟨x, f, hx, hf, o1⟩ := atI_all3 r ej
    rw [ef] at nd
    obtain ⟨na, nd2⟩ := List.nodup_cons.mp nd
    have ndf : f.Nodup := nodup_in nd2 (List.mem_of_getElem? hf)
    obtain ⟨b, ws, mb, hb, lw, wk, up⟩ := own_path js q dj x f m o1 ndf em
    have mf : b ∈ fps.flatten := List.mem_flatten.mpr ⟨f, List.mem_of_getElem? hf, mb⟩
    have nab : a ≠ b := fun z => na (by rw [z]; exact mf)
    refine ⟨b, ws, by rw [ef]; exact List.mem_cons_of_mem _ mf, hb, lw, ⟨a, vs, x, dj, ev, hq, r.len.1.symm, hx, ej, wk⟩, fun q0 => ?_⟩
    obtain ⟨u1, u2, u3⟩ := up q0
    refine ⟨u1, u2, fun m' ws' r' l' => ?_⟩
    simp only [pSet, Own]
    rw [ej]
    refine ⟨a, vs, fps, ev, by rw [upd_ne nab]; exact hq, z, r.setAt j (fun i d v f' hi hf2 o => ?_) fun v f' hv2 hf2 => ?_, ef⟩
    · refine o.mono .rfl _ d v _ fun y hy u => ?_
      rw [upd_ne fun z => hi (flat_dis nd2 hf2 hf (by rw [← z]; exact hy) mb)]
      exact id
    · rw [hx] at hv2
      rw [hf] at hf2
      cases hv2
      cases hf2
      exact u3 m' ws' r' l'
/-- a thing is let go, and its objects change -/
theorem Stt.forget {g : Gh} {σ : L2.St} {C : CM} (st : Stt K g S σ H C) {i n : Nat} {d : D} {v : V} (e : C i = some (d, n, v)) (h : ∀ fi, Own K S H n d v fi → fi.Nodup → ∀ a, a ∉ fi → H' a = H a) : Stt K g S σ H' (setC C i none) := by
  obtain ⟨fp, o⟩ := st.own
  have ne := h (fp i) (o.at_ i d n v e) (o.nd i)
  have keep : ∀ a, S a ≠ none ∨ g.T a ≠ none → H' a = H a := fun a ha => ne a fun hm => by
    rcases ha with z | z
    · exact z (o.out i a hm).1
    · exact z (o.out i a hm).2
  refine ⟨fun a u q => ?_, fun a u q => ?_, st.lim, ⟨fun j => if j = i then [] else fp j, fun j d n v e => ?_, fun j e => ?_, fun j => ?_, fun j k a h1 h2 => ?_, fun j a h => ?_, fun j a h => ?_⟩, fun j d n v e h => ?_, ?_⟩
  · rw [keep a (.inl (by rw [q]; simp))]
    exact st.sub _ _ q
  · rw [keep a (.inr (by rw [q]; simp))]
    exact st.pre _ _ q
  · by_cases q : j = i
    · subst q; rw [setC_same] at e; cases e
    · rw [setC_ne q] at e; simp only [q, if_false]
      exact (o.at_ j d n v e).mono .rfl n d v _ fun a ha u w => by rw [ne a fun z => q (o.dis j i a ha z)]; exact w
  · by_cases q : j = i
    · simp only [q, if_true]
    · rw [setC_ne q] at e; simp only [q, if_false]; exact o.no j e
  · by_cases q : j = i
    · simp only [q, if_true]; exact List.nodup_nil
    · simp only [q, if_false]; exact o.nd j
  · by_cases q : j = i
    · simp only [q, if_true] at h1; cases h1
    · by_cases q2 : k = i
      · simp only [q2, if_true] at h2; cases h2
      · simp only [q, q2, if_false] at h1 h2; exact o.dis j k a h1 h2
  · by_cases q : j = i
    · simp only [q, if_true] at h; cases h
    · simp only [q, if_false] at h; exact o.out j a h
  · by_cases q : j = i
    · simp only [q, if_true] at h; cases h
    · simp only [q, if_false] at h
      rw [ne a fun z => q (o.dis j i a h z)]
      exact o.inH j a h
  · by_cases q : j = i
    · subst q; rw [setC_same] at e; cases e
    · rw [setC_ne q] at e; exact st.slot j d n v e h
  · obtain ⟨b, hb⟩ := st.fin
    refine ⟨b, fun j hj => ?_⟩
    by_cases q : j = i
    · subst q; exact setC_same
    · rw [setC_ne q]; exact hb j hj
end
section
variable {X : Cx} {M : Md} {G : Glb}
theorem at3_ok {c : D × Nat} {k : D} {r : Nat × List D} (h : at3 c k = some r) : ∃ l a, c = (.lst l, 3) ∧ k = .int a ∧ ixN l.length a = some r.1 ∧ pAt [r.1] (.lst l) = some r.2 := by
  unfold at3 at h
  split at h
  · rename_i l a
    obtain ⟨j, e1, h⟩ := Option.bind_eq_some_iff.mp h
    obtain ⟨l2, e2, h⟩ := Option.map_eq_some_iff.mp h
    subst h
    exact ⟨l, a, rfl, rfl, e1, e2⟩
  · cases h
theorem at3b_ok {d k : D} {r r2 : Nat × List D} (h : at3b d r k = some r2) : ∃ b, k = .int b ∧ ixN r.2.length b = some r2.1 ∧ pAt [r.1, r2.1] d = some r2.2 := by
  unfold at3b at h
  split at h
  · rename_i b
    obtain ⟨j, e1, h⟩ := Option.bind_eq_some_iff.mp h
    obtain ⟨m, e2, h⟩ := Option.map_eq_some_iff.mp h
    subst h
    exact ⟨b, rfl, e1, e2⟩
  · cases h
theorem put3_ok {d y k d' : D} {j j2 : Nat} {m : List D} (h : put3 d j j2 m y k = some d') : ∃ c j3, k = .int c ∧ ixN m.length c = some j3 ∧ d' = pSet [j, j2] d (m.set j3 y) := by
  unfold put3 at h
  split at h
  · rename_i c
    obtain ⟨j3, e1, h⟩ := Option.map_eq_some_iff.mp h
    exact ⟨c, j3, rfl, e1, h.symm⟩
  · cases h
theorem atI_of {α : Type} {vs : List α} {n : Nat} {i : Int} {j : Nat} {x : α} (hl : vs.length = n) (h : ixN n i = some j) (hx : vs[j]? = some x) : atI vs i = some x := by
  unfold atI
  rw [hl, h]
  exact hx
theorem s_sti3 {i : Nat} {x : Str} {ix ix2 ix3 e : Expr} {p1 p2 p3 p4 pos : Pos} {k k2 k3 c : EC} {m : Nat} (hx : M.x = none) (hN : X.N[i]? = some x) (hv : Vis X.env.scope x) (hd : (x == ("__debug__" : Str)) = false) (hcd : (x == ("__classdict__" : Str)) = false)
    (hi : PE X ix (tE X.K M (ev G k))) (hi2 : PE X ix2 (tE X.K M (ev G k2))) (hi3 : PE X ix3 (tE X.K M (ev G k3))) (he : PE X e (tE X.K M (ev G c))) (hpl : PlainIx ix) (hpl2 : PlainIx ix2)
    (ha : ∀ v, assign (.Subscript (.Subscript (.Subscript (.Name x p1) ix p2) ix2 p3) ix3 p4) X.env v = (do
      let ov ← holding [v] (eval (.Subscript (.Subscript (.Name x p1) ix p2) ix2 p3) X.env)
      let iv ← holding [v, ov] (eval ix3 X.env)
      standAt p4
      holding [v, ov, iv] (setItem ov iv v)
      release [v, ov, iv] []))
    (hs : swapsWithSole [.Subscript (.Subscript (.Subscript (.Name x p1) ix p2) ix2 p3) ix3 p4] e pos.line X.env = pure false) (hw : swappedStores [.Subscript (.Subscript (.Subscript (.Name x p1) ix p2) ix2 p3) ix3 p4] e X.env = pure none)
    (h1 : (assignEach [.Subscript (.Subscript (.Subscript (.Name x p1) ix p2) ix2 p3) ix3 p4] X.env).map (·.2) = [assign (.Subscript (.Subscript (.Subscript (.Name x p1) ix p2) ix2 p3) ix3 p4) X.env]) :
    PS X (.Assign [.Subscript (.Subscript (.Subscript (.Name x p1) ix p2) ix2 p3) ix3 p4] e pos) (tSt X.K M (ex G (.sti i [k, k2, k3] m c))) := by
  refine ps_imp (ps_asg he (pg_sub (pe_ix ix_list (pe_ix ix_list (pe_var hN hv hd hcd) hi hpl) hi2 hpl2) hi3 set_list ha) hs hw h1) fun E σ H ⟨g, S, C, Γ, st, h⟩ => ?_
  simp only [ex] at h
  split at h
  · rename_i cc e
    obtain ⟨d, n⟩ := cc
    obtain ⟨v, hc, hl⟩ := st.gr.at_ e
    refine useOF st h fun y w S1 H1 sH sS st1 r1 q => ?_
    refine ⟨v, st.slot i d n v hc hl, useOF st1 q fun kk u S2 H2 sH2 sS2 st2 r2 q2 => ?_⟩
    cases e3 : at3 (d, n) kk.1 with
    | none => rw [e3] at q2; exact q2.elim
    | some r =>
      rw [e3] at q2
      obtain ⟨l, a0, ec, ek, e4, e5⟩ := at3_ok e3
      cases ec
      have eu : u = .int a0 := by rw [ek] at r2; exact rp_int r2
      obtain ⟨fp, o⟩ := st2.own
      obtain ⟨b1, ws1, mb1, hb1, lw1, wk1, _⟩ := own_path [r.1] 1 _ _ _ _ (o.at_ i _ _ _ hc) (o.nd i) e5
      obtain ⟨a, vs, x1, dj, ev1, hq, lv, hx1, hdj, ex1⟩ := wk1
      subst ev1
      have ex1 : x1 = .ref b1 := ex1
      subst ex1
      refine ⟨a, vs, a0, .ref b1, rfl, eu, .of hq, atI_of lv e4 hx1, useOF st2 q2 fun kk2 u2 S3 H3 sH3 sS3 st3 r3 q3 => ?_⟩
      cases e6 : at3b (.lst l) r kk2.1 with
      | none => rw [e6] at q3; exact q3.elim
      | some r2' =>
        rw [e6] at q3
        obtain ⟨b0, ek2, e7, e8⟩ := at3b_ok e6
        have eu2 : u2 = .int b0 := by rw [ek2] at r3; exact rp_int r3
        obtain ⟨fp3, o3⟩ := st3.own
        obtain ⟨b2, ws2, mb2, hb2, lw2, wk2, _⟩ := own_path [r.1, r2'.1] 0 _ _ _ _ (o3.at_ i _ _ _ hc) (o3.nd i) e8
        have wk2' := wk2
        obtain ⟨a', vs', x1', dj', ev1', hq', lv', hx1', hdj', wk2⟩ := wk2
        have hl2 : l[r.1]? = some (.lst r.2) := by
          obtain ⟨l0, dj0, el, ej, em⟩ := pAt_cons e5
          cases el
          rw [ej, pAt_nil em]
        rw [hl2] at hdj'
        cases hdj'
        obtain ⟨a'', vs'', x2, dj2, ev2, hq2, lv2, hx2, hdj2, ex2⟩ := wk2
        cases ev1'
        rw [sH3 _ _ hq] at hq'
        cases hq'
        rw [hx1] at hx1'
        cases hx1'
        cases ev2
        have ex2 : x2 = .ref b2 := ex2
        subst ex2
        rw [sH3 _ _ hb1] at hq2
        cases hq2
        refine ⟨b1, ws1, b0, .ref b2, rfl, eu2, .of (sH3 _ _ hb1), atI_of lw1 e7 hx2, useOF st3 q3 fun kk3 u3 S4 H4 sH4 sS4 st4 r4 q4 => ?_⟩
        cases e9 : put3 (.lst l) r.1 r2'.1 r2'.2 y.1 kk3.1 with
        | none => rw [e9] at q4; exact q4.elim
        | some d' =>
          rw [e9] at q4
          obtain ⟨c0, j3, ek3, e10, ed'⟩ := put3_ok e9
          have eu3 : u3 = .int c0 := by rw [ek3] at r4; exact rp_int r4
          have q4 : PSt X.K M g S4 E (.nx (Γ.set i (some (d', 3)))) := q4
          refine ⟨b2, ws2, c0, j3, rfl, eu3, sH4 _ _ hb2, by rw [lw2]; exact e10, nx_edit hx st4 q4 hc fun fi ow nd so => ?_⟩
          obtain ⟨b3, ws3, mb3, hb3, lw3, wk3, up⟩ := own_path [r.1, r2'.1] 0 _ _ _ _ ow nd e8
          have eb := Walk.det wk3 (wk2'.up sH4)
          cases eb
          rw [sH4 _ _ hb2] at hb3
          cases hb3
          obtain ⟨u1, u2, u3⟩ := up rfl
          rw [ed']
          exact ⟨u3 _ _ (u1.set (Rp.mono sS4 _ _ (Rp.mono sS3 _ _ (Rp.mono sS2 _ _ r1))) j3) (by rw [List.length_set]; exact u2), fun z hz => upd_ne fun zz => hz (by rw [zz]; exact mb3)⟩
  · exact h.elim
theorem inLen_ok {n z : Nat} {l : List D} {k : D} (h : inLen n l k = some z) : ∃ n' i j m, n = n' + 1 ∧ k = .int i ∧ ixN l.length i = some j ∧ pAt [j] (.lst l) = some m ∧ m.length = z := by
  cases n with
  | zero => cases k <;> cases h
  | succ n' =>
    cases k with
    | int i =>
      simp only [inLen] at h
      obtain ⟨j, e1, h⟩ := Option.bind_eq_some_iff.mp h
      obtain ⟨m, e2, h⟩ := Option.map_eq_some_iff.mp h
      exact ⟨n', i, j, m, rfl, rfl, e1, e2, h⟩
    | _ => cases h
/-- x[k].append(e); x is not read any more -/
theorem s_appF {i : Nat} {x : Str} {ix e : Expr} {p1 p2 p3 p4 pos : Pos} {k c : EC} {m : Nat} (hx : M.x = none) (hN : X.N[i]? = some x) (hv : Vis X.env.scope x) (hd : (x == ("__debug__" : Str)) = false) (hcd : (x == ("__classdict__" : Str)) = false)
    (hi : PE X ix (tE X.K M (ev G k))) (he : PE X e (tE X.K M (ev G c))) (hpl : PlainIx ix) (hb : attributeBase (.Subscript (.Name x p1) ix p4) "append" X.env (eval (.Subscript (.Name x p1) ix p4) X.env) = eval (.Subscript (.Name x p1) ix p4) X.env)
    (hf : ((backTo p3 (starEach [e] X.env)).all (fun x => !x.1) && (backToKw p3 (keywordEach [] X.env)).all (fun x => x.1.isSome) && decide ([e].length + ([] : List Keyword).length + (if ([] : List Keyword).isEmpty then 0 else 1) < 30)) = true)
    (hl : (p2.endLine == p3.line) = true) (hst : starEach [e] X.env = (false, eval e X.env) :: starEach [] X.env) (hs : swapsWith (.Call (.Attribute (.Subscript (.Name x p1) ix p4) "append" p2) [e] [] p3) none pos.line X.env = pure false) :
    PS X (.Expr (.Call (.Attribute (.Subscript (.Name x p1) ix p4) "append" p2) [e] [] p3) pos) (tSt X.K M (ex G (.app i [k] m c))) := by
  refine ps_imp (ps_expr (pe_bm PySem.F.plainAttrs_list PySem.F.slot_list_append PySem.F.type_list_append mt_append (pe_ix ix_list (pe_var hN hv hd hcd) hi hpl) (pa_cons he pa_nil hst) hb hf hl hst rfl) hs) fun E σ H ⟨g, S, C, Γ, st, h⟩ => ?_
  simp only [ex] at h
  split at h
  · rename_i l n e
    obtain ⟨v, hc, hli⟩ := st.gr.at_ e
    refine ⟨v, st.slot i _ _ _ hc hli, useOF st h fun kk u S1 H1 sH sS st1 r1 q => ?_⟩
    have q : PSt X.K M g S1 E (optO (inLen n l kk.1) fun z => (ev G c Γ).out Γ fun _ => if z < cap then .nx (Γ.set i none) else .fail) := q
    cases ez : inLen n l kk.1 with
    | none => rw [ez] at q; exact q.elim
    | some z =>
      have q1 : PSt X.K M g S1 E ((ev G c Γ).out Γ fun _ => if z < cap then .nx (Γ.set i none) else .fail) := by rw [ez] at q; exact q
      obtain ⟨n', i0, j, md, en, ek, e1, e2, e3⟩ := inLen_ok ez
      subst en
      have eu : u = .int i0 := by rw [ek] at r1; exact rp_int r1
      obtain ⟨fp, o⟩ := st1.own
      have oi : Own X.K S1 H1 ([j].length + 1 + n') (.lst l) v (fp i) := by
        have := o.at_ i _ _ _ hc
        rw [show [j].length + 1 + n' = n' + 1 + 1 by simp; omega]
        exact this
      obtain ⟨b, ws, mb, hb1, lw, wk, _⟩ := own_path [j] n' _ _ _ _ oi (o.nd i) e2
      have wk' := wk
      obtain ⟨a, vs, x1, dj, ev1, hq, lv, hx1, hdj, ex1⟩ := wk
      subst ev1
      have ex1 : x1 = .ref b := ex1
      subst ex1
      refine ⟨a, vs, i0, .ref b, rfl, eu, .of hq, atI_of lv e1 hx1, tyV_lst hb1, useOE st1 q1 fun y w S2 H2 sH2 sS2 st2 got q2 => ?_⟩
      split at q2
      · rename_i hz
        refine ⟨b, ws, w, rfl, rfl, sH2 _ _ hb1, by rw [lw, e3, ← cap_eq]; exact hz, q2 σ S2 _ (setC C i none) .rfl ⟨?_, st2.gr.none, by rw [hx]; trivial⟩⟩
        refine st2.toStt.forget hc fun fi ow nd z hz => ?_
        have ow : Own X.K S2 H2 ([j].length + 1 + n') (.lst l) (.ref a) fi := by
          rw [show [j].length + 1 + n' = n' + 1 + 1 by simp; omega]
          exact ow
        obtain ⟨b', ws', mb', hb', lw', wk2, _⟩ := own_path [j] n' _ _ _ _ ow nd e2
        have eb := Walk.det wk2 (wk'.up sH2)
        cases eb
        exact upd_ne fun zz => hz (by rw [zz]; exact mb')
      · exact q2.elim
  · exact h.elim
end
end Ev
/-! Ev, part Q: fields, isinstance, own calls, raise, try. -/
namespace Ev
open PySem PySem.Spec L2
theorem ofString_inj {a b : String} (h : Str.ofString a = Str.ofString b) : a = b := by
  rw [Str.ofString_eq_toList, Str.ofString_eq_toList] at h
  have h2 : a.toList.map Char.toNat = b.toList.map Char.toNat := by
    have := congrArg (fun s => s.cps.toList) h
    simpa using this
  have inj : ∀ x y : Char, x.toNat = y.toNat → x = y := fun x y e => Char.ext (UInt32.toNat_inj.mp e)
  have key : ∀ l m : List Char, l.map Char.toNat = m.map Char.toNat → l = m := by
    intro l
    induction l with
    | nil => intro m e; cases m with
      | nil => rfl
      | cons c m => simp at e
    | cons c l ih => intro m e; cases m with
      | nil => simp at e
      | cons d m =>
        simp only [List.map_cons, List.cons.injEq] at e
        rw [inj c d e.1, ih m e.2]
  exact String.toList_inj.mp (key _ _ h2)
theorem fld_get {K : PySem.W.Frag} {S : Hp} {f : String} {d : D} : ∀ {ns : List String} {ds : List D} {vs : List V}, RpL K S ds vs → ns.length = vs.length → fldD f ns ds = some d → ∃ v, (zipF ns vs).lookup (Str.ofString f) = some v ∧ Rp K S d v
  | [], _, _, _, _, h => by simp [fldD] at h
  | n :: ns, [], _, _, _, h => by simp [fldD] at h
  | n :: ns, e :: ds, vs, r, hl, h => by
    obtain ⟨v, vs', ev, r1, r2⟩ := r.cons_inv
    subst ev
    simp only [fldD] at h
    show ∃ w, (((Str.ofString n, v)) :: zipF ns vs').lookup (Str.ofString f) = some w ∧ _
    by_cases c : n = f
    · subst c
      rw [if_pos rfl] at h
      cases h
      exact ⟨v, by simp [List.lookup], r1⟩
    · rw [if_neg c] at h
      obtain ⟨w, e1, e2⟩ := fld_get r2 (by simpa using hl) h
      have ne : (Str.ofString f == Str.ofString n) = false := beq_eq_false_iff_ne.mpr fun z => c (ofString_inj z).symm
      exact ⟨w, by simp only [List.lookup, ne]; exact e1, e2⟩
/-! ### facts about classes -/
structure AttOk (K : PySem.W.Frag) (c f : String) : Prop where
  cl : Cls K (He.ga K c)
  no : NoAttr K (He.ga K c) f
structure XatOk (K : PySem.W.Frag) (c f : String) : Prop where
  cl : XfC K (He.ga K c)
  no : PySem.W.findIn K (.ref (He.ga K c)) f = some none
def T6 : List String := ["bool", "int", "str", "tuple", "list", "dict"]
def B7 : List String := ["NoneType", "bool", "int", "str", "tuple", "list", "dict"]
def isB (b t : String) : Bool := b == t || (b == "bool" && t == "int")
structure InsC (K : PySem.W.Frag) (c : String) : Prop where
  cl : Cls K (He.ga K c)
  ha : PySem.W.findIn K (.ref (He.ga K c)) "__class__" = some (some (.builtin "object.__class__"))
  hm : PySem.W.mroIn K (He.ga K c) (.type "object") = some true
structure XcC (K : PySem.W.Frag) (c : String) : Prop where
  cl : (PySem.W.clsIn K (He.ga K c)).isSome = true
  ga : PySem.W.findIn K (.ref (He.ga K c)) "__getattribute__" = some (some (.builtin "BaseException.__getattribute__"))
  gt : PySem.W.findIn K (.ref (He.ga K c)) "__getattr__" = some none
  sub : PySem.W.subIn K (.ref (He.ga K c)) (.type "BaseException") = some true
  ca : PySem.W.findIn K (.ref (He.ga K c)) "__class__" = some (some (.builtin "object.__class__"))
  mr : PySem.W.mroIn K (He.ga K c) (.type "object") = some true
structure IsiOk (K : PySem.W.Frag) (G : Glb) : Prop where
  own : ∀ c ∈ G.cls, InsC K c
  exc : ∀ c ∈ G.xcs, XcC K c
  oo : ∀ c ∈ G.cls ++ G.xcs, ∀ t ∈ G.cls ++ G.xcs, PySem.W.kitOne K (.ref (He.ga K c)) (.ref (He.ga K t)) = some (G.sb c t)
  ob : ∀ c ∈ G.cls ++ G.xcs, ∀ t ∈ T6, PySem.W.kitOne K (.ref (He.ga K c)) (.type t) = some (G.sb c t)
  bo : ∀ b ∈ B7, ∀ t ∈ G.cls ++ G.xcs, PySem.W.kitOne K (.type b) (.ref (He.ga K t)) = some false
  nt : ∀ t ∈ G.cls ++ G.xcs, t ∉ T6
  hn : PySem.W.specialIn K (.builtin "object.__class__") "__get__" = some (some (.builtin "getset_descriptor.__get__"))
  ht : PySem.W.takesIn K (.builtin "object.__class__") = some true
theorem kit_bb {K : PySem.W.Frag} : ∀ b ∈ B7, ∀ t ∈ T6, PySem.W.kitOne K (.type b) (.type t) = some (isB b t) := by
  have key : ∀ b t : String, PySem.W.kitOne K (.type b) (.type t) = PySem.W.kitOne [] (.type b) (.type t) := fun b t => rfl
  intro b hb t ht
  rw [key]
  revert b t
  decide +kernel
/-- the class of a datum -/
def tyv (K : PySem.W.Frag) : D → Value
  | .non => .type "NoneType"
  | .bl _ => .type "bool"
  | .int _ => .type "int"
  | .str _ => .type "str"
  | .tup _ => .type "tuple"
  | .rot _ => .type "tuple"
  | .lst _ => .type "list"
  | .ro _ => .type "list"
  | .dic _ _ _ => .type "dict"
  | .ins c _ _ => .ref (He.ga K c)
  | .exn c _ _ => .ref (He.ga K c)
  | .slf c _ _ _ => .ref (He.ga K c)
def clsv (K : PySem.W.Frag) (t : String) : V × Value := if t ∈ T6 then (.ty t, .type t) else (.ref (He.ga K t), .ref (He.ga K t))
theorem clsv_ok {K : PySem.W.Frag} (t : String) : ClsV (clsv K t).1 (clsv K t).2 := by
  unfold clsv
  split
  · exact .ty t
  · exact .own _
theorem tyx_of {K : PySem.W.Frag} {G : Glb} {S H : Hp} {n : Nat} {d : D} {v : V} (I : IsiOk K G) (h : View K S H n d v) (s : Sub S H) (k : knows G.cls d = true) : TyX K H v (tyv K d) := by
  cases d with
  | non => rw [h.non s]; exact .base .non
  | bl b => rw [h.bl s]; exact .base (.bl b)
  | int i => rw [h.int s]; exact .base (.int i)
  | str x =>
    have e : v = .str x := by simpa only [Rp] using h.rp s
    rw [e]; exact .base (.str x)
  | tup l =>
    obtain ⟨a, vs, e, q, _⟩ := h.tup s
    rw [e]; exact .base (.tup q)
  | lst l =>
    obtain ⟨a, vs, e, q, _⟩ := h.len s
    rw [e]; exact .base (.lst q)
  | ro l =>
    obtain ⟨a, vs, e, q, _⟩ := h.ro s
    rw [e]
    rcases q with (q | ⟨o, q⟩) | ⟨o, _, _, q, c, _⟩
    · exact .base (.lst q)
    · exact .base (.frz q)
    · exact .kList q c
  | rot l =>
    obtain ⟨a, vs, e, q, _⟩ := h.rot s
    rw [e]
    rcases q with (q | ⟨o, q⟩) | ⟨o, _, _, q, c, _⟩
    · exact .base (.tup q)
    · exact .fTuple q
    · exact .kTuple q c
  | dic t ks ds =>
    obtain ⟨a, vs, e, _, _, _, q⟩ := h.dic s
    rw [e]
    cases t with
    | false => obtain ⟨kk, _, q⟩ := q; exact .base (.dK q)
    | true => obtain ⟨kk, _, q⟩ := q; exact .base (.dT q)
  | ins c ns ds =>
    have kc : c ∈ G.cls := by simpa [knows] using k
    have e := h.rp s
    simp only [Rp] at e
    obtain ⟨a, dx, vs, ev, q, _⟩ := e
    rw [ev]
    have ic := I.own c kc
    exact .base (.ins q ic.cl ic.ha I.hn I.ht ic.hm)
  | exn c ns ds => simp [knows] at k
  | slf c a ns ds => simp [knows] at k
theorem kit_ok {K : PySem.W.Frag} {G : Glb} {d : D} {t : String} (I : IsiOk K G) (k : knows G.cls d = true) (ht : t ∈ T6 ∨ t ∈ G.cls ++ G.xcs) : PySem.W.kitOne K (tyv K d) (clsv K t).2 = some (isT G.sb d t) := by
  have base : ∀ b ∈ B7, (∀ t, isT G.sb d t = isB b t ∨ (t ∉ T6 ∧ isT G.sb d t = false) ∨ t ∉ T6 ∧ isT G.sb d t = isB b t) → (∀ t ∈ T6, isT G.sb d t = isB b t) → (∀ t, t ∉ T6 → isT G.sb d t = false) → PySem.W.kitOne K (.type b) (clsv K t).2 = some (isT G.sb d t) := by
    intro b hb _ h6 hn
    by_cases c : t ∈ T6
    · unfold clsv
      rw [if_pos c, h6 t c]
      exact kit_bb b hb t c
    · have ho := ht.resolve_left c
      unfold clsv
      rw [if_neg c, hn t c]
      exact I.bo b hb t ho
  have nb : ∀ {t : String} {u : String}, t ∉ T6 → u ∈ T6 → (t == u) = false := fun {t u} h1 h2 => beq_eq_false_iff_ne.mpr fun z => h1 (by rw [z]; exact h2)
  have six : ∀ (b : String), b ∈ B7 → (∀ t ∈ T6, isT G.sb d t = isB b t) → (∀ t, t ∉ T6 → isT G.sb d t = false) → PySem.W.kitOne K (.type b) (clsv K t).2 = some (isT G.sb d t) := by
    intro b hb h6 hn
    refine base b hb (fun t => ?_) h6 hn
    by_cases c : t ∈ T6
    · exact .inl (h6 t c)
    · exact .inr (.inl ⟨c, hn t c⟩)
  cases d with
  | non => exact six "NoneType" (by decide) (by simp only [isT]; decide) (fun t _ => rfl)
  | bl b => exact six "bool" (by decide) (by simp only [isT]; decide) (fun t h => by simp only [isT]; rw [nb h (by decide), nb h (by decide)]; rfl)
  | int b => exact six "int" (by decide) (by simp only [isT]; decide) (fun t h => by simp only [isT]; exact nb h (by decide))
  | str b => exact six "str" (by decide) (by simp only [isT]; decide) (fun t h => by simp only [isT]; exact nb h (by decide))
  | tup b => exact six "tuple" (by decide) (by simp only [isT]; decide) (fun t h => by simp only [isT]; exact nb h (by decide))
  | rot b => exact six "tuple" (by decide) (by simp only [isT]; decide) (fun t h => by simp only [isT]; exact nb h (by decide))
  | lst b => exact six "list" (by decide) (by simp only [isT]; decide) (fun t h => by simp only [isT]; exact nb h (by decide))
  | ro b => exact six "list" (by decide) (by simp only [isT]; decide) (fun t h => by simp only [isT]; exact nb h (by decide))
  | dic a b c => exact six "dict" (by decide) (by simp only [isT]; decide) (fun t h => by simp only [isT]; exact nb h (by decide))
  | ins c ns ds =>
    have kc : c ∈ G.cls ++ G.xcs := List.mem_append_left _ (by simpa [knows] using k)
    unfold clsv
    by_cases c6 : t ∈ T6
    · rw [if_pos c6]; exact I.ob c kc t c6
    · rw [if_neg c6]; exact I.oo c kc t (ht.resolve_left c6)
  | exn c ns ds => simp [knows] at k
  | slf c a ns ds => simp [knows] at k
theorem kit_x {K : PySem.W.Frag} {G : Glb} {c t : String} {ns : List String} {ds : List D} (I : IsiOk K G) (kc : c ∈ G.xcs) (ht : t ∈ T6 ∨ t ∈ G.cls ++ G.xcs) : PySem.W.kitOne K (.ref (He.ga K c)) (clsv K t).2 = some (isT G.sb (.exn c ns ds) t) := by
  unfold clsv
  by_cases c6 : t ∈ T6
  · rw [if_pos c6]; exact I.ob c (List.mem_append_right _ kc) t c6
  · rw [if_neg c6]; exact I.oo c (List.mem_append_right _ kc) t (ht.resolve_left c6)
theorem kit_any {K : PySem.W.Frag} {u : Value} {f : String → Bool} : ∀ {ts : List String}, (∀ t ∈ ts, PySem.W.kitOne K u (clsv K t).2 = some (f t)) → PySem.W.kitAny K u (ts.map fun t => (clsv K t).2) = some (ts.any f)
  | [], _ => rfl
  | t :: ts, h => by
    simp only [List.map_cons, PySem.W.kitAny, h t List.mem_cons_self, List.any_cons]
    cases f t with
    | true => rfl
    | false => simpa using kit_any fun t ht => h t (List.mem_cons_of_mem _ ht)
section
variable {X : Cx} {M : Md} {G : Glb}
theorem pe_any {e : Expr} {t t' : TE} (h : ∀ σ H Q, t' σ H Q → t σ H Q) (p : PE X e t) : PE X e t' := pe_imp p h
/-! ### e.f -/
theorem sv_att {e : Expr} {f : String} {pos : Pos} {b : BC} (hf : ∀ c, G.okA c f = true → AttOk X.K c f) (h : PE X e (tV X.K M (vw G b))) (hb : attributeBase e f X.env (eval e X.env) = eval e X.env) : PE X (.Attribute e f pos) (tE X.K M (ev G (.att b f))) := by
  refine pe_imp (pe_fld h hb) fun σ H Q ⟨g, S, C, Γ, st, h⟩ => ?_
  simp only [ev] at h
  refine useV pmE st h fun c v S1 H1 sH sS st1 v1 h1 => ?_
  obtain ⟨d, n⟩ := c
  cases d with
  | ins c ns ds =>
    dsimp only at h1
    split at h1
    · rename_i ok
      cases ef : fldD f ns ds with
      | some d =>
        rw [ef] at h1
        have a := hf c ok
        have r : ∃ a dx vs, v = .ref a ∧ H1 a = some (.ins (He.ga X.K c) dx (zipF ns vs)) ∧ ns.length = vs.length ∧ RpL X.K S1 ds vs := by
          obtain ⟨fp, o⟩ := v1
          cases n with
          | zero =>
            have r := o.zero.2
            simp only [Rp] at r
            obtain ⟨a, dx, vs, e, q, l, _, r⟩ := r
            exact ⟨a, dx, vs, e, st1.sub _ _ q, l, r⟩
          | succ n =>
            simp only [Own] at o
            obtain ⟨a, dx, vs, e, _, q, l, _, r⟩ := o
            exact ⟨a, dx, vs, e, q, l, r⟩
        obtain ⟨a1, dx, vs, ev1, q1, l1, r1⟩ := r
        obtain ⟨w, e1, e2⟩ := fld_get r1 l1 ef
        exact ⟨a1, _, dx, _, w, ev1, q1, a.cl, a.no, e1, h1 w S1 H1 .rfl .rfl (.of st1.toStt e2)⟩
      | none => rw [ef] at h1; exact h1.elim
    · exact h1.elim
  | slf c b ns ds =>
    dsimp only at h1
    split at h1
    · rename_i ok
      cases ef : fldD f ns ds with
      | some d =>
        rw [ef] at h1
        have a := hf c ok
        have r : ∃ a dx vs, v = .ref a ∧ H1 a = some (.ins (He.ga X.K c) dx (zipF ns vs)) ∧ ns.length = vs.length ∧ RpL X.K S1 ds vs := by
          obtain ⟨fp, o⟩ := v1
          cases n with
          | zero =>
            have r := o.zero.2
            simp only [Rp] at r
            obtain ⟨e, dx, vs, q, l, _, r⟩ := r
            exact ⟨b, dx, vs, e, st1.sub _ _ q, l, r⟩
          | succ n =>
            simp only [Own] at o
            obtain ⟨e, _, dx, vs, q, l, _, r⟩ := o
            exact ⟨b, dx, vs, e, q, l, r⟩
        obtain ⟨a1, dx, vs, ev1, q1, l1, r1⟩ := r
        obtain ⟨w, e1, e2⟩ := fld_get r1 l1 ef
        exact ⟨a1, _, dx, _, w, ev1, q1, a.cl, a.no, e1, h1 w S1 H1 .rfl .rfl (.of st1.toStt e2)⟩
      | none => rw [ef] at h1; exact h1.elim
    · exact h1.elim
  | _ => exact h1.elim
/-! ### isinstance -/
def tKs (vs : List V) : TA := fun _ H Q => Q vs H
theorem pk_nil' : PA X [] (tKs []) := pa_imp pa_nil fun σ H Q h => h
theorem pk_cons' {e : Expr} {es : List Expr} {v : V} {vs : List V} (h : PE X e (tC v)) (h2 : PA X es (tKs vs)) (hs : starEach (e :: es) X.env = (false, eval e X.env) :: starEach es X.env) : PA X (e :: es) (tKs (v :: vs)) := pa_imp (pa_cons h h2 hs) fun σ H Q h => h
theorem paired_cls {K : PySem.W.Frag} : ∀ ts : List String, Paired ClsV (ts.map fun t => (clsv K t).1) (ts.map fun t => (clsv K t).2)
  | [] => .nil
  | t :: ts => .cons (clsv_ok t) (paired_cls ts)
theorem isi_bind {b : BC} {t : List String} {Γ : Env} : ev G (.tst (.isi b t)) Γ = (vw G b Γ).bind fun c => if knows G.cls c.1 then .ok (.bl (t.any fun t => isT G.sb c.1 t), 0) else .fail := by
  simp only [ev, ts]
  cases vw G b Γ with
  | ok c => simp only [Res.bind_ok]; split <;> rfl
  | exc c ns ds => rfl
  | fail => rfl
theorem se_isi1 {e c : Expr} {p pos : Pos} {b : BC} {t : String} (I : IsiOk X.K G) (ht : t ∈ T6 ∨ t ∈ G.cls ++ G.xcs) (hg : Gl X "isinstance") (hm : X.mg "isinstance" = none) (h : PE X e (tV X.K M (vw G b))) (hc : PE X c (tC (clsv X.K t).1))
    (hs1 : starEach [e, c] X.env = (false, eval e X.env) :: starEach [c] X.env) (hs2 : starEach [c] X.env = (false, eval c X.env) :: starEach [] X.env) (hp : (backTo pos (starEach [c] X.env)).any (·.1) = false) :
    PE X (.Call (.Name "isinstance" p) [e, c] [] pos) (tE X.K M (ev G (.tst (.isi b [t])))) := by
  refine pe_imp (pe_callB call_isi hg hm PyProof.Rows.boot_isinstance (pa_cons h (pk_cons' hc pk_nil' hs2) hs1) (by decide) (by decide) hs1 hp) fun σ H Q ⟨g, S, C, Γ, st, h⟩ => ?_
  rw [isi_bind] at h
  refine useV pmE st h fun c v S1 H1 sH sS st1 v1 h1 => ?_
  split at h1
  · rename_i k
    refine ⟨v, _, _, _, _, rfl, clsv_ok t, tyx_of I v1 st1.sub k, kit_ok I k ht, ?_⟩
    have q := h1 (.bl (isT G.sb c.1 t)) S1 H1 .rfl .rfl
    simp only [List.any_cons, List.any_nil, Bool.or_false] at q
    exact q (.of st1.toStt rbl)
  · exact h1.elim
theorem se_isiN {e : Expr} {cs : List Expr} {kk : Nat} {p tp pos : Pos} {b : BC} {t : List String} (I : IsiOk X.K G) (ht : ∀ u ∈ t, u ∈ T6 ∨ u ∈ G.cls ++ G.xcs) (hl : t.length ≤ 1000) (hg : Gl X "isinstance") (hm : X.mg "isinstance" = none) (h : PE X e (tV X.K M (vw G b))) (hc : PA X cs (tKs (t.map fun u => (clsv X.K u).1)))
    (hs1 : starEach [e, .Tuple cs kk tp] X.env = (false, eval e X.env) :: starEach [.Tuple cs kk tp] X.env) (hs2 : starEach [.Tuple cs kk tp] X.env = (false, eval (.Tuple cs kk tp) X.env) :: starEach [] X.env) (hp : (backTo pos (starEach [.Tuple cs kk tp] X.env)).any (·.1) = false) :
    PE X (.Call (.Name "isinstance" p) [e, .Tuple cs kk tp] [] pos) (tE X.K M (ev G (.tst (.isi b t)))) := by
  refine pe_imp (pe_callB call_isiT hg hm PyProof.Rows.boot_isinstance (pa_cons h (pa_cons (pe_tup hc) pa_nil hs2) hs1) (by decide) (by decide) hs1 hp) fun σ H Q ⟨g, S, C, Γ, st, h⟩ => ?_
  rw [isi_bind] at h
  refine useV pmE st h fun c v S1 H1 sH sS st1 v1 h1 => ?_
  split at h1
  · rename_i k
    have lm : (t.map fun u => (clsv X.K u).1).length ≤ sizeLine := by rw [List.length_map, ← cap_eq]; unfold cap; omega
    refine ⟨lm, fun q hq => ?_⟩
    have hS := none_of_sub st1.sub hq
    have v2 := v1.mono (subUpd (o := .tup (t.map fun u => (clsv X.K u).1)) hq) (.rfl : Sub S1 S1)
    refine ⟨v, q, _, _, _, _, rfl, upd_same, paired_cls t, tyx_of I v2 (st1.sub.tr (subUpd hq)) k, kit_any fun u hu => kit_ok I k (ht u hu), ?_⟩
    exact h1 _ S1 _ (subUpd hq) .rfl (.of (st1.toStt.up (subUpd hq)) rbl)
  · exact h1.elim
end
end Ev
/-! Ev, part R: the handled exception; own calls; raise; try. -/
namespace Ev
open PySem PySem.Spec L2
/-! ### exceptions whose context is None -/
theorem passN {X : Cx} : Passes (L2N.CX X.prog X.w) X (fun _ _ _ => False) := fun _ _ _ _ _ _ _ h => by
  obtain ⟨_, _, _, _, _, _, _, _, _, _, _, _, z⟩ := h
  exact z.elim
theorem takesN0 {X : Cx} : L2N.Takes X (fun _ _ _ _ => False) := fun _ _ x => by
  obtain ⟨_, _, _, _, _, _, _, _, _, _, _, _, _, _, _, _, z⟩ := x
  exact z.elim
section
variable {X : Cx} {e : Expr} {es : List Expr} {ta : TA} {p pos : Pos}
/-- a new exception of an own class, by its own __init__, where nothing is handled -/
theorem pmk_oexN {CX : CXT} {x : Str} {C fI : Addr} {k : Nat} {fd : FuncData} {ps : List Str} {sp : Sp} (T : OexC X.K C) (iC : PySem.W.findIn X.K (.ref C) "__init__" = some (some (.ref fI))) (tI : PySem.W.typeIn X.K (.ref fI) = some (.type "function"))
    (F1 : FnOk X.prog X.w X.K X.mg X.base CX k fI fd ps sp) (hr : Room (k + 1) X.A) (hb : Binds X.K fd ps []) (hx : Passes CX X (fun _ _ _ => False)) (hg : Gl X x) (hm : X.mg x = some (.ref C)) (ha : PA X (e :: es) ta)
    (hdb : (x == ("__debug__" : Str)) = false) (he : starEach (e :: es) X.env = (false, eval e X.env) :: starEach es X.env) (hpl : (backTo pos (starEach es X.env)).any (·.1) = false) :
    L2N.PMk X (.Call (.Name x p) (e :: es) [] pos) (tMkO C sp [] ta) := by
  intro pins s σ H Q I h
  obtain ⟨nm, q, N, bs, bm, sn, sub, ab, col, dd, k0, k1, k2, k3, k5, hC, hbm⟩ := T.cls
  refine wpAny_Call_Name_kw (ld_glob I hg hm ?_ hdb)
  refine PySem.W.callWith_K (h₀ := X.base) I.ok.mod.kin T.kC (thn (ha.run pos pins s σ H _ I h) fun us s1 ⟨vs, H1, I1, r1, hz, q1⟩ => ⟨I1.kIn, ?_⟩) he hpl
  show wpAny _ _ (call (.ref C) us) _ _ _
  obtain ⟨hp, g, dr, tk, os⟩ := s1
  have hsz : hp.objs.size ≤ hp.objs.size + 1 := Nat.le_succ _
  have hq := q1 (hp.objs.size + 1) (I1.hok.fresh hsz)
  rw [List.append_nil] at hq
  have kk : ∀ b o, hp.get? b = some o → ((hp.push (PySem.W.kdv_tup us)).push (PySem.HandSPX.excO C hp.objs.size)).get? b = some o := fun b o e => Heap.get?_push_of_some _ (Heap.get?_push_of_some _ e)
  have hget : ((hp.push (PySem.W.kdv_tup us)).push (PySem.HandSPX.excO C hp.objs.size)).get? (hp.objs.size + 1) = some (PySem.HandSPX.excO C hp.objs.size) := by heap_get
  have I2 : Inv X pins σ (upd H1 (hp.objs.size + 1) (exo (hp.objs.size + 1) C none)) ⟨(hp.push (PySem.W.kdv_tup us)).push (PySem.HandSPX.excO C hp.objs.size), g, dr, tk, os⟩ :=
    I1.laid (t' := tk) (a := hp.objs.size + 1) (o := exo (hp.objs.size + 1) C none) (h' := (hp.push (PySem.W.kdv_tup us)).push (PySem.HandSPX.excO C hp.objs.size)) kk hsz (exo_ok hget)
  have r2 : Vals (V.ref (hp.objs.size + 1) :: vs) (Value.ref (hp.objs.size + 1) :: us) := .cons rfl r1
  have hl : (Value.ref (hp.objs.size + 1) :: us ++ []).length = ps.length := by
    have e := r2.length
    rw [F1.len _ _ _ _ hq] at e
    rw [List.append_nil]
    exact e.symm
  have hus : us.length ≤ sizeLine := by
    rw [← Paired.length r1, sizeLine_eq]
    omega
  have b2 := hb _ (Value.ref (hp.objs.size + 1) :: us) I2.kIn hl
  rw [List.append_nil] at b2
  refine wpAny_call (PySem.HandSPX.call_own F.excBase_ValueError (fun Y => PySem.HandSPX.refsVE_contains Y bm hbm) (I1.kIn _ _ hC) (PySem.W.looks_findIn I1.kIn iC) (fun self => PySem.W.bind_fn I1.kIn self tI) hus
    (codeAny_mono (F1.run _ X.stack _ _ ⟨Value.ref (hp.objs.size + 1) :: us, []⟩ (Value.ref (hp.objs.size + 1) :: us) _ _ (fun _ _ _ => False) (hr.make C us []) (I2.env0.make C us []) b2 r2 hq) fun r s' hq' => ?_))
  cases r with
  | error er => exact hx pins σ _ _ er s' I2 hq'
  | ok fl =>
    cases fl with
    | ret u =>
      obtain ⟨v, H2, os2, bare2, un2, hok2, rv, ev, d, fs, ea, ed, hd1, q2⟩ := hq'
      subst ev
      obtain ⟨h2, g2, d2, t2, os'⟩ := s'
      obtain ⟨t0, G, J, kG, ge, hoe, na⟩ := mk_end0 (d2 := d2) (t2 := t2) I1 hsz kk un2 hok2 os2 bare2 ea ed hd1
      refine ⟨rv, ⟨hp.objs.size + 1, _, _, ⟨G, g2, d2, t2, os'⟩, _, .ref C, some d, rfl, J, kG, ge, hoe, ⟨rfl, rfl, fun vs hv => ?_⟩, rfl, rfl, na, rfl, bare2, raises_own T.exC T.tyC, q2⟩⟩
      cases hv
      rfl
    | next => exact False.elim hq'
    | brk => exact False.elim hq'
    | cont => exact False.elim hq'
end
section
variable {X : Cx} {M : Md} {G : Glb}
def rIx (K : PySem.W.Frag) (G : Glb) (e : ExI) (t : String) : List V → Hp → VK → Prop := fun xs H Q => ∃ (c : String) (ns : List String) (ds : List D), xs = [.ref e.a, (clsv K t).1] ∧ e.cls = .ref (He.ga K c) ∧ c ∈ G.xcs ∧ (e.d = none ∨ ∃ d fs, e.d = some d ∧ H d = some (.xd fs)) ∧ Q (.bl (isT G.sb (.exn c ns ds) t)) H
theorem call_isx {e : ExI} {oe : Obj} {t : String} (I0 : IsiOk X.K G) (ht : t ∈ T6 ∨ t ∈ G.cls ++ G.xcs) (hp : (e.a, oe) ∈ X.pn) (hz : Zc e.cls e.d oe) (hf : ∃ vs, oe.data = .fields vs) : CallR X (.builtin "isinstance") (rIx X.K G e t) := by
  intro pins s σ H xs us Q I r h
  obtain ⟨c, ns, ds, rfl, ec, kc, hd, q⟩ := h
  obtain ⟨u1, u2, rfl, r1, r2⟩ := vals2 r
  have e2 := (clsv_ok t).eq r2
  subst e2
  cases r1
  obtain ⟨hget, _⟩ := I.pin (e.a, oe) (List.mem_append_left _ hp)
  obtain ⟨vs, hv⟩ := hf
  have xc := I0.exc c kc
  obtain ⟨od, J⟩ : ∃ od, PySem.W.InstAt s.heap e.a oe (He.ga X.K c) od := by
    have h1 : oe.cls = .ref (He.ga X.K c) := by rw [hz.1, ec]
    have h2 : PySem.W.notCls oe = true := by unfold PySem.W.notCls; rw [hv]
    rcases hd with hd | ⟨d, fs, hd, hx⟩
    · exact ⟨none, hget, h1, h2, by rw [hz.2, hd]; trivial⟩
    · obtain ⟨mA, hns, _⟩ := (show ObjOk X.prog X.w H s.heap d (.xd fs) from I.hok d _ hx)
      obtain ⟨od, ho, _⟩ := lookIn_ns hns
      exact ⟨some od, hget, h1, h2, by rw [hz.2, hd]; exact ho⟩
  exact PySem.W.kia_one (PySem.W.kitx_exc xc.cl xc.ga xc.gt xc.sub xc.ca I0.hn I0.ht xc.mr) I.kIn J (kit_x I0 kc ht) (fun z => nomatch z) fun tk => ⟨.bl _, H, I.kept (t' := tk) fun _ _ z => z, rfl, q⟩
theorem se_isx {x : Str} {i : Nat} {e : ExI} {oe : Obj} {c : Expr} {p p2 pos : Pos} {t : String} (hx : M.x = some e) (hi : e.i = i) (I : IsiOk X.K G) (ht : t ∈ T6 ∨ t ∈ G.cls ++ G.xcs) (hp' : (e.a, oe) ∈ X.pn) (hz : Zc e.cls e.d oe) (hf : ∃ vs, oe.data = .fields vs)
    (hg : Gl X "isinstance") (hm : X.mg "isinstance" = none) (hN : X.N[i]? = some x) (hv : Vis X.env.scope x) (hd : (x == ("__debug__" : Str)) = false) (hcd : (x == ("__classdict__" : Str)) = false) (hc : PE X c (tC (clsv X.K t).1))
    (hs1 : starEach [.Name x p2, c] X.env = (false, eval (.Name x p2) X.env) :: starEach [c] X.env) (hs2 : starEach [c] X.env = (false, eval c X.env) :: starEach [] X.env) (hp : (backTo pos (starEach [c] X.env)).any (·.1) = false) :
    PE X (.Call (.Name "isinstance" p) [.Name x p2, c] [] pos) (tE X.K M (ev G (.tst (.isx i [t])))) := by
  refine pe_imp (pe_callB (call_isx I ht hp' hz hf) hg hm PyProof.Rows.boot_isinstance (pa_cons (pe_var hN hv hd hcd) (pk_cons' hc pk_nil' hs2) hs1) (by decide) (by decide) hs1 hp) fun σ H Q ⟨g, S, C, Γ, st, h⟩ => ?_
  simp only [ev, ts] at h
  have ex := st.ex
  rw [hx] at ex
  obtain ⟨ex1, ex2⟩ := ex
  subst hi
  cases eg : Γ[e.i]? with
  | none => rw [eg] at h; exact h.elim
  | some o =>
    cases o with
    | none => rw [eg] at h; exact h.elim
    | some cc =>
      obtain ⟨d, n⟩ := cc
      cases d with
      | exn cn ns ds =>
        rw [eg] at h
        dsimp only at h
        by_cases kc : G.xcs.contains cn = true
        · rw [if_pos kc] at h
          have h : QE X.K g S σ H C Q (.bl ([t].any fun t => isT G.sb (.exn cn ns ds) t), 0) := h
          simp only [List.any_cons, List.any_nil, Bool.or_false] at h
          obtain ⟨ec, vs, _, _, xd⟩ := ex2 cn ns ds n eg
          refine ⟨.ref e.a, ex1, cn, ns, ds, rfl, ec, by simpa using kc, ?_, h _ S H .rfl .rfl (.of st.toStt rbl)⟩
          rcases xd with ⟨_, z⟩ | ⟨d, e1, e2⟩
          · exact .inl z
          · exact .inr ⟨d, _, e1, st.sub _ _ e2⟩
        · rw [if_neg kc] at h; exact h.elim
      | _ => rw [eg] at h; exact h.elim
theorem se_exf {X0 : Cx} {x : Str} {f : String} {i : Nat} {e : ExI} {oe : Obj} {pn : List (Addr × Obj)} {p pos : Pos} (hx : M.x = some e) (hi : e.i = i) (hf : ∀ c, G.okX c f = true → XatOk X0.K c f) (hz : Zc e.cls e.d oe) (hfd : ∃ vs, oe.data = .fields vs)
    (hN : X0.N[i]? = some x) (hv : Vis X0.env.scope x) (hd : (x == ("__debug__" : Str)) = false) (hcd : (x == ("__classdict__" : Str)) = false) (hb : attributeBase (.Name x p) f X0.env (eval (.Name x p) X0.env) = eval (.Name x p) X0.env) :
    PE (X0.suite e.a ((e.a, oe) :: pn)) (.Attribute (.Name x p) f pos) (tE X0.K M (ev G (.exf i f))) := by
  constructor
  intro pins s σ H Q I ⟨g, S, C, Γ, st, h⟩
  simp only [ev] at h
  have ex := st.ex
  rw [hx] at ex
  obtain ⟨ex1, ex2⟩ := ex
  subst hi
  cases eg : Γ[e.i]? with
  | none => rw [eg] at h; exact h.elim
  | some o =>
    cases o with
    | none => rw [eg] at h; exact h.elim
    | some cc =>
      obtain ⟨d, n⟩ := cc
      cases d with
      | exn cn ns ds =>
        rw [eg] at h
        cases n with
        | succ n => exact h.elim
        | zero =>
          have h : PO X0.K M.W g S σ H C (if G.okX cn f = true then (optR (fldD f ns ds)).bind fun d => .ok (d, 0) else .fail) (QE X0.K g S σ H C Q) := h
          by_cases ko : G.okX cn f = true
          · rw [if_pos ko] at h
            cases ef : fldD f ns ds with
            | some d0 =>
              rw [ef] at h
              obtain ⟨ec, vs, hl, r, xd⟩ := ex2 cn ns ds 0 eg
              obtain ⟨w, e1, e2⟩ := fld_get r hl ef
              have no := hf cn ko
              rcases xd with ⟨z, _⟩ | ⟨dd, d1, d2⟩
              · subst z; cases ds <;> cases ef
              · refine (pe_xf (X := X0) (C := He.ga X0.K cn) no.cl no.no hz hfd (pe_var hN hv hd hcd) hb).run pins s σ H Q I ⟨.ref e.a, ex1, rfl, ec, dd, _, w, d1, st.sub _ _ d2, e1, h w S H .rfl .rfl (.of st.toStt e2)⟩
            | none => rw [ef] at h; exact h.elim
          · rw [if_neg ko] at h; exact h.elim
      | _ => rw [eg] at h; exact h.elim
/-! ### own functions -/
/-- the promise of a def whose run is φ -/
def spF (K : PySem.W.Frag) (φ : List D → Res (D × Nat)) : Sp := fun vs H Q E => ∃ S ds, Sub S H ∧ RpL K S ds vs ∧ match φ ds with
  | .ok c => Done K S H Q c
  | .exc c ns es => ∀ S' H' dx ws, Sub H H' → Sub S S' → Sub S' H' → (∀ a, S' a ≠ none → S a = none → H a = none ∨ ∃ l, S' a = some (.tup l)) → ns.length = ws.length → RpL K S' es ws → XD S' dx ns ws → E (.ref (He.ga K c)) dx H'
  | .fail => False
structure FnFact (P : Program) (w : World) (K : PySem.W.Frag) (mg : Str → Option Value) (base : Heap) (k : Nat) (x : String) (dv : List D) (ψ : List D → Res (D × Nat)) : Prop where
  is : ∃ f fd ps ds dvs φ, mg x = some (.ref f) ∧ PySem.W.keepIn K (.ref f) = true ∧ Binds K fd ps ds ∧ Vals dvs ds ∧ (∀ S, RpL K S dv dvs) ∧ (∀ l, ψ l = φ (l ++ dv)) ∧ FnOk P w K mg base (L2N.CX P w) k f fd ps (spF K φ)
theorem se_call {x : String} {i k : Nat} {dv : List D} {ψ : List D → Res (D × Nat)} {e : Expr} {es : List Expr} {cs : List EC} {p pos : Pos} (F : FnFact X.prog X.w X.K X.mg X.base k x dv ψ) (hi : G.fns[i]? = some ψ) (hr : Room k X.A) (tk : L2N.Takes X M.W) (hg : Gl X x) (ha : PA X (e :: es) (tL X.K M (evs G cs)))
    (hdb : ((x : Str) == ("__debug__" : Str)) = false) (he : starEach (e :: es) X.env = (false, eval e X.env) :: starEach es X.env) (hpl : (backTo pos (starEach es X.env)).any (·.1) = false) : PE X (.Call (.Name x p) (e :: es) [] pos) (tE X.K M (ev G (.call i cs))) := by
  obtain ⟨f, fd, ps, ds, dvs, φ, hm, hk, hb, hd, rd, eψ, hF⟩ := F.is
  refine pe_imp (pe_callSD (E := WE M.W) hF hr hg hm hk hb hd (fun σ => L2N.passAt tk σ) ha hdb he hpl) fun σ H Q ⟨g, S, C, Γ, st, h⟩ => ?_
  simp only [ev, hi] at h
  refine useL pmE st h fun ds1 vs S1 H1 sH sS st1 r1 h1 => ?_
  refine ⟨S1, ds1.map (·.1) ++ dv, st1.sub, r1.append (rd S1), ?_⟩
  rw [eψ] at h1
  cases eo : φ (ds1.map (·.1) ++ dv) with
  | ok c => rw [eo] at h1; exact Done.of st1.toStt h1
  | exc c ns es' =>
    rw [eo] at h1
    exact fun S' H' dx ws sH' sS' sSH fr hl r xd => h1 S' H' dx ws sH' sS' (st1.toStt.upS sH' sS' sSH fr) hl r xd
  | fail => rw [eo] at h1; exact h1.elim
/-! ### raise -/
/-- what an exception's own __init__ does: its fields, in order -/
def rows : List String → List V → List (Str × V)
  | f :: fs, v :: vs => rows fs vs ++ [(Str.ofString f, v)]
  | _, _ => []
def spX (C : Addr) (fs : List String) : Sp := fun vs H Q _ => ∃ a ws, vs = .ref a :: ws ∧ ws.length = fs.length ∧ H a = some (exo a C none) ∧ ∀ d, H d = none → d ≠ a → Q .non (upd (upd H d (exd d (rows fs ws))) a (exo a C (some d)))
structure MkX (P : Program) (w : World) (K : PySem.W.Frag) (mg : Str → Option Value) (base : Heap) (k : Nat) (c : String) (fs : List String) : Prop where
  is : ∃ fI fd ps, OexC K (He.ga K c) ∧ PySem.W.findIn K (.ref (He.ga K c)) "__init__" = some (some (.ref fI)) ∧ PySem.W.typeIn K (.ref fI) = some (.type "function") ∧ FnOk P w K mg base (L2N.CX P w) k fI fd ps (spX (He.ga K c) fs) ∧ Binds K fd ps [] ∧ mg c = some (.ref (He.ga K c))
theorem rows_zip : ∀ {fs : List String} {ws : List V}, fs.length = ws.length → rows fs ws = zipF fs.reverse ws.reverse
  | [], [], _ => rfl
  | [], _ :: _, h => by cases h
  | _ :: _, [], h => by cases h
  | f :: fs, w :: ws, h => by
    have hl : fs.length = ws.length := by simpa using h
    unfold rows
    rw [rows_zip hl]
    unfold zipF
    rw [List.reverse_cons, List.reverse_cons, List.map_append, List.zip_append (by simp [hl])]
    rfl
theorem s_rse {c : String} {fs : List String} {k : Nat} {e : Expr} {es : List Expr} {cs : List EC} {p pos rpos : Pos} (F : MkX X.prog X.w X.K X.mg X.base k c fs) (hfs : fs ≠ []) (hc : X.calm = true) (tk : L2N.Takes X M.W) (hr : Room (k + 1) X.A) (hg : Gl X c) (hl : cs.length = fs.length) (h1000 : cs.length ≤ 1000) (ha : PA X (e :: es) (tL X.K M (evs G cs)))
    (hdb : ((c : Str) == ("__debug__" : Str)) = false) (he : starEach (e :: es) X.env = (false, eval e X.env) :: starEach es X.env) (hpl : (backTo pos (starEach es X.env)).any (·.1) = false) :
    PS X (.Raise (some (.Call (.Name c p) (e :: es) [] pos)) none rpos) (tSt X.K M (ex G (.rse c fs cs))) := by
  obtain ⟨fI, fd, ps, T, iC, tI, hF, hb, hm⟩ := F.is
  refine ps_imp (L2N.ps_raise hc tk (pmk_oexN T iC tI hF hr hb passN hg hm ha hdb he hpl)) fun E σ H ⟨g, S, C, Γ, st, h⟩ => ?_
  simp only [ex] at h
  have h : PSt X.K M g S E ((evs G cs Γ).out Γ fun ds => if ds.length = cs.length then .exc c fs.reverse (ds.map (·.1)).reverse Γ else .fail) := by
    cases q : evs G cs Γ with
    | ok ds => rw [q] at h; rw [Res.out_ok, if_pos (evs_len cs Γ ds q)]; exact h
    | exc c ns ds => rw [q] at h; exact h
    | fail => rw [q] at h; exact h
  refine useOL st h fun ds vs S1 H1 sH sS st1 r q => ?_
  split at q
  · rename_i el
    have lv : vs.length = fs.length := by rw [← r.length, List.length_map]; omega
    refine ⟨by omega, fun a ha => ⟨a, vs, by rw [List.append_nil], lv, upd_same, fun d hd hda => ⟨rfl, d, rows fs vs, upd_same, ?_, ?_, ?_⟩⟩⟩
    · rw [upd_ne hda, upd_same]
    · rw [upd_ne hda] at hd; exact hd
    · rw [upd_ne hda] at hd
      have eq : upd (del (upd (upd (upd H1 a (exo a (He.ga X.K c) none)) d (exd d (rows fs vs))) a (exo a (He.ga X.K c) (some d))) a) d (.xd (rows fs vs)) = upd H1 d (.xd (rows fs vs)) := by
        funext b
        by_cases h1 : b = d
        · subst h1; rw [upd_same, upd_same]
        · rw [upd_ne h1, upd_ne h1]
          by_cases h2 : b = a
          · subst h2; rw [del_same, ha]
          · rw [del_ne h2, upd_ne h2, upd_ne h1, upd_ne h2]
      rw [eq]
      have st2 := st1.toStt.new (o := .xd (rows fs vs)) hd
      have sS2 := subUpd (o := .xd (rows fs vs)) (none_of_sub st1.sub hd)
      refine q _ σ _ C (some d) vs.reverse sS2 st2 st1.gr (by rw [List.length_reverse, List.length_reverse, lv]) (RpL.mono sS2 _ _ r.reverse) (.inr ⟨d, rfl, ?_⟩)
      rw [upd_same, rows_zip lv.symm]
  · exact q.elim
/-! ### try -/
def Xm (K : PySem.W.Frag) (G : Glb) : Prop := ∀ c ∈ G.xcs, ∀ t ∈ G.xcs, PySem.W.exmOne K (.ref (He.ga K c)) (.ref (He.ga K t)) = some (G.sb c t)
theorem s_try {c : String} {n : Str} {i : Nat} {body suite : List Stmt} {b₀ : Stmt} {np pos pos' : Pos} {cb ch : SC} (hx : M.x = none) (hxm : Xm X.K G) (hs : X.stack = X.env :: X.outer) (hf : X.env.frame = some X.env.locals) (hN : X.N.Nodup) (hi : X.N[i]? = some n) (hln : X.env.kindOf n = some .local) (hc : Names X c (.ref (He.ga X.K c))) (tk : L2N.Takes X M.W)
    (hb : ∀ (W : WX) (pn : List (Addr × Obj)) (xe : Value → Shared → Prop), L2N.Takes (X.tr pn xe) W → PassesOwn (model X.prog X.w) X.A X.env xe → PSs (X.tr pn xe) body (tSt X.K ⟨W, none⟩ (ex G cb)))
    (hsu : ∀ (a : Addr) (oe : Obj) (cls : Value) (d : Option Addr) (pn : List (Addr × Obj)), L2N.Zn cls d oe → (∃ vs, oe.data = .fields vs) → PSs (X.suite a ((a, oe) :: pn)) (b₀ :: suite) (tSt X.K ⟨fun _ _ _ _ => False, some ⟨i, a, cls, d⟩⟩ (ex G ch))) :
    PS X (.Try body [.ExceptHandler (some (.Name c np)) (some n) (b₀ :: suite) pos'] [] [] pos) (tSt X.K M (ex G (.try cb c i ch))) := by
  refine ps_imp (L2N.ps_try_as (tb := fun W => tSt X.K ⟨W, none⟩ (ex G cb)) (ts := fun a cls d => tSt X.K ⟨fun _ _ _ _ => False, some ⟨i, a, cls, d⟩⟩ (ex G ch)) hs hf hN hi hln hc tk hb hsu) fun E σ H ⟨g, S, C, Γ, st, h⟩ => ?_
  refine ⟨g, S, C, Γ, ⟨st.toStt, st.gr, trivial⟩, ?_⟩
  simp only [ex] at h
  have up : ∀ {K : PySem.W.Frag} {W : WX} {S' H' : Hp} {σ' : L2.St} {C' : CM} {Γ' : Env}, Sit K ⟨W, none⟩ g S' σ' H' C' Γ' → Sit K M g S' σ' H' C' Γ' := fun s => ⟨s.toStt, s.gr, by rw [hx]; trivial⟩
  cases eb : ex G cb Γ with
  | nx Γ1 => rw [eb] at h; exact fun σ' S' H' C' a s => h σ' S' H' C' a (up s)
  | brk Γ1 => rw [eb] at h; exact fun σ' S' H' C' a s => h σ' S' H' C' a (up s)
  | cnt Γ1 => rw [eb] at h; exact fun σ' S' H' C' a s => h σ' S' H' C' a (up s)
  | ret d n => rw [eb] at h; exact h
  | fail => rw [eb] at h; exact h
  | exc c' ns ds Γ1 =>
    rw [eb] at h
    intro S1 σ1 H1 C1 dx vs sS st1 gr1 hl r xd
    simp only [catch1] at h
    split at h
    · exact h.elim
    · rename_i kk
      have k3 : c' ∈ G.xcs ∧ c ∈ G.xcs ∧ i < Γ1.length := by simpa using kk
      have k2 : (c' ∈ G.xcs ∧ c ∈ G.xcs) ∧ i < Γ1.length := ⟨⟨k3.1, k3.2.1⟩, k3.2.2⟩
      refine ⟨_, hxm c' k2.1.1 c k2.1.2, fun yes a na => ?_, fun no => ?_⟩
      · rw [if_pos yes] at h
        have hlt : i < σ1.length := by rw [← gr1.1]; exact k2.2
        obtain ⟨j, hj, hcj⟩ := st1.free
        have st2 := (st1.hold (d := .exn c' ns ds) (v := .ref a) (by simp only [Rp]) hj hcj).store (i := i) setC_same hlt (by omega)
        rw [setC_setC, setC_self hcj] at st2
        have gr2 : GR (setC C1 i (some (.exn c' ns ds, 0, .ref a))) (Γ1.set i (some (.exn c' ns ds, 0))) (σ1.set i (some (.ref a))) := gr1.set
        refine ⟨g, S1, _, _, ⟨st2, gr2, ?_⟩, ?_⟩
        · refine ⟨List.getElem?_set_self hlt, fun c2 ns2 ds2 n2 e2 => ?_⟩
          rw [List.getElem?_set_self (by rw [gr1.1]; exact hlt)] at e2
          cases e2
          exact ⟨rfl, vs, hl, r, xd⟩
        · cases eh : ex G ch (Γ1.set i (some (.exn c' ns ds, 0))) with
          | nx Γ2 =>
            rw [eh] at h
            intro σ' S' H' C' a2 s2
            refine h (σ'.set i none) S' H' (setC C' i none) (sS.tr a2) ⟨?_, ?_, by rw [hx]; trivial⟩
            · refine s2.toStt.thin (fun k c e => ?_) fun k d n v e hk => ?_
              · by_cases z : k = i
                · subst z; rw [setC_same] at e; cases e
                · rw [setC_ne z] at e; exact e
              · by_cases z : k = i
                · subst z; rw [setC_same] at e; cases e
                · rw [setC_ne z] at e
                  rw [List.length_set] at hk
                  rw [List.getElem?_set_ne (Ne.symm z)]
                  exact s2.slot k d n v e hk
            · have q := s2.gr.none (i := i)
              exact ⟨q.1.trans (List.length_set ..).symm, q.2⟩
          | ret d n =>
            rw [eh] at h
            exact fun v S' σ' H' C' j a2 s2 e2 => h v S' σ' H' C' j (sS.tr a2) s2 e2
          | brk Γ2 => rw [eh] at h; exact h.elim
          | cnt Γ2 => rw [eh] at h; exact h.elim
          | exc c ns ds Γ2 => rw [eh] at h; exact h.elim
          | fail => rw [eh] at h; exact h.elim
      · rw [if_neg (by rw [no]; simp)] at h
        exact h S1 σ1 H1 C1 dx vs sS st1 gr1 hl r xd
end
end Ev
/-! Ev, part Ra: own classes: a new instance, its methods. -/
namespace Ev
open PySem PySem.Spec L2
section
variable {X : Cx} {CX : CXT} {k : Nat} {f C : Addr} {fd : FuncData} {ps : List Str} {sp : Sp} {E : L2.St → XK} {x m : Str} {p pos apos : Pos} {e o : Expr} {es : List Expr} {ta : TE} {t : TA}
/-! ### readings with wishes at the caller's slots -/
def tMethSD (C : Addr) (m : Str) (sp : Sp) (E : L2.St → XK) (ta : TE) (t : TA) : TE := fun σ H Q => ta σ H fun x H1 => ∃ a dx fs, x = .ref a ∧ H1 a = some (.ins C dx fs) ∧ fs.lookup m = none ∧ t σ H1 fun vs H2 => sp (x :: vs) H2 Q (E σ)
theorem run_self {pins : List (Addr × Obj)} {σ : L2.St} {H : Hp} {s : Shared} {Q : VK} {us : List Value} {vs : List V} (F : FnOk X.prog X.w X.K X.mg X.base CX k f fd ps sp) (hr : Room k X.A) (hb : Binds X.K fd ps []) (hx : PassesAt CX X σ (E σ))
    (I : L2.Inv X pins σ H s) (r : Vals vs us) (h : sp vs H Q (E σ)) : wpAny (model X.prog X.w) X.A (call (.ref f) us) (EP X pins σ Q) X.xe s :=
  run_fnSD (dvs := []) (ds := []) F hr hb .nil hx I r (by rw [List.append_nil]; exact h)
theorem pe_methSD {pl : Sem Bool} (he : PE X o ta) (c : Cls X.K C) (hm : Meth X.K C m f) (F : FnOk X.prog X.w X.K X.mg X.base CX k f fd ps sp) (hr : Room k X.A) (hb : Binds X.K fd ps []) (hx : ∀ σ, PassesAt CX X σ (E σ)) (ha : PA X (e :: es) t)
    (hst : starEach (e :: es) X.env = (false, eval e X.env) :: starEach es X.env) (hpl : (backTo pos (starEach es X.env)).any (·.1) = false)
    (ht : eval (.Call (.Attribute o m apos) (e :: es) [] pos) X.env = (do
      let obj ← eval o X.env
      standAt apos.atName
      let (g, self) ← holding [obj] (getMethod obj m pl)
      callWith pos g self (backTo pos (starEach (e :: es) X.env)) (backToKw pos (keywordEach [] X.env)))) :
    PE X (.Call (.Attribute o m apos) (e :: es) [] pos) (tMethSD C m sp E ta t) := by
  constructor
  intro pins s σ H Q I h
  refine PySem.W.methodCall_KW (pl := pl) (thn (he.run pins s σ H _ I h) fun u s1 z => ?_) ht
  obtain ⟨x, H1, I1, rx, a, dx, fs, ex, ea, l, q⟩ := z
  subst ex
  obtain rfl : u = Value.ref a := rx
  refine getmeth_ok I1 ea c hm l (PySem.W.callWith_K (first := [.ref a]) (h₀ := X.base) I.ok.mod.kin hm.kp (thn (ha.run pos pins s1 σ H1 _ I1 q) fun us s2 z2 => ?_) hst hpl)
  obtain ⟨vs, H2, I2, r, q2⟩ := z2
  exact ⟨I2.kIn, run_self (us := .ref a :: us) (vs := .ref a :: vs) F hr hb (hx σ) I2 (.cons rfl r) q2⟩
theorem pe_meth0SD {pl : Sem Bool} (he : PE X o ta) (c : Cls X.K C) (hm : Meth X.K C m f) (F : FnOk X.prog X.w X.K X.mg X.base CX k f fd ps sp) (hr : Room k X.A) (hb : Binds X.K fd ps []) (hx : ∀ σ, PassesAt CX X σ (E σ))
    (ht : eval (.Call (.Attribute o m apos) [] [] pos) X.env = (do
      let obj ← eval o X.env
      standAt apos.atName
      let (g, self) ← holding [obj] (getMethod obj m pl)
      callWith pos g self (backTo pos (starEach [] X.env)) (backToKw pos (keywordEach [] X.env)))) :
    PE X (.Call (.Attribute o m apos) [] [] pos) (tMethSD C m sp E ta tNil) := by
  constructor
  intro pins s σ H Q I h
  refine PySem.W.methodCall_KW (pl := pl) (thn (he.run pins s σ H _ I h) fun u s1 z => ?_) ht
  obtain ⟨x, H1, I1, rx, a, dx, fs, ex, ea, l, q⟩ := z
  subst ex
  obtain rfl : u = Value.ref a := rx
  exact getmeth_ok I1 ea c hm l (PySem.W.callWith_K0 (first := [.ref a]) I1.kIn hm.kp (run_self (us := [.ref a]) (vs := [.ref a]) F hr hb (hx σ) I1 (.cons rfl .nil) q))
def tMakeSD (C : Addr) (sp : Sp) (E : L2.St → XK) (t : TA) : TE := fun σ H Q => t σ H fun vs H1 => ∀ x dx, H1 x = none → H1 dx = none → dx ≠ x →
  sp (.ref x :: vs) (upd (upd H1 dx (.own x)) x (.ins C dx [])) (fun v H2 => v = .non ∧ Q (.ref x) H2) (E σ)
theorem run_makeSD {pins : List (Addr × Obj)} {σ : L2.St} {H : Hp} {s : Shared} {Q : VK} {us : List Value} {vs : List V} (M : Mk X.K C f) (F : FnOk X.prog X.w X.K X.mg X.base CX k f fd ps sp) (hr : Room (k + 1) X.A) (hb : Binds X.K fd ps [])
    (hx : PassesAt CX X σ (E σ)) (I : L2.Inv X pins σ H s) (r : Vals vs us)
    (h : ∀ x dx, H x = none → H dx = none → dx ≠ x → sp (.ref x :: vs) (upd (upd H dx (.own x)) x (.ins C dx [])) (fun v H2 => v = .non ∧ Q (.ref x) H2) (E σ)) :
    wpAny (model X.prog X.w) X.A (call (.ref C) us) (EP X pins σ Q) X.xe s := by
  have h1 := h (s.heap.objs.size + 1) s.heap.objs.size (I.hok.fresh (Nat.le_succ _)) (I.hok.fresh (Nat.le_refl _)) (Nat.ne_of_lt (Nat.lt_succ_self _))
  have I2 := Inv.made (C := C) I
  have r2 : Vals (V.ref (s.heap.objs.size + 1) :: vs) (Value.ref (s.heap.objs.size + 1) :: us) := .cons rfl r
  have hl : (Value.ref (s.heap.objs.size + 1) :: us ++ []).length = ps.length := by
    have e := r2.length
    rw [F.len _ _ _ _ h1] at e
    rw [List.append_nil]
    exact e.symm
  have hb2 := hb _ (Value.ref (s.heap.objs.size + 1) :: us) I2.kIn hl
  rw [List.append_nil] at hb2
  refine wpAny_call (make_map (f := f) I.kIn M.makes M.init (beq_iff_eq.mp M.fn) (codeAny_mono (F.run _ X.stack _ _ ⟨Value.ref (s.heap.objs.size + 1) :: us, []⟩ (Value.ref (s.heap.objs.size + 1) :: us) _ _ (E σ) (hr.make C us [])
    (I2.env0.make C us []) hb2 r2 h1) fun res s' q => ?_))
  cases res with
  | error e => exact hx pins _ _ e s' I2 q
  | ok fl =>
    cases fl with
    | ret u =>
      obtain ⟨v, H', I3, rv, ev, q3⟩ := I2.after q
      subst ev
      exact ⟨rv, ⟨V.ref (s.heap.objs.size + 1), H', I3, rfl, q3⟩⟩
    | next => exact False.elim q
    | brk => exact False.elim q
    | cont => exact False.elim q
theorem pe_makeSD (M : Mk X.K C f) (F : FnOk X.prog X.w X.K X.mg X.base CX k f fd ps sp) (hr : Room (k + 1) X.A) (hg : Gl X x) (hm : X.mg x = some (.ref C)) (hb : Binds X.K fd ps []) (hx : ∀ σ, PassesAt CX X σ (E σ))
    (ha : PA X (e :: es) t) (hdb : (x == ("__debug__" : Str)) = false) (he : starEach (e :: es) X.env = (false, eval e X.env) :: starEach es X.env) (hpl : (backTo pos (starEach es X.env)).any (·.1) = false) :
    PE X (.Call (.Name x p) (e :: es) [] pos) (tMakeSD C sp E t) := by
  constructor
  intro pins s σ H Q I h
  refine wpAny_Call_Name_kw (ld_glob I hg hm (PySem.W.callWith_K (h₀ := X.base) I.ok.mod.kin M.kp (thn (ha.run pos pins s σ H _ I h) fun us s1 z => ?_) he hpl) hdb)
  obtain ⟨vs, H1, I1, r, q⟩ := z
  exact ⟨I1.kIn, run_makeSD M F hr hb (hx σ) I1 r q⟩
end
theorem meth_tree {o : Expr} {m : Str} {apos pos : Pos} {es : List Expr} {env : PySem.Env} (hb : attributeBase o m env (eval o env) = eval o env)
    (hf : methodCallForm (es.length + ([] : List Keyword).length) (backTo pos (starEach es env)) (backToKw pos (keywordEach [] env)) = true) (hl : (apos.endLine == pos.line) = true) :
    eval (.Call (.Attribute o m apos) es [] pos) env = (do
      let obj ← eval o env
      standAt apos.atName
      let (g, self) ← holding [obj] (getMethod obj m (do return (← importBound o env).getD true))
      callWith pos g self (backTo pos (starEach es env)) (backToKw pos (keywordEach [] env))) := by
  have hp : methodCallPos true o env apos pos = pure pos := by unfold methodCallPos; simp [hl]
  rw [arm_eval_Call, hb]
  unfold methodCall calleeOf
  rw [hf, hp]
  rfl
/-! ### facts -/
theorem ins_of {K : PySem.W.Frag} {S H : Hp} {c : String} {ns : List String} {ds : List D} {v : V} (r : Rp K S (.ins c ns ds) v) (s : Sub S H) : ∃ a dx vs, v = .ref a ∧ H a = some (.ins (He.ga K c) dx (zipF ns vs)) ∧ ns.length = vs.length ∧ RpL K S ds vs := by
  simp only [Rp] at r
  obtain ⟨a, dx, vs, e, q, l, _, r⟩ := r
  exact ⟨a, dx, vs, e, s _ _ q, l, r⟩
theorem zipF_none {m : String} : ∀ {ns : List String} {vs : List V}, ns.contains m = false → (zipF ns vs).lookup (Str.ofString m) = none
  | [], _, _ => rfl
  | _ :: _, [], _ => rfl
  | n :: ns, v :: vs, h => by
    rw [List.contains_cons, Bool.or_eq_false_iff] at h
    have ne : (Str.ofString m == Str.ofString n) = false := beq_eq_false_iff_ne.mpr fun z => by
      have := ofString_inj z
      subst this
      simp at h
    show List.lookup _ ((Str.ofString n, v) :: zipF ns vs) = none
    simp only [List.lookup, ne]
    exact zipF_none h.2
theorem insOk_of {c m : String} {d : D} (h : insOk c m d = true) : ∃ ns ds, d = .ins c ns ds ∧ ns.contains m = false := by
  cases d with
  | ins c' ns ds =>
    simp only [insOk, Bool.and_eq_true] at h
    have e := beq_iff_eq.mp h.1
    subst e
    exact ⟨ns, ds, rfl, by simpa using h.2⟩
  | _ => cases h
/-- a method whose run is φ -/
structure MtFact (P : Program) (w : World) (K : PySem.W.Frag) (mg : Str → Option Value) (base : Heap) (k : Nat) (c m : String) (φ : List D → Res (D × Nat)) : Prop where
  is : ∃ f fd ps, Cls K (He.ga K c) ∧ Meth K (He.ga K c) (Str.ofString m) f ∧ Binds K fd ps [] ∧ FnOk P w K mg base (L2N.CX P w) k f fd ps (spF K φ)
/-- the promise of an own __init__ whose run is φ -/
def spI (K : PySem.W.Frag) (c : String) (φ : List D → Res (D × Nat)) : Sp := fun vs H Q E => ∃ S ds H1 a dx ws, vs = .ref a :: ws ∧ H = upd (upd H1 dx (.own a)) a (.ins (He.ga K c) dx []) ∧ H1 a = none ∧ H1 dx = none ∧ dx ≠ a ∧ Sub S H1 ∧ RpL K S ds ws ∧ match φ ds with
  | .ok r => ∀ S' H', Sub H1 H' → Sub S S' → Sub S' H' → (∀ b, S' b ≠ none → S b = none → H1 b = none ∨ ∃ l, S' b = some (.tup l)) → Rp K S' r.1 (.ref a) → Q .non H'
  | .exc c ns es => ∀ S' H' dx ws, Sub H1 H' → Sub S S' → Sub S' H' → (∀ a, S' a ≠ none → S a = none → H1 a = none ∨ ∃ l, S' a = some (.tup l)) → ns.length = ws.length → RpL K S' es ws → XD S' dx ns ws → E (.ref (He.ga K c)) dx H'
  | .fail => False
structure MkFact (P : Program) (w : World) (K : PySem.W.Frag) (mg : Str → Option Value) (base : Heap) (k : Nat) (c : String) (φ : List D → Res (D × Nat)) : Prop where
  is : ∃ f fd ps, Mk K (He.ga K c) f ∧ mg c = some (.ref (He.ga K c)) ∧ Binds K fd ps [] ∧ (∀ l r, φ l = .ok r → r.2 = 0) ∧ FnOk P w K mg base (L2N.CX P w) k f fd ps (spI K c φ)
section
variable {X : Cx} {M : Md} {G : Glb}
theorem se_new {c : String} {i k : Nat} {φ : List D → Res (D × Nat)} {e : Expr} {es : List Expr} {cs : List EC} {p pos : Pos} (F : MkFact X.prog X.w X.K X.mg X.base k c φ) (hi : G.fns[i]? = some φ) (hr : Room (k + 1) X.A) (tk : L2N.Takes X M.W) (hg : Gl X c) (ha : PA X (e :: es) (tL X.K M (evs G cs)))
    (hdb : ((c : Str) == ("__debug__" : Str)) = false) (he : starEach (e :: es) X.env = (false, eval e X.env) :: starEach es X.env) (hpl : (backTo pos (starEach es X.env)).any (·.1) = false) : PE X (.Call (.Name c p) (e :: es) [] pos) (tE X.K M (ev G (.call i cs))) := by
  obtain ⟨f, fd, ps, mk, hm, hb, h0, hF⟩ := F.is
  refine pe_imp (pe_makeSD (E := WE M.W) mk hF hr hg hm hb (fun σ => L2N.passAt tk σ) ha hdb he hpl) fun σ H Q ⟨g, S, C, Γ, st, h⟩ => ?_
  simp only [ev, hi] at h
  refine useL pmE st h fun ds1 vs S1 H1 sH sS st1 r1 h1 => ?_
  intro x dx hx hdx ne
  refine ⟨S1, ds1.map (·.1), H1, x, dx, vs, rfl, rfl, hx, hdx, ne, st1.sub, r1, ?_⟩
  cases eo : φ (ds1.map (·.1)) with
  | ok r =>
    rw [eo] at h1
    obtain ⟨d, n⟩ := r
    have e0 : n = 0 := h0 _ _ eo
    subst e0
    exact fun S' H' sH' sS' sSH fr rp => ⟨rfl, h1 (.ref x) S' H' sH' sS' (.of (st1.toStt.upS sH' sS' sSH fr) rp)⟩
  | exc c ns es' =>
    rw [eo] at h1
    exact fun S' H' dx ws sH' sS' sSH fr hl r xd => h1 S' H' dx ws sH' sS' (st1.toStt.upS sH' sS' sSH fr) hl r xd
  | fail => rw [eo] at h1; exact h1.elim
theorem done_call {K : PySem.W.Frag} {g : Gh} {S H : Hp} {σ : L2.St} {C : CM} {φ : List D → Res (D × Nat)} {ds : List D} {vs : List V} {Q : VK} (st : Stt K g S σ H C) (r : RpL K S ds vs) (h : PO K M.W g S σ H C (φ ds) (QE K g S σ H C Q)) : spF K φ vs H Q (WE M.W σ) := by
  refine ⟨S, ds, st.sub, r, ?_⟩
  cases eo : φ ds with
  | ok c => rw [eo] at h; exact Done.of st h
  | exc c ns es' =>
    rw [eo] at h
    exact fun S' H' dx ws sH' sS' sSH fr hl r xd => h S' H' dx ws sH' sS' (st.upS sH' sS' sSH fr) hl r xd
  | fail => rw [eo] at h; exact h.elim
theorem se_mth {c m : String} {i k : Nat} {φ : List D → Res (D × Nat)} {o e : Expr} {es : List Expr} {co : EC} {cs : List EC} {apos pos : Pos} {pl : Sem Bool} (F : MtFact X.prog X.w X.K X.mg X.base k c m φ) (hi : G.fns[i]? = some φ) (hr : Room k X.A) (tk : L2N.Takes X M.W) (ho : PE X o (tE X.K M (ev G co))) (ha : PA X (e :: es) (tL X.K M (evs G cs))) (hnb : plainM m = true)
    (he : starEach (e :: es) X.env = (false, eval e X.env) :: starEach es X.env) (hpl : (backTo pos (starEach es X.env)).any (·.1) = false)
    (ht : eval (.Call (.Attribute o (Str.ofString m) apos) (e :: es) [] pos) X.env = (do
      let obj ← eval o X.env
      standAt apos.atName
      let (g, self) ← holding [obj] (getMethod obj (Str.ofString m) pl)
      callWith pos g self (backTo pos (starEach (e :: es) X.env)) (backToKw pos (keywordEach [] X.env)))) : PE X (.Call (.Attribute o (Str.ofString m) apos) (e :: es) [] pos) (tE X.K M (ev G (.mth c m i co cs))) := by
  obtain ⟨f, fd, ps, cl, mt, hb, hF⟩ := F.is
  refine pe_imp (pe_methSD (E := WE M.W) ho cl mt hF hr hb (fun σ => L2N.passAt tk σ) ha he hpl ht) fun σ H Q ⟨g, S, C, Γ, st, h⟩ => ?_
  simp only [ev, hi, hnb, if_true] at h
  refine useE pmE st h fun c1 v S1 H1 sH sS st1 r1 h1 => ?_
  by_cases ok : insOk c m c1.1 = true
  · rw [if_pos ok] at h1
    obtain ⟨ns, ds, ed, hn⟩ := insOk_of ok
    rw [ed] at r1
    obtain ⟨a, dx, vs, e1, e2, e3, e4⟩ := ins_of r1 st1.sub
    refine ⟨a, dx, _, e1, e2, zipF_none hn, useL pmE st1 h1 fun ds2 ws S2 H2 sH2 sS2 st2 r2 h2 => ?_⟩
    exact done_call st2.toStt (.cons (by rw [ed]; exact Rp.mono sS2 _ _ r1) r2) h2
  · rw [if_neg ok] at h1; exact h1.elim
theorem se_mth0 {c m : String} {i k : Nat} {φ : List D → Res (D × Nat)} {o : Expr} {co : EC} {apos pos : Pos} {pl : Sem Bool} (F : MtFact X.prog X.w X.K X.mg X.base k c m φ) (hi : G.fns[i]? = some φ) (hr : Room k X.A) (tk : L2N.Takes X M.W) (ho : PE X o (tE X.K M (ev G co))) (hnb : plainM m = true)
    (ht : eval (.Call (.Attribute o (Str.ofString m) apos) [] [] pos) X.env = (do
      let obj ← eval o X.env
      standAt apos.atName
      let (g, self) ← holding [obj] (getMethod obj (Str.ofString m) pl)
      callWith pos g self (backTo pos (starEach [] X.env)) (backToKw pos (keywordEach [] X.env)))) : PE X (.Call (.Attribute o (Str.ofString m) apos) [] [] pos) (tE X.K M (ev G (.mth c m i co []))) := by
  obtain ⟨f, fd, ps, cl, mt, hb, hF⟩ := F.is
  refine pe_imp (pe_meth0SD (E := WE M.W) ho cl mt hF hr hb (fun σ => L2N.passAt tk σ) ht) fun σ H Q ⟨g, S, C, Γ, st, h⟩ => ?_
  simp only [ev, hi, hnb, if_true] at h
  refine useE pmE st h fun c1 v S1 H1 sH sS st1 r1 h1 => ?_
  by_cases ok : insOk c m c1.1 = true
  · rw [if_pos ok] at h1
    obtain ⟨ns, ds, ed, hn⟩ := insOk_of ok
    have r1' := r1
    rw [ed] at r1
    obtain ⟨a, dx, vs, e1, e2, e3, e4⟩ := ins_of r1 st1.sub
    refine ⟨a, dx, _, e1, e2, zipF_none hn, ?_⟩
    simp only [evs, Res.bind_ok] at h1
    exact done_call st1.toStt (.cons r1' .nil) h1
  · rw [if_neg ok] at h1; exact h1.elim
/-! ### self.f = e -/
theorem putFd_zip {f : String} {d : D} {w : V} : ∀ {ns : List String} {ds : List D} {vs : List V} {K : PySem.W.Frag} {S : Hp}, RpL K S ds vs → ns.length = vs.length → Rp K S d w → ∃ ws, putF (Str.ofString f) w (zipF ns vs) = zipF (putFd f d ns ds).1 ws ∧ (putFd f d ns ds).1.length = ws.length ∧ (putFd f d ns ds).1.length ≤ ns.length + 1 ∧ RpL K S (putFd f d ns ds).2 ws
  | [], ds, vs, K, S, r, hl, rw' => by
    cases vs with
    | cons _ _ => cases hl
    | nil =>
      have e : ds = [] := by cases ds with
        | nil => rfl
        | cons _ _ => have := r.length; cases this
      subst e
      exact ⟨[w], rfl, rfl, Nat.le_refl _, .cons rw' .nil⟩
  | n :: ns, ds, vs, K, S, r, hl, rw' => by
    cases vs with
    | nil => cases hl
    | cons v vs =>
      cases ds with
      | nil => have := r.length; cases this
      | cons e ds =>
        simp only [RpL] at r
        obtain ⟨v1, r1, e1, h1, h2⟩ := r
        cases e1
        unfold putFd
        by_cases q : n = f
        · rw [if_pos q]
          refine ⟨w :: vs, ?_, by simpa using hl, by simp, .cons rw' h2⟩
          subst q
          show (if Str.ofString n = Str.ofString n then _ else _) = _
          rw [if_pos rfl]
          rfl
        · rw [if_neg q]
          obtain ⟨ws, a, b, c, d⟩ := putFd_zip (f := f) h2 (by simpa using hl) rw'
          refine ⟨v :: ws, ?_, by simpa using b, by simpa using c, .cons h1 d⟩
          show (if Str.ofString n = Str.ofString f then _ else (Str.ofString n, v) :: putF (Str.ofString f) w (zipF ns vs)) = _
          rw [if_neg fun z => q (ofString_inj z), a]
          rfl
theorem s_stf {x : Str} {f : String} {e : Expr} {p p2 pos : Pos} {c : EC} (hx : M.x = none) (hN : X.N[0]? = some x) (hv : Vis X.env.scope x) (hd : (x == ("__debug__" : Str)) = false) (hcd : (x == ("__classdict__" : Str)) = false)
    (hA : ∀ c, G.okA c f = true → AttOk X.K c f) (he : PE X e (tE X.K M (ev G c))) (hs : swapsWith e (some (.Attribute (.Name x p) (Str.ofString f) p2)) pos.line X.env = pure false) :
    PS X (.Assign [.Attribute (.Name x p) (Str.ofString f) p2] e pos) (tSt X.K M (ex G (.stf f c))) := by
  refine ps_imp (ps_fld (pe_var hN hv hd hcd) he hs) fun E σ H ⟨g, S, C, Γ, st, h⟩ => ?_
  simp only [ex] at h
  refine useOF st h fun y w S1 H1 sH sS st1 r1 q => ?_
  split at q
  · rename_i cn me ns ds e0
    have e0' : Γ[0]? = some (some (.slf cn me ns ds, 1)) := by
      cases Γ with
      | nil => cases e0
      | cons a Γ => exact e0
    split at q
    · rename_i hk
      obtain ⟨hok, hlen⟩ := hk
      obtain ⟨v, hc, hl⟩ := st1.gr.at_ e0'
      obtain ⟨fp, o⟩ := st1.own
      have oi := o.at_ 0 _ _ _ hc
      simp only [Own] at oi
      obtain ⟨ev1, ef, dx, vs, q1, l1, l2, r2⟩ := oi
      have att := hA cn hok
      refine ⟨v, st1.slot 0 _ _ _ hc hl, me, He.ga X.K cn, dx, _, ev1, q1, att.cl, att.no, ?_, ?_⟩
      · have : (zipF ns vs).length ≤ ns.length := by unfold zipF; rw [List.length_zip]; simp; omega
        omega
      · obtain ⟨ws, z1, z2, z3, z4⟩ := putFd_zip (f := f) r2 l1 r1
        rw [z1]
        refine nx_edit hx st1 q hc fun fi ow nd so => ?_
        simp only [Own] at ow ⊢
        obtain ⟨ev2, ef2, dx2, vs2, q2, _⟩ := ow
        exact ⟨⟨ev1, ef2, dx, ws, upd_same, z2, by omega, z4⟩, fun b hb => by rw [ef2] at hb; exact upd_off hb⟩
    · exact q.elim
  · exact q.elim
end
end Ev
/-! Ev, part Rb: own operators. -/
namespace Ev
open PySem PySem.Spec L2
section
variable {X : Cx} {CX : CXT} {k : Nat} {f : Addr} {fd : FuncData} {ps : List Str} {sp : Sp} {E : XK}
/-- a callee runs at a place below this body's -/
theorem run_below {A : Around} {pins : List (Addr × Obj)} {σ : L2.St} {H : Hp} {s : Shared} {Q : VK} {us : List Value} {vs : List V} (F : FnOk X.prog X.w X.K X.mg X.base CX k f fd ps sp) (hr : Room k A) (hA : A.frames = X.A.frames) (hb : Binds X.K fd ps []) (hx : PassesAt CX X σ E)
    (I : L2.Inv X pins σ H s) (r : Vals vs us) (h : sp vs H Q E) : wpAny (model X.prog X.w) A (call (.ref f) us) (EP X pins σ Q) X.xe s := by
  have hl : us.length = ps.length := by rw [← r.length]; exact F.len _ _ _ _ h
  have e0 : Env0 X.prog X.w X.K X.mg X.base A X.stack s H := by
    have e := I.env0
    exact ⟨by rw [hA]; exact e.frames, e.mod, e.bs, e.bsz, e.funs, e.frf, e.hok, e.bare⟩
  have hb2 := hb s us I.kIn (by rw [List.append_nil]; exact hl)
  rw [List.append_nil] at hb2
  refine wpAny_call (codeAny_mono (F.run A X.stack s H ⟨us, []⟩ us vs Q E hr e0 hb2 r h) fun res s' q => ?_)
  cases res with
  | error e => exact hx pins H s e s' I q
  | ok fl =>
    cases fl with
    | ret u => exact I.after q
    | next => exact False.elim q
    | brk => exact False.elim q
    | cont => exact False.elim q
theorem back_of {pins : List (Addr × Obj)} {σ : L2.St} {Q : VK} {v : Value} {s : Shared} (h : EP X pins σ Q v s) : PySem.W.CmpBack (EP X pins σ Q) v s := by
  obtain ⟨x, H', I, r, q⟩ := h
  cases v with
  | notImplemented => cases x <;> first | (obtain ⟨_, z⟩ := r; cases z; done) | (cases r; done)
  | _ => exact ⟨x, H', I, r, q⟩
end
theorem never {X : Cx} {σ : L2.St} : PassesAt (L2N.CX X.prog X.w) X σ fun _ _ _ => False := fun pins H s e s' I h => passN pins σ H s e s' I h
section
variable {X : Cx} {M : Md} {G : Glb}
theorem se_dneg {c : String} {i k : Nat} {φ : List D → Res (D × Nat)} {a : Expr} {ca : EC} {pos : Pos} (F : MtFact X.prog X.w X.K X.mg X.base k c "__neg__" φ) (hi : G.fns[i]? = some φ) (hr : Room k X.A) (tk : L2N.Takes X M.W) (ha : PE X a (tE X.K M (ev G ca))) :
    PE X (.UnaryOp .USub a pos) (tE X.K M (ev G (.mth c "__neg__" i ca []))) := by
  obtain ⟨f, fd, ps, cl, mt, hb, hF⟩ := F.is
  have hpl : plainM "__neg__" = false := by decide
  constructor
  intro pins s σ H Q I ⟨g, S, C, Γ, st, h⟩
  simp only [ev, hi, hpl, Bool.false_eq_true, if_false] at h
  refine PyProof.Rows.UnaryOp_ (thn (ha.run pins s σ H (fun v H1 => ∃ a dx fs, v = .ref a ∧ H1 a = some (.ins (He.ga X.K c) dx fs) ∧ spF X.K φ [v] H1 Q (WE M.W σ)) I (useE pmE st h fun c1 v S1 H1 sH sS st1 r1 h1 => ?_)) fun u s1 z => ?_)
  · by_cases ok : insOk c "__neg__" c1.1 = true
    · rw [if_pos ok] at h1
      obtain ⟨ns, ds, ed, hn⟩ := insOk_of ok
      have r2 := r1
      rw [ed] at r2
      obtain ⟨a, dx, vs, q1, q2, q3, q4⟩ := ins_of r2 st1.sub
      refine ⟨a, dx, _, q1, q2, ?_⟩
      have h2 : PO X.K M.W g S1 σ H1 C (φ [c1.1]) (QE X.K g S1 σ H1 C Q) := by
        simp only [evs, Res.bind_ok] at h1
        have e : dunM c "__neg__" ([] : List D) (φ [c1.1]) = φ [c1.1] := by unfold dunM; rw [if_neg (by decide)]; rfl
        rw [← e]; exact h1
      exact done_call st1.toStt (.cons r1 .nil) h2
    · rw [if_neg ok] at h1; exact h1.elim
  · obtain ⟨v, H1, I1, rv, a, dx, fs, q1, q2, q3⟩ := z
    subst q1
    obtain rfl : u = Value.ref a := rv
    obtain ⟨mA, J, _⟩ := ins_get I1.hok q2
    obtain ⟨od, J, _⟩ := J.look
    obtain ⟨m, hFr⟩ := I1.fr
    exact PySem.W.ksp_neg hFr I1.ok.mod.kin J mt.at_ mt.fn (run_self (E := WE M.W) (us := [.ref a]) (vs := [.ref a]) hF hr hb (L2N.passAt tk σ) I1 (.cons rfl .nil) q3)
theorem se_dbin {c m : String} {i k : Nat} {φ : List D → Res (D × Nat)} {a b : Expr} {ca cb : EC} {op : Operator} {pos : Pos} (F : MtFact X.prog X.w X.K X.mg X.base k c m φ) (hi : G.fns[i]? = some φ) (hr : Room k X.A) (tk : L2N.Takes X M.W) (hpl : plainM m = false) (hlen : m ≠ "__len__") (hop : PySem.dunder op.info.2 = Str.ofString m) (hsf : PySem.W.selfFirst X.K (He.ga X.K c) = true)
    (ha : PE X a (tE X.K M (ev G ca))) (hb' : PE X b (tE X.K M (ev G cb))) : PE X (.BinOp a op b pos) (tE X.K M (ev G (.mth c m i ca [cb]))) := by
  obtain ⟨f, fd, ps, cl, mt, hb, hF⟩ := F.is
  constructor
  intro pins s σ H Q I ⟨g, S, C, Γ, st, h⟩
  simp only [ev, evs, hi, hpl, Bool.false_eq_true, if_false] at h
  refine wpAny_BinOp (binT (R := fun x y H2 => ∃ p dx fs q dy gs, x = .ref p ∧ y = .ref q ∧ H2 p = some (.ins (He.ga X.K c) dx fs) ∧ H2 q = some (.ins (He.ga X.K c) dy gs) ∧ spF X.K φ [x, y] H2 Q (WE M.W σ)) ha hb' I (useE pmE st h fun c1 v S1 H1 sH sS st1 r1 h1 => ?_) fun v u s2 x y H2 I2 rx ry q => ?_)
  · by_cases ok : insOk c m c1.1 = true
    · rw [if_pos ok] at h1
      simp only [bind_assoc, Res.bind_ok] at h1
      refine useE pmE st1 h1 fun c2 w S2 H2 sH2 sS2 st2 r2 h2 => ?_
      unfold dunM at h2
      rw [if_neg hlen] at h2
      by_cases ok2 : insOk c m c2.1 = true
      · have e2 : ([c2].map (·.1)).all (insOk c m) = true := by simp [ok2]
        rw [if_pos e2] at h2
        obtain ⟨ns, ds, ed, hn⟩ := insOk_of ok
        obtain ⟨ns2, ds2, ed2, hn2⟩ := insOk_of ok2
        have ra := r1
        rw [ed] at ra
        have rb := r2
        rw [ed2] at rb
        obtain ⟨p, dx, vs, q1, q2, q3, q4⟩ := ins_of ra st1.sub
        obtain ⟨p2, dx2, vs2, t1, t2, t3, t4⟩ := ins_of rb st2.sub
        exact ⟨p, dx, _, p2, dx2, _, q1, t1, sH2 _ _ q2, t2, done_call st2.toStt (.cons (Rp.mono sS2 _ _ r1) (.cons r2 .nil)) h2⟩
      · have e2 : ([c2].map (·.1)).all (insOk c m) = false := by simp [ok2]
        rw [e2] at h2
        exact h2.elim
    · rw [if_neg ok] at h1; exact h1.elim
  · obtain ⟨p, dx, fs, p2, dy, gs, e1, e3, q2, t2, q3⟩ := q
    subst e1 e3
    obtain rfl : v = Value.ref p := rx
    obtain rfl : u = Value.ref p2 := ry
    obtain ⟨mA, J, _⟩ := ins_get I2.hok q2
    obtain ⟨mB, J', _⟩ := ins_get I2.hok t2
    obtain ⟨od, J, _⟩ := J.look
    obtain ⟨od', J', _⟩ := J'.look
    obtain ⟨mm, hFr⟩ := I2.fr
    exact PySem.W.binop_K hFr I2.ok.mod.kin J J'.type hsf (by rw [hop]; exact mt.at_) mt.fn (wpAny_mono (run_self (E := WE M.W) (us := [.ref p, .ref p2]) (vs := [.ref p, .ref p2]) hF hr hb (L2N.passAt tk σ) I2 (.cons rfl (.cons rfl .nil)) q3) (fun r s' z => back_of z) fun _ _ z => z)
/-- len of an instance with an own __len__ -/
theorem call_dlen {c : String} {k : Nat} {φ : List D → Res (D × Nat)} (F : MtFact X.prog X.w X.K X.mg X.base k c "__len__" φ) (hr : Room (k + 1) X.A) : CallR X (.builtin "len") fun xs H Q => ∃ a dx fs, xs = [.ref a] ∧ H a = some (.ins (He.ga X.K c) dx fs) ∧ spF X.K φ xs H (fun v H' => ∃ n, v = .int n ∧ 0 ≤ n ∧ n < 2 ^ 63 ∧ Q (.int n) H') (fun _ _ _ => False) := by
  obtain ⟨f, fd, ps, cl, mt, hb, hF⟩ := F.is
  intro pins s σ H xs us Q I r ⟨a, dx, fs, e1, e2, q⟩
  subst e1
  obtain ⟨u, eu, ru⟩ : ∃ u, us = [u] ∧ RelV (.ref a) u := by
    cases r with
    | cons p q => cases q; exact ⟨_, rfl, p⟩
  subst eu
  obtain rfl : u = Value.ref a := ru
  obtain ⟨mA, J, _⟩ := ins_get I.hok e2
  obtain ⟨od, J, _⟩ := J.look
  refine Calls.call_function_entry PySem.kind_len PySem.plain_len PySem.entry_len (PySem.args_len1 _) ?_
  unfold Builtin.«len»
  refine wpAny_bind (m := oneArg "len" _) (wpAny_pure ?_)
  refine wpAny_bind (m := callSpecial? (.ref a) (Str.ofString "__len__")) (PySem.W.special_fn I.kIn J mt.at_ (beq_iff_eq.mp mt.fn) (wpAny_mono (run_below (us := [.ref a]) (vs := [.ref a]) hF hr.in1 rfl hb never I (.cons rfl .nil) q) (fun res s' z => ?_) fun _ _ z => z))
  obtain ⟨v, H', I', rv, n, ev1, h0, h1, hq⟩ := z
  subst ev1
  obtain ⟨t, rfl⟩ := (show ∃ t, res = Value.int n t from rv)
  refine wpAny_bind (wpAny_holding (wpAny_pure ?_))
  refine wpAny_bind (wpAny_letGo ?_)
  show wpAny _ _ (if n < 0 then _ else _) _ _ _
  rw [if_neg (by omega)]
  show wpAny _ _ (if n ≥ 2 ^ 63 then _ else _) _ _ _
  rw [if_neg (by omega)]
  exact wpAny_bind (wpAny_mkInt (wpAny_pure ⟨_, rfl, ⟨.int n, H', I'.tok _, ⟨_, rfl⟩, hq⟩⟩))
theorem se_dlen {c : String} {i k : Nat} {φ : List D → Res (D × Nat)} {a : Expr} {ca : EC} {p pos : Pos} (F : MtFact X.prog X.w X.K X.mg X.base k c "__len__" φ) (hi : G.fns[i]? = some φ) (hr : Room (k + 1) X.A) (hg : Gl X "len") (hm : X.mg "len" = none) (ha : PE X a (tE X.K M (ev G ca)))
    (hst : starEach [a] X.env = (false, eval a X.env) :: starEach [] X.env) : PE X (.Call (.Name "len" p) [a] [] pos) (tE X.K M (ev G (.mth c "__len__" i ca []))) := by
  have hpl : plainM "__len__" = false := by decide
  refine pe_imp (pe_callB (call_dlen F hr) hg hm PySem.boot_len (pa_cons ha pa_nil hst) (by decide) (by decide) hst rfl) fun σ H Q ⟨g, S, C, Γ, st, h⟩ => ?_
  simp only [ev, hi, hpl, Bool.false_eq_true, if_false] at h
  refine useE pmE st h fun c1 v S1 H1 sH sS st1 r1 h1 => ?_
  by_cases ok : insOk c "__len__" c1.1 = true
  · rw [if_pos ok] at h1
    obtain ⟨ns, ds, ed, hn⟩ := insOk_of ok
    have r2 := r1
    rw [ed] at r2
    obtain ⟨b, dx, vs, q1, q2, q3, q4⟩ := ins_of r2 st1.sub
    subst q1
    refine ⟨b, dx, _, rfl, q2, S1, [c1.1], st1.sub, .cons r1 .nil, ?_⟩
    have h2 : PO X.K M.W g S1 σ H1 C (dunM c "__len__" [] (φ [c1.1])) (QE X.K g S1 σ H1 C Q) := h1
    unfold dunM at h2
    rw [if_pos rfl] at h2
    split at h2
    · rename_i n e
      split at h2
      · rename_i hn2
        rw [e]
        intro w S' H' fq nw
        have ew : w = .int n := rp_int nw.ow.zero.2
        subst ew
        exact ⟨n, rfl, hn2.1, hn2.2, h2 (.int n) S' H' nw.sH nw.sS (.of (st1.toStt.upS nw.sH nw.sS nw.sSH nw.fr) nw.ow.zero.2)⟩
      · exact h2.elim
    · exact h2.elim
  · rw [if_neg ok] at h1; exact h1.elim
end
/-! ### == and != of an instance with an own __eq__ -/
section
open PySem.W
variable {prog : Program} {w : World} {A : Around} {E : Value → Shared → Prop} {s : Shared} {K : PySem.W.Frag} {x C L f : Addr} {h₀ : Heap} {m : Str → Option Value} {ox : Obj} {od : Option Obj} {b tb : Value}
theorem ifBound_objNe {M : Model} {args : List Value} {Q : Option Value → Shared → Prop} (X : K.In s.heap) (I : PySem.W.InstAt s.heap x ox C od) (hs : PySem.W.findIn K (.ref C) "__ne__" = some (some (.builtin "object.__ne__")))
    (h : wpAny M A (call (.builtin "object.__ne__") (.ref x :: args)) (fun v => Q (some v)) E s) : wpAny M A (callSpecialIfBound? (.ref x) "__ne__" args) Q E s := by
  simp only [callSpecialIfBound?, bindSpecialIfBound?]
  refine wpAny_holding (wpAny_bind (wpAny_bind (wpAny_bind (I.type.here ((PySem.W.looks_findIn X hs).here ?_)))))
  refine wpAny_bind (wpAny_askSetting (wpAny_ite ?_))
  have fin : wpAny M A (call (.builtin "object.__ne__") ([.ref x] ++ args) >>= fun v => pure (some v)) Q E s := wpAny_bind (wpAny_mono h (fun v s' h' => wpAny_pure h') fun _ _ h' => h')
  split
  · exact wpAny_bind (wpAny_of_eq (PySem.F.cmp_object.ne.bind _) (wpAny_pure (by exact fin)))
  · exact wpAny_tryCatch (wpAny_bind (wpAny_of_eq (PySem.F.cmp_object.ne.bind _) (wpAny_pure (by exact fin))))
theorem entry_ne {Q : Fin → Shared → Prop} (hu : A.units < cLine) (X : K.In s.heap) (I : PySem.W.InstAt s.heap x ox C od) (hs : PySem.W.findIn K (.ref C) "__eq__" = some (some (.ref f))) (hf : PySem.W.isFn K (.ref f) = true)
    (h : wpAny (model prog w) A (call (.ref f) [.ref x, b]) (fun v s' => ∃ c, v = .bool c ∧ Q (.done (.ret (.bool (!c)))) s') E s) : wpAny (model prog w) A (Builtin.«object.__ne__» ⟨[.ref x, b], []⟩) Q E s := by
  unfold Builtin.«object.__ne__»
  repeat (first
    | with_reducible refine wpAny_cRoomFor hu ?_
    | (refine wpAny_bind (m := callSpecialIfBound? (.ref x) (Str.ofString "__eq__") [b])
        (PySem.W.ifBound_K X I hs hf (wpAny_mono h (fun r s' hr => by
          obtain ⟨c, rfl, hq⟩ := hr
          repeat (first | exact hq | exact wpAny_pure hq | exact wpAny_truthy_bool hq | (refine wpAny_bind (m := truthy (.bool _)) (wpAny_truthy_bool ?_)) | wp_step)) fun _ _ e => e)))
    | wp_step)
theorem ne_K {Q : Value → Shared → Prop} (hu : A.units + 1 < cLine) (F : PyProof.Rows.Fr h₀ L s.heap m) (X₀ : K.In h₀) (I : PySem.W.InstAt s.heap x ox C od) (hb : PySem.W.Looks (model prog w) s.heap (typeOf b) tb) (hn : PySem.W.notFirst K C tb = true)
    (hne : PySem.W.findIn K (.ref C) "__ne__" = some (some (.builtin "object.__ne__"))) (hm : PySem.W.mroIn K C (.type "object") = some true) (hs : PySem.W.findIn K (.ref C) "__eq__" = some (some (.ref f))) (hf : PySem.W.isFn K (.ref f) = true)
    (h : wpAny (model prog w) A.in1 (call (.ref f) [.ref x, b]) (fun v s' => ∃ c, v = .bool c ∧ Q (.bool (!c)) s') E s) : wpAny (model prog w) A (richCompare .NotEq (.ref x) b) Q E s := by
  have X := X₀.keeps F.keep
  have one : wpAny (model prog w) A (tryCompare (.ref x) "__ne__" b) (fun r s' => ∃ v, r = some v ∧ Q v s') E s := by
    unfold tryCompare
    refine wpAny_bind (ifBound_objNe X I hne (wpAny_call (codeAny_call_builtin PySem.F.cmp_object.ne.plain PySem.F.cmpEntry_ne (PySem.W.check_slot PySem.F.cmpKind_ne PySem.F.cmpSplit_ne (I.type.andThen (PySem.W.looks_mroIn X hm)) (PySem.F.cmpArgs_ne _ _)
      (entry_ne (A := A.in1) hu X I hs hf (wpAny_mono h (fun v s' hv => ?_) fun _ _ e => e))))))
    obtain ⟨c, rfl, hq⟩ := hv
    first | exact ⟨c, rfl, wpAny_pure ⟨_, rfl, hq⟩⟩ | exact ⟨c, rfl, wpAny_pure (wpAny_pure ⟨_, rfl, hq⟩)⟩
  unfold richCompare
  simp only [oneThing_ref]
  refine wpAny_holding (wpAny_bind (wpAny_cRoomFor (Nat.lt_of_succ_lt hu) ?_))
  refine wpAny_bind (I.type.here (wpAny_bind (hb.here ?_)))
  split
  · rename_i q
    have e : PySem.W.subIn K tb (.ref C) = some false := by
      rcases Bool.or_eq_true_iff.mp hn with e | e
      · rw [beq_iff_eq.mp e] at q; simp at q
      · exact beq_iff_eq.mp e
    refine wpAny_bind ((PySem.W.looks_subIn X e).here ?_)
    simp only [Bool.false_eq_true, if_false]
    refine wpAny_bind (wpAny_mono one (fun r s' z => ?_) fun _ _ e => e)
    obtain ⟨v, rfl, hq⟩ := z
    exact wpAny_pure hq
  · refine wpAny_bind (wpAny_pure ?_)
    simp only [Bool.false_eq_true, if_false]
    refine wpAny_bind (wpAny_mono one (fun r s' z => ?_) fun _ _ e => e)
    obtain ⟨v, rfl, hq⟩ := z
    exact wpAny_pure hq
end
/-- a class with own operators -/
structure OpsC (K : PySem.W.Frag) (G : Glb) (c : String) : Prop where
  sf : PySem.W.selfFirst K (He.ga K c) = true
  nf : ∀ d, knows G.cls d = true → PySem.W.notFirst K (He.ga K c) (tyv K d) = true
  ne : PySem.W.findIn K (.ref (He.ga K c)) "__ne__" = some (some (.builtin "object.__ne__"))
  mr : PySem.W.mroIn K (He.ga K c) (.type "object") = some true
section
variable {X : Cx} {M : Md} {G : Glb}
theorem ceq_ev {neg : Bool} {c : String} {i : Nat} {φ : List D → Res (D × Nat)} {ca cb : EC} {Γ : Env} (hi : G.fns[i]? = some φ) : ev G (.tst (.ceq neg c i ca cb)) Γ = (ev G ca Γ).bind fun x => (ev G cb Γ).bind fun y => if insOk c "__eq__" x.1 && knows G.cls y.1 then (φ [x.1, y.1]).bind fun r => (negB neg r).bind fun b => .ok (.bl b, 0) else .fail := by
  simp only [ev, ts, hi]
  cases ev G ca Γ with
  | ok x =>
    simp only [Res.bind_ok]
    cases ev G cb Γ with
    | ok y =>
      simp only [Res.bind_ok]
      split
      · cases φ [x.1, y.1] <;> rfl
      · rfl
    | exc c ns ds => rfl
    | fail => rfl
  | exc c ns ds => rfl
  | fail => rfl
theorem ceq_spF {neg : Bool} {g : Gh} {S H : Hp} {σ : L2.St} {C : CM} {Γ : Env} {φ : List D → Res (D × Nat)} {ds : List D} {vs : List V} {Q : VK} (st : Sit X.K M g S σ H C Γ) (r : RpL X.K S ds vs)
    (h : PO X.K M.W g S σ H C ((φ ds).bind fun r => (negB neg r).bind fun b => .ok (.bl b, 0)) (QE X.K g S σ H C Q)) : spF X.K φ vs H (fun v H' => ∃ t, v = .bl t ∧ Q (.bl (if neg then !t else t)) H') (WE M.W σ) := by
  refine done_call st.toStt r ?_
  cases e : φ ds with
  | ok d =>
    rw [e] at h
    obtain ⟨d, n⟩ := d
    cases d with
    | bl t =>
      intro v S' H' sH sS got
      have fr := st.free
      obtain ⟨S2, a, b, d⟩ := got.frz fr
      first
        | exact ⟨t, rp_bl b, h (.bl (if neg then !t else t)) S2 H' sH (sS.tr a) (.of (d) rbl)⟩
        | exact ⟨t, rp_bl b, h (.bl (if neg then !t else t)) S' H' sH sS (.of (got.stt fr) rbl)⟩
    | _ => exact h.elim
  | exc c ns es => rw [e] at h; exact h
  | fail => rw [e] at h; exact h.elim
theorem pc_ceq {neg : Bool} {c : String} {i k : Nat} {φ : List D → Res (D × Nat)} {a b : Expr} {ca cb : EC} (F : MtFact X.prog X.w X.K X.mg X.base k c "__eq__" φ) (hi : G.fns[i]? = some φ) (hr : Room (k + 1) X.A) (tk : L2N.Takes X M.W) (I : IsiOk X.K G) (hO : OpsC X.K G c) (hu : X.A.units + 65 < cLine)
    (ha : PE X a (tE X.K M (ev G ca))) (hb' : PE X b (tE X.K M (ev G cb))) : L2.PC X (if neg then .NotEq else .Eq) a b (tE X.K M (ev G (.tst (.ceq neg c i ca cb)))) := by
  obtain ⟨f, fd, ps, cl, mt, hb, hF⟩ := F.is
  refine ⟨?_⟩
  intro pins s σ H Q I0 ⟨g, S, C, Γ, st, h⟩
  rw [ceq_ev hi] at h
  refine binT (R := fun x y H2 => ∃ p dx fs d, x = .ref p ∧ H2 p = some (.ins (He.ga X.K c) dx fs) ∧ TyX X.K H2 y (tyv X.K d) ∧ knows G.cls d = true ∧ spF X.K φ [x, y] H2 (fun v H' => ∃ t, v = .bl t ∧ Q (.bl (if neg then !t else t)) H') (WE M.W σ)) ha hb' I0 (useE pmE st h fun c1 v S1 H1 sH sS st1 r1 h1 => ?_) fun v u s2 x y H2 I2 rx ry q => ?_
  · refine useE pmE st1 h1 fun c2 w S2 H2 sH2 sS2 st2 r2 h2 => ?_
    split at h2
    · rename_i ok
      obtain ⟨ok1, ok2⟩ := Bool.and_eq_true_iff.mp ok
      obtain ⟨ns, ds, ed, hn⟩ := insOk_of ok1
      have ra := r1
      rw [ed] at ra
      obtain ⟨p, dx, vs, q1, q2, q3, q4⟩ := ins_of ra st1.sub
      exact ⟨p, dx, _, c2.1, q1, sH2 _ _ q2, tyx_of I (View.of r2) st2.sub ok2, ok2, ceq_spF st2 (.cons (Rp.mono sS2 _ _ r1) (.cons r2 .nil)) h2⟩
    · exact h2.elim
  · obtain ⟨p, dx, fs, d, e1, q2, ty, kd, q3⟩ := q
    subst e1
    obtain rfl : v = Value.ref p := rx
    obtain ⟨mA, J, _⟩ := ins_get I2.hok q2
    obtain ⟨od, J, _⟩ := J.look
    obtain ⟨mm, hFr⟩ := I2.fr
    obtain ⟨P, kx, hP, _⟩ := kit_of I2 ry ty
    have lk := kx.ty (model X.prog X.w) s2.heap I2.kIn hP
    cases neg with
    | false =>
      refine PySem.W.cmp_K (op := .Eq) (by omega) hFr I2.ok.mod.kin J lk (hO.nf d kd) mt.at_ mt.fn (wpAny_mono (run_self (E := WE M.W) (us := [.ref p, u]) (vs := [.ref p, y]) (hF.mono (Nat.le_succ _)) hr hb (L2N.passAt tk σ) I2 (.cons rfl (.cons ry .nil)) q3) (fun r s' z => ?_) fun _ _ z => z)
      obtain ⟨v, H', I', rv, t, ev1, hq⟩ := z
      subst ev1
      obtain rfl : r = Value.bool t := rv
      exact ⟨.bl t, H', I', rfl, hq⟩
    | true =>
      refine ne_K (by omega) hFr I2.ok.mod.kin J lk (hO.nf d kd) hO.ne hO.mr mt.at_ mt.fn (wpAny_mono (run_below (us := [.ref p, u]) (vs := [.ref p, y]) hF hr.in1 rfl hb (L2N.passAt tk σ) I2 (.cons rfl (.cons ry .nil)) q3) (fun r s' z => ?_) fun _ _ z => z)
      obtain ⟨v, H', I', rv, t, ev1, hq⟩ := z
      subst ev1
      obtain rfl : r = Value.bool t := rv
      exact ⟨t, rfl, ⟨.bl (!t), H', I', rfl, hq⟩⟩
theorem ceq_nb {neg : Bool} {b : Expr} : behindInMarks (if neg then .NotEq else .Eq) b = false := nobehind _ (by cases neg <;> decide) (by cases neg <;> decide)
theorem st_pc {op : CmpOp} {a b : Expr} {t : TC} {pos : Pos} (h : L2.PC X op a b (tE X.K M (ev G (.tst t)))) (hb : behindInMarks op b = false) : PT X (.Compare a [op] [b] pos) (tT X.K M (ts G t)) := by
  refine pt_imp (pt_cmp h hb) fun σ H Q ⟨g, S, C, Γ, st, h⟩ => ?_
  have h : PO X.K M.W g S σ H C ((ts G t Γ).bind .ok) (QB X.K g S σ H C Q) := by cases q : ts G t Γ <;> rw [q] at h <;> exact h
  exact useB (R := fun x H1 => ∃ c, x = .bl c ∧ Q c H1) pmB st h fun b S1 H1 sH sS st1 h1 => ⟨b, rfl, h1 S1 H1 .rfl .rfl st1.toStt⟩
end
end Ev
/-! Ev, part Rc: owned lists lent; dicts' get; pop, insert. -/
namespace Ev
open PySem PySem.Spec L2
section
variable {K : PySem.W.Frag} {S S2 S3 H H2 : Hp}
/-- a tracked heap less some lists -/
def Less (S2 S3 : Hp) : Prop := ∀ a o, S2 a = some o → (∀ l, o ≠ .lst l) → S3 a = some o
mutual
theorem Rp.less (s : Less S2 S3) : ∀ (d : D) (v : V), noL d = true → Rp K S2 d v → Rp K S3 d v
  | .non, v, _, h => by simpa only [Rp] using h
  | .bl b, v, _, h => by simpa only [Rp] using h
  | .int i, v, _, h => by simpa only [Rp] using h
  | .str x, v, _, h => by simpa only [Rp] using h
  | .tup l, v, n, h => by
    simp only [noL] at n
    simp only [Rp] at h ⊢
    obtain ⟨a, vs, e, q, z, r⟩ := h
    exact ⟨a, vs, e, s _ _ q (fun _ z => nomatch z), z, RpL.less s l vs n r⟩
  | .rot l, v, n, h => by simp only [noL] at n; cases n
  | .lst l, v, n, h => by simp only [noL] at n; cases n
  | .ro l, v, n, h => by simp only [noL] at n; cases n
  | .ins c ns ds, v, n, h => by
    simp only [noL] at n
    simp only [Rp] at h ⊢
    obtain ⟨a, dx, vs, e, q, z, z2, r⟩ := h
    exact ⟨a, dx, vs, e, s _ _ q (fun _ z => nomatch z), z, z2, RpL.less s ds vs n r⟩
  | .dic false ks ds, v, n, h => by
    simp only [noL] at n
    simp only [Rp] at h ⊢
    obtain ⟨a, vs, kk, e, r, z, z2, q1, q2⟩ := h
    exact ⟨a, vs, kk, e, RpL.less s ds vs n r, z, z2, q1, s _ _ q2 (fun _ z => nomatch z)⟩
  | .dic true ks ds, v, n, h => by
    simp only [noL] at n
    simp only [Rp] at h ⊢
    obtain ⟨a, vs, kk, e, r, z, z2, q1, q2⟩ := h
    exact ⟨a, vs, kk, e, RpL.less s ds vs n r, z, z2, q1, s _ _ q2 (fun _ z => nomatch z)⟩
  | .exn _ _ _, v, _, h => by simp only [Rp]
  | .slf c b ns ds, v, n, h => by simp only [noL] at n; cases n
theorem RpL.less (s : Less S2 S3) : ∀ (ds : List D) (vs : List V), noLs ds = true → RpL K S2 ds vs → RpL K S3 ds vs
  | [], vs, _, h => by simpa only [RpL] using h
  | d :: ds, vs, n, h => by
    simp only [noLs, Bool.and_eq_true] at n
    simp only [RpL] at h ⊢
    obtain ⟨v, r, e, h1, h2⟩ := h
    exact ⟨v, r, e, Rp.less s d v n.1 h1, RpL.less s ds r n.2 h2⟩
end
theorem noLs_all : ∀ {ds : List D}, ds.all noL = true → noLs ds = true
  | [], _ => by simp only [noLs]
  | d :: ds, h => by
    rw [List.all_cons, Bool.and_eq_true] at h
    simp only [noLs, h.1, noLs_all h.2]
    rfl
theorem All3.impL {P P' : D → V → List Addr → Prop} : ∀ {ds vs fs}, All3 P ds vs fs → (∀ d v f, d ∈ ds → P d v f → P' d v f) → All3 P' ds vs fs
  | _, _, _, .nil, _ => .nil
  | _, _, _, .cons h r, k => .cons (k _ _ _ List.mem_cons_self h) (All3.impL r fun d v f m => k d v f (List.mem_cons_of_mem _ m))
theorem Own.less (s : Less S2 S3) : ∀ (n : Nat) (d : D) (v : V) (fp : List Addr), noLn n d = true → Own K S2 H n d v fp → Own K S3 H n d v fp := by
  intro n
  induction n with
  | zero =>
    intro d v fp hn h
    have h2 := h.zero
    rw [h2.1]
    exact .of0 (Rp.less s d v (by simpa only [noLn] using hn) h2.2)
  | succ n ih =>
    intro d v fp hn h
    cases d with
    | lst l =>
      simp only [noLn, List.all_eq_true] at hn
      simp only [Own] at h ⊢
      obtain ⟨a, vs, fps, e, q, z, r, ef⟩ := h
      exact ⟨a, vs, fps, e, q, z, r.impL fun d v f m h => ih d v f (hn d m) h, ef⟩
    | dic t ks ds =>
      simp only [noLn, noL] at hn
      cases t <;> simp only [Own] at h ⊢ <;>
      · obtain ⟨a, vs, kk, e, ef, r, z, z2, q1, q2⟩ := h
        exact ⟨a, vs, kk, e, ef, RpL.less s _ _ hn r, z, z2, q1, q2⟩
    | ins c ns ds =>
      simp only [noLn, noL] at hn
      simp only [Own] at h ⊢
      obtain ⟨a, dx, vs, e, ef, q, z, z2, r⟩ := h
      exact ⟨a, dx, vs, e, ef, q, z, z2, RpL.less s _ _ hn r⟩
    | slf c b ns ds => simp only [noLn, noL] at hn; cases hn
    | non => simp only [Own] at h ⊢; exact ⟨h.1, Rp.less s _ _ (by simpa only [noLn] using hn) h.2⟩
    | bl b => simp only [Own] at h ⊢; exact ⟨h.1, Rp.less s _ _ (by simpa only [noLn] using hn) h.2⟩
    | int b => simp only [Own] at h ⊢; exact ⟨h.1, Rp.less s _ _ (by simpa only [noLn] using hn) h.2⟩
    | str b => simp only [Own] at h ⊢; exact ⟨h.1, Rp.less s _ _ (by simpa only [noLn] using hn) h.2⟩
    | tup b => simp only [Own] at h ⊢; exact ⟨h.1, Rp.less s _ _ (by simpa only [noLn] using hn) h.2⟩
    | ro b => simp only [Own] at h ⊢; exact ⟨h.1, Rp.less s _ _ (by simpa only [noLn] using hn) h.2⟩
    | rot b => simp only [Own] at h ⊢; exact ⟨h.1, Rp.less s _ _ (by simpa only [noLn] using hn) h.2⟩
    | exn b _ _ => simp only [Own] at h ⊢; exact ⟨h.1, Rp.less s _ _ (by simpa only [noLn] using hn) h.2⟩
/-- the same thing owns the same objects later on -/
theorem Own.det (sH : Sub H H2) : ∀ (n : Nat) (d : D) (v : V) (fp fp2 : List Addr), Own K S H n d v fp → Own K S2 H2 n d v fp2 → fp = fp2 := by
  intro n
  induction n with
  | zero => intro d v fp fp2 h h2; rw [h.zero.1, h2.zero.1]
  | succ n ih =>
    intro d v fp fp2 h h2
    cases d with
    | lst l =>
      simp only [Own] at h h2
      obtain ⟨a, vs, fps, e, q, z, r, ef⟩ := h
      obtain ⟨a2, vs2, fps2, e2, q2, z2, r2, ef2⟩ := h2
      rw [e] at e2
      cases e2
      rw [sH _ _ q] at q2
      cases q2
      have key : ∀ {ds vs fs fs'}, All3 (Own K S H n) ds vs fs → All3 (Own K S2 H2 n) ds vs fs' → fs = fs' := by
        intro ds vs fs fs' a
        induction a generalizing fs' with
        | nil => intro b; cases b; rfl
        | cons h r ih2 => intro b; cases b with
          | cons h2 r2 => rw [ih _ _ _ _ h h2, ih2 r2]
      rw [ef, ef2, key r r2]
    | dic t ks ds =>
      cases t <;> simp only [Own] at h h2 <;>
      · obtain ⟨a, vs, kk, e, ef, _⟩ := h
        obtain ⟨a2, vs2, kk2, e2, ef2, _⟩ := h2
        rw [e] at e2
        cases e2
        rw [ef, ef2]
    | ins c ns ds =>
      simp only [Own] at h h2
      obtain ⟨a, dx, vs, e, ef, _⟩ := h
      obtain ⟨a2, dx2, vs2, e2, ef2, _⟩ := h2
      rw [e] at e2
      cases e2
      rw [ef, ef2]
    | slf c b ns ds =>
      simp only [Own] at h h2
      rw [h.2.1, h2.2.1]
    | non => simp only [Own] at h h2; rw [h.1, h2.1]
    | bl b => simp only [Own] at h h2; rw [h.1, h2.1]
    | int b => simp only [Own] at h h2; rw [h.1, h2.1]
    | str b => simp only [Own] at h h2; rw [h.1, h2.1]
    | tup b => simp only [Own] at h h2; rw [h.1, h2.1]
    | ro b => simp only [Own] at h h2; rw [h.1, h2.1]
    | rot b => simp only [Own] at h h2; rw [h.1, h2.1]
    | exn b _ _ => simp only [Own] at h h2; rw [h.1, h2.1]
/-- owned lists that are frozen -/
theorem Own.lists (sS : Sub S2 H) : ∀ (n : Nat) (d : D) (v : V) (fp : List Addr), lstN n d = true → Own K S H n d v fp → Rp K S2 d v → ∀ a ∈ fp, ∃ vs, S2 a = some (.lst vs) := by
  intro n
  induction n with
  | zero => intro d v fp _ h _ a ha; rw [h.zero.1] at ha; cases ha
  | succ n ih =>
    intro d v fp hn h r
    cases d with
    | lst l =>
      simp only [lstN, List.all_eq_true] at hn
      simp only [Own] at h
      simp only [Rp] at r
      obtain ⟨a, vs, fps, e, q, z, r1, ef⟩ := h
      obtain ⟨a2, vs2, e2, q2, z2, r2⟩ := r
      rw [e] at e2
      cases e2
      have q3 := sS _ _ q2
      rw [q] at q3
      cases q3
      have key : ∀ {ds vs fs}, (∀ d ∈ ds, lstN n d = true) → All3 (Own K S H n) ds vs fs → RpL K S2 ds vs → ∀ a ∈ fs.flatten, ∃ vs, S2 a = some (.lst vs) := by
        intro ds vs fs hd a3
        induction a3 with
        | nil => intro _ a ha; cases ha
        | cons h r ih2 =>
          intro rr a ha
          obtain ⟨v, vs', e, r1, r2⟩ := rr.cons_inv
          cases e
          rw [List.flatten_cons] at ha
          rcases List.mem_append.mp ha with ha | ha
          · exact ih _ _ _ (hd _ List.mem_cons_self) h r1 a ha
          · exact ih2 (fun d hh => hd d (List.mem_cons_of_mem _ hh)) r2 a ha
      intro b hb
      rw [ef] at hb
      rcases List.mem_cons.mp hb with hb | hb
      · rw [hb]; exact ⟨_, q2⟩
      · exact key hn r1 r2 b hb
    | dic t ks ds => simp only [lstN] at hn; cases hn
    | ins c ns ds => simp only [lstN] at hn; cases hn
    | slf c b ns ds => simp only [lstN] at hn; cases hn
    | non => simp only [Own] at h; rw [h.1]; intro a ha; cases ha
    | bl b => simp only [Own] at h; rw [h.1]; intro a ha; cases ha
    | int b => simp only [Own] at h; rw [h.1]; intro a ha; cases ha
    | str b => simp only [Own] at h; rw [h.1]; intro a ha; cases ha
    | tup b => simp only [Own] at h; rw [h.1]; intro a ha; cases ha
    | ro b => simp only [Own] at h; rw [h.1]; intro a ha; cases ha
    | rot b => simp only [Own] at h; rw [h.1]; intro a ha; cases ha
    | exn b _ _ => simp only [Own] at h; rw [h.1]; intro a ha; cases ha
end
section
variable {K : PySem.W.Frag} {g : Gh} {S S1 S2 H H2 : Hp} {σ : L2.St} {C : CM}
/-- what was lent comes back -/
theorem Stt.unlend (st : Stt K g S σ H C) {i n : Nat} {d : D} {v : V} (e : C i = some (d, n, v)) (hn : lstN n d = true) (s1 : Sub S S1) (h1 : Sub S1 H) (r1 : Rp K S1 d v) (s2 : Sub S1 S2) (sH : Sub H H2) :
    ∃ S3, Sub S S3 ∧ Less S2 S3 ∧ ∀ (j : Nat) (x : Option (D × Nat × V)), σ.length ≤ j → C j = none → (∀ d n v, x = some (d, n, v) → noLn n d = true) → Stt K g S2 σ H2 (setC (setC C i (some (d, 0, v))) j x) → Stt K g S3 σ H2 (setC C j x) := by
  classical
  obtain ⟨fp, o⟩ := st.own
  have lists := Own.lists h1 n d v (fp i) hn (o.at_ i _ _ _ e) r1
  refine ⟨fun a => if a ∈ fp i then none else S2 a, fun a u h => ?_, fun a u h hl => ?_, fun j x hj hc hx st2 => ?_⟩
  · show (if a ∈ fp i then none else S2 a) = some u
    rw [if_neg fun z => by rw [(o.out i a z).1] at h; cases h]
    exact s2 _ _ (s1 _ _ h)
  · show (if a ∈ fp i then none else S2 a) = some u
    rw [if_neg fun z => ?_]
    · exact h
    · obtain ⟨vs, q⟩ := lists a z
      rw [s2 _ _ q] at h
      cases h
      exact hl _ rfl
  · have ij : i ≠ j := fun z => by rw [← z, e] at hc; cases hc
    obtain ⟨fp2, o2⟩ := st2.own
    have sS : Sub S fun a => if a ∈ fp i then none else S2 a := fun a u h => by
      show (if a ∈ fp i then none else S2 a) = some u
      rw [if_neg fun z => by rw [(o.out i a z).1] at h; cases h]
      exact s2 _ _ (s1 _ _ h)
    have ls : Less S2 fun a => if a ∈ fp i then none else S2 a := fun a u h hl => by
      show (if a ∈ fp i then none else S2 a) = some u
      rw [if_neg fun z => ?_]
      · exact h
      · obtain ⟨vs, q⟩ := lists a z
        rw [s2 _ _ q] at h
        cases h
        exact hl _ rfl
    have same : ∀ k, k ≠ i → k ≠ j → fp k = fp2 k := fun k hk hkj => by
      cases ck : C k with
      | none =>
        rw [o.no k ck, o2.no k (by rw [setC_ne hkj, setC_ne hk, ck])]
      | some c =>
        obtain ⟨dk, nk, vk⟩ := c
        exact Own.det sH nk dk vk _ _ (o.at_ k _ _ _ ck) (o2.at_ k _ _ _ (by rw [setC_ne hkj, setC_ne hk, ck]))
    have apart : ∀ a, a ∈ fp2 j → a ∈ fp i → False := fun a h h' => by
      obtain ⟨vs, q⟩ := lists a h'
      have := (o2.out j a h).1
      rw [s2 _ _ q] at this
      cases this
    refine ⟨fun a u h => ?_, st2.pre, fun a h1 h2 => ?_, ⟨fun k => if k = j then fp2 j else fp k, fun k d' n' v' ek => ?_, fun k ek => ?_, fun k => ?_, fun k l a hk hl => ?_, fun k a hk => ?_, fun k a hk => ?_⟩, fun k d' n' v' ek hk => ?_, ?_⟩
    · have h : (if a ∈ fp i then none else S2 a) = some u := h
      split at h
      · cases h
      · exact st2.sub _ _ h
    · have h2 : (if a ∈ fp i then none else S2 a) ≠ none := h2
      split at h2
      · exact absurd rfl h2
      · rename_i hm
        rcases st2.lim a h1 h2 with z | ⟨l, z⟩
        · exact .inl z
        · refine .inr ⟨l, ?_⟩
          show (if a ∈ fp i then none else S2 a) = some (.tup l)
          rw [if_neg hm]; exact z
    · by_cases kj : k = j
      · subst kj
        rw [setC_same] at ek
        simp only [if_true]
        exact Own.less ls n' d' v' _ (hx _ _ _ ek) (o2.at_ k _ _ _ (by rw [setC_same]; exact ek))
      · rw [setC_ne kj] at ek
        simp only [kj, if_false]
        exact Own.mono sS n' d' v' _ (fun a ha u h => sH _ _ h) (o.at_ k _ _ _ ek)
    · by_cases kj : k = j
      · subst kj
        rw [setC_same] at ek
        simp only [if_true]
        exact o2.no k (by rw [setC_same]; exact ek)
      · rw [setC_ne kj] at ek
        simp only [kj, if_false]
        exact o.no k ek
    · show (if k = j then fp2 j else fp k).Nodup
      split
      · exact o2.nd j
      · exact o.nd k
    · by_cases kj : k = j
      · by_cases lj : l = j
        · rw [kj, lj]
        · simp only [kj, if_true] at hk
          simp only [lj, if_false] at hl
          by_cases li : l = i
          · rw [li] at hl; exact (apart a hk hl).elim
          · rw [same l li lj] at hl
            rw [kj]
            exact o2.dis j l a hk hl
      · simp only [kj, if_false] at hk
        by_cases lj : l = j
        · simp only [lj, if_true] at hl
          by_cases ki : k = i
          · rw [ki] at hk; exact (apart a hl hk).elim
          · rw [same k ki kj] at hk
            rw [lj]
            exact o2.dis k j a hk hl
        · simp only [lj, if_false] at hl
          exact o.dis k l a hk hl
    · by_cases kj : k = j
      · simp only [kj, if_true] at hk
        obtain ⟨q1, q2⟩ := o2.out j a hk
        refine ⟨?_, q2⟩
        show (if a ∈ fp i then none else S2 a) = none
        rw [q1]
        split <;> rfl
      · simp only [kj, if_false] at hk
        refine ⟨?_, (o.out k a hk).2⟩
        show (if a ∈ fp i then none else S2 a) = none
        by_cases ki : k = i
        · rw [ki] at hk; rw [if_pos hk]
        · rw [same k ki kj] at hk
          rw [(o2.out k a hk).1]
          split <;> rfl
    · by_cases kj : k = j
      · simp only [kj, if_true] at hk
        exact o2.inH j a hk
      · simp only [kj, if_false] at hk
        obtain ⟨u, hu⟩ := o.inH k a hk
        exact ⟨u, sH _ _ hu⟩
    · by_cases kj : k = j
      · omega
      · rw [setC_ne kj] at ek
        exact st.slot k d' n' v' ek hk
    · obtain ⟨b, hb⟩ := st.fin
      exact ⟨_, fin_set hb⟩
end
section
variable {X : Cx} {M : Md} {G : Glb}
theorem XD.less {S2 S3 : Hp} {dx : Option Addr} {ns : List String} {vs : List V} (s : Less S2 S3) (h : XD S2 dx ns vs) : XD S3 dx ns vs := by
  rcases h with h | ⟨d, e, h⟩
  · exact .inl h
  · exact .inr ⟨d, e, s _ _ h fun _ z => nomatch z⟩
theorem lent_ok {Γ Γ1 : Env} {i : Nat} (h : lentG Γ i = some Γ1) : ∃ d n, Γ[i]? = some (some (d, n)) ∧ lstN n d = true ∧ Γ1 = Γ.set i (some (d, 0)) := by
  unfold lentG at h
  split at h
  · rename_i d n e
    split at h
    · rename_i hn
      cases h
      exact ⟨d, n, e, hn, rfl⟩
    · cases h
  · cases h
theorem se_lend {e : Expr} {i : Nat} {c : EC} (hx : M.x = none) (he : PE X e (tE X.K M (ev G c))) : PE X e (tE X.K M (ev G (.lend i c))) := by
  refine pe_imp he fun σ H Q ⟨g, S, C, Γ, st, h⟩ => ?_
  simp only [ev] at h
  split at h
  · rename_i Γ1 e1
    obtain ⟨d, n, eg, hn, rfl⟩ := lent_ok e1
    obtain ⟨v, hc, hi⟩ := st.gr.at_ eg
    obtain ⟨S1, s1, r1, st1⟩ := st.toStt.freeze hc
    refine ⟨g, S1, _, _, ⟨st1, st.gr.setΓ, by rw [hx]; trivial⟩, ?_⟩
    cases er : ev G c (Γ.set i (some (d, 0))) with
    | ok cc =>
      rw [er] at h
      simp only [lendR] at h
      split at h
      · rename_i hl
        intro w S2 H2 sH sS got
        obtain ⟨S3, sS3, ls, k⟩ := st.toStt.unlend hc hn s1 st1.sub r1 sS sH
        refine h w S3 H2 sH sS3 fun j hj hcj => ?_
        have ij : j ≠ i := by omega
        refine k j _ hj hcj (fun d' n' v' z => by cases z; exact hl) (got j hj ?_)
        rw [setC_ne ij]; exact hcj
      · exact h.elim
    | exc cn ns ds =>
      rw [er] at h
      simp only [lendR] at h
      split at h
      · rename_i hl
        intro S2 H2 dx vs sH sS st2 hlen r xd
        obtain ⟨S3, sS3, ls, k⟩ := st.toStt.unlend hc hn s1 st1.sub r1 sS sH
        obtain ⟨j, hj, hcj⟩ := st.toStt.free
        have ij : j ≠ i := by omega
        have st3 := k j none hj hcj (fun d' n' v' z => nomatch z) (by rw [setC_self (by rw [setC_ne ij]; exact hcj)]; exact st2)
        rw [setC_self hcj] at st3
        exact h S3 H2 dx vs sH sS3 st3 hlen (RpL.less ls _ _ (noLs_all hl) r) (xd.less ls)
      · exact h.elim
    | fail => rw [er] at h; exact h.elim
  · exact h.elim
theorem lend_T {σ : L2.St} {H : Hp} {Q : Bool → Hp → Prop} {i : Nat} {t : TC} (hx : M.x = none) : tT X.K M (ts G (.lend i t)) σ H Q → tT X.K M (ts G t) σ H Q := fun ⟨g, S, C, Γ, st, h⟩ => by
  simp only [ts] at h
  split at h
  · rename_i Γ1 e1
    obtain ⟨d, n, eg, hn, rfl⟩ := lent_ok e1
    obtain ⟨v, hc, hi⟩ := st.gr.at_ eg
    obtain ⟨S1, s1, r1, st1⟩ := st.toStt.freeze hc
    refine ⟨g, S1, _, _, ⟨st1, st.gr.setΓ, by rw [hx]; trivial⟩, ?_⟩
    obtain ⟨j, hj, hcj⟩ := st.toStt.free
    have ij : j ≠ i := by omega
    cases er : ts G t (Γ.set i (some (d, 0))) with
    | ok cc =>
      rw [er] at h
      intro S2 H2 sH sS st2
      obtain ⟨S3, sS3, ls, k⟩ := st.toStt.unlend hc hn s1 st1.sub r1 sS sH
      have st3 := k j none hj hcj (fun d' n' v' z => nomatch z) (by rw [setC_self (by rw [setC_ne ij]; exact hcj)]; exact st2)
      rw [setC_self hcj] at st3
      exact h S3 H2 sH sS3 st3
    | exc cn ns ds =>
      rw [er] at h
      simp only [lendB] at h
      split at h
      · rename_i hl
        intro S2 H2 dx vs sH sS st2 hlen r xd
        obtain ⟨S3, sS3, ls, k⟩ := st.toStt.unlend hc hn s1 st1.sub r1 sS sH
        have st3 := k j none hj hcj (fun d' n' v' z => nomatch z) (by rw [setC_self (by rw [setC_ne ij]; exact hcj)]; exact st2)
        rw [setC_self hcj] at st3
        exact h S3 H2 dx vs sH sS3 st3 hlen (RpL.less ls _ _ (noLs_all hl) r) (xd.less ls)
      · exact h.elim
    | fail => rw [er] at h; exact h.elim
  · exact h.elim
theorem st_lend {e : Expr} {i : Nat} {t : TC} (hx : M.x = none) (he : PT X e (tT X.K M (ts G t))) : PT X e (tT X.K M (ts G (.lend i t))) := pt_imp he fun σ H Q => lend_T hx
end
end Ev
namespace Ev
open PySem PySem.Spec L2
section
variable {X : Cx} {M : Md} {G : Glb}
theorem tst_lend {i : Nat} {t : TC} : ev G (.lend i (.tst t)) = ev G (.tst (.lend i t)) := by
  funext Γ
  simp only [ev, ts]
  cases lentG Γ i with
  | none => rfl
  | some Γ1 =>
    dsimp only
    cases ts G t Γ1 with
    | ok b => simp [lendR, lendB, noLn, noL]
    | exc c ns ds =>
      simp only [Res.bind_exc, lendR, lendB]
      split <;> rfl
    | fail => rfl
theorem se_dnew {t : Bool} {pos : Pos} : PE X (.Dict [] [] pos) (tE X.K M (ev G (.dnew t))) := by
  cases t with
  | false =>
    refine pe_imp pe_dnewK fun σ H Q ⟨g, S, C, Γ, st, h⟩ => ?_
    simp only [ev] at h
    intro p hp
    refine Done.of (c := (.dic false [] [], 1)) st.toStt h _ S _ [p] ⟨subUpd hp, .rfl, st.sub.tr (subUpd hp), fun a x e => absurd e x, ?_, by simp, fun a z => ?_⟩
    · simp only [Own]
      exact ⟨p, [], [], rfl, rfl, .nil, rfl, by simp [cap], rfl, upd_same⟩
    · have e : a = p := by simpa using z
      subst e
      exact ⟨hp, none_of_sub st.sub hp⟩
  | true =>
    refine pe_imp pe_dnewT fun σ H Q ⟨g, S, C, Γ, st, h⟩ => ?_
    simp only [ev] at h
    intro p hp
    refine Done.of (c := (.dic true [] [], 1)) st.toStt h _ S _ [p] ⟨subUpd hp, .rfl, st.sub.tr (subUpd hp), fun a x e => absurd e x, ?_, by simp, fun a z => ?_⟩
    · simp only [Own]
      exact ⟨p, [], [], rfl, rfl, .nil, rfl, by simp [cap], rfl, upd_same⟩
    · have e : a = p := by simpa using z
      subst e
      exact ⟨hp, none_of_sub st.sub hp⟩
theorem isD_of {K : PySem.W.Frag} {S H : Hp} {t : Bool} {ks ds : List D} {v : V} (h : DicH K S H t ks ds v) : ∃ a, v = .ref a ∧ IsD H a := by
  obtain ⟨a, vs, e, _, _, _, q⟩ := h
  cases t with
  | false => obtain ⟨kk, _, q⟩ := q; exact ⟨a, e, .inl ⟨_, .of q⟩⟩
  | true => obtain ⟨kk, _, q⟩ := q; exact ⟨a, e, .inr ⟨_, .of q⟩⟩
theorem dget_ok {d x z : D} {c : D × Nat} (h : dgetD d x z = .ok c) : ∃ t ks vs, d = .dic t ks vs ∧ isKey t x = true ∧ c = ((dicLook t ks vs x).getD z, 0) := by
  unfold dgetD at h
  split at h
  · rename_i t ks vs
    split at h
    · rename_i hk
      cases h
      exact ⟨t, ks, vs, rfl, hk, rfl⟩
    · cases h
  · cases h
theorem nx_dgetD {d x z : D} : NX (dgetD d x z) := by
  unfold dgetD
  split
  · exact nx_ite nx_ok nx_fail
  · exact nx_fail
theorem isDic_of {d : D} (h : isDic d = true) : ∃ t ks vs, d = .dic t ks vs := by
  cases d with
  | dic t ks vs => exact ⟨t, ks, vs, rfl⟩
  | _ => cases h
theorem se_dget1 {o e : Expr} {b : BC} {k : EC} {apos cpos : Pos} (hu : X.A.units + 1 < cLine) (ho : PE X o (tV X.K M (vw G b))) (he : PE X e (tE X.K M (ev G k))) (m : M1 X o "get" apos e cpos) :
    PE X (.Call (.Attribute o "get" apos) [e] [] cpos) (tE X.K M (ev G (.dget b k []))) := by
  refine pe_imp (pe_dget1 hu ho he m) fun σ H Q ⟨g, S, C, Γ, st, h⟩ => ?_
  simp only [ev, evs, Res.bind_ok] at h
  refine useV pmE st h fun c v S1 H1 sH sS st1 v1 h1 => ?_
  split at h1
  · rename_i hk
    obtain ⟨t, ks, vs, ed⟩ := isDic_of hk
    obtain ⟨c, n⟩ := c
    have ed : c = .dic t ks vs := ed
    subst ed
    have dh := v1.dic st1.sub
    obtain ⟨a, ea, isd⟩ := isD_of dh
    refine ⟨a, ea, isd, useE pmE st1 h1 fun c2 v2 S2 H2 sH2 sS2 st2 r2 h2 => ?_⟩
    simp only [dgetF, dgetD] at h2
    split at h2
    · rename_i hi
      have dh2 := (v1.mono sH2 sS2).dic st2.sub
      obtain ⟨a2, oo, ea2, dg, hs, hl⟩ := dic_get dh2 hi (Rp.mono st2.sub _ _ r2)
      rw [ea] at ea2
      cases ea2
      refine ⟨oo, dg, h2 _ S2 H2 .rfl .rfl (.of st2.toStt ?_)⟩
      cases q : dicLook t ks vs c2.1 with
      | none =>
        rw [q] at hs
        have : oo = none := by simpa using hs
        rw [this]
        simp only [Option.getD_none, Rp]
      | some d =>
        obtain ⟨w, e1, e2⟩ := hl d q
        rw [e1]
        exact e2
    · exact h2.elim
  · exact h1.elim
theorem se_dget2 {o e f : Expr} {b : BC} {k z : EC} {apos cpos : Pos} (hu : X.A.units + 1 < cLine) (ho : PE X o (tV X.K M (vw G b))) (he : PE X e (tE X.K M (ev G k))) (hf : PE X f (tE X.K M (ev G z))) (m : M2 X o "get" apos e f cpos) :
    PE X (.Call (.Attribute o "get" apos) [e, f] [] cpos) (tE X.K M (ev G (.dget b k [z]))) := by
  refine pe_imp (pe_dget2 hu ho he hf m) fun σ H Q ⟨g, S, C, Γ, st, h⟩ => ?_
  simp only [ev] at h
  refine useV pmE st h fun c v S1 H1 sH sS st1 v1 h1 => ?_
  split at h1
  · rename_i hk
    obtain ⟨t, ks, vs, ed⟩ := isDic_of hk
    obtain ⟨c, n⟩ := c
    have ed : c = .dic t ks vs := ed
    subst ed
    have dh := v1.dic st1.sub
    obtain ⟨a, ea, isd⟩ := isD_of dh
    refine ⟨a, ea, isd, useE pmE st1 h1 fun c2 v2 S2 H2 sH2 sS2 st2 r2 h2 => ?_⟩
    have h2 : PO X.K M.W g S2 σ H2 C ((ev G z Γ).bind fun w => dgetF (.dic t ks vs, n) c2 [w]) (QE X.K g S2 σ H2 C Q) := by
      have e : ((ev G z Γ).bind fun w => dgetF (.dic t ks vs, n) c2 [w]) = (evs G [z] Γ).bind (dgetF (.dic t ks vs, n) c2) := by
        simp only [evs]
        cases ev G z Γ <;> rfl
      rw [e]; exact h2
    refine useE pmE st2 h2 fun c3 v3 S3 H3 sH3 sS3 st3 r3 h3 => ?_
    simp only [dgetF, dgetD] at h3
    split at h3
    · rename_i hi
      have dh2 := (v1.mono (sH2.tr sH3) (sS2.tr sS3)).dic st3.sub
      obtain ⟨a2, oo, ea2, dg, hs, hl⟩ := dic_get dh2 hi (Rp.mono (sS3.tr st3.sub) _ _ r2)
      rw [ea] at ea2
      cases ea2
      refine ⟨oo, dg, h3 _ S3 H3 .rfl .rfl (.of st3.toStt ?_)⟩
      cases q : dicLook t ks vs c2.1 with
      | none =>
        rw [q] at hs
        have : oo = none := by simpa using hs
        rw [this]
        exact r3
      | some d =>
        obtain ⟨w, e1, e2⟩ := hl d q
        rw [e1]
        exact e2
    · exact h3.elim
  · exact h1.elim
end
end Ev
/-! Ev, part Rd: calls with keywords. -/
namespace Ev
open PySem PySem.Spec L2
/-! ### the parameters' values out of a call's -/
def gOf {α : Type} (cl : Bool) (pm : List KA) (us mv ws : List α) : List α := if cl then us.take 1 ++ goK (us.drop 1 ++ ws) pm mv else goK (us ++ ws) pm mv
/-- the defaults that fill up: their places among the keyword-only ones -/
def KA.at_ : KA → Option Nat
  | .arg _ => none
  | .int j _ => some j
  | .unit j => some j
  | .non j => some j
  | .bl j _ => some j
def dfs (pm : List KA) : List D := pm.filterMap KA.dat
theorem vals_get {l : List V} {us : List Value} (r : Vals l us) (k : Nat) : Vals (l[k]?).toList (us[k]?).toList := by
  induction r generalizing k with
  | nil => simp; exact .nil
  | cons h t ih =>
    cases k with
    | zero => exact .cons h .nil
    | succ k => simpa using ih k
theorem goK_rel {l : List V} {us : List Value} (r : Vals l us) : ∀ {pm : List KA} {mv : List V} {ms : List Value}, Vals mv ms → Vals (goK l pm mv) (goK us pm ms)
  | [], _, _, _ => .nil
  | .arg k :: pm, _, _, h => (vals_get r k).append (goK_rel r h)
  | .int _ _ :: pm, _, _, .nil => goK_rel r (pm := pm) .nil
  | .unit _ :: pm, _, _, .nil => goK_rel r (pm := pm) .nil
  | .non _ :: pm, _, _, .nil => goK_rel r (pm := pm) .nil
  | .bl _ _ :: pm, _, _, .nil => goK_rel r (pm := pm) .nil
  | .int _ _ :: pm, _, _, .cons h t => .cons h (goK_rel r (pm := pm) t)
  | .unit _ :: pm, _, _, .cons h t => .cons h (goK_rel r (pm := pm) t)
  | .non _ :: pm, _, _, .cons h t => .cons h (goK_rel r (pm := pm) t)
  | .bl _ _ :: pm, _, _, .cons h t => .cons h (goK_rel r (pm := pm) t)
theorem gOf_rel {cl : Bool} {pm : List KA} {us mv ws : List V} {us' mv' ws' : List Value} (r1 : Vals us us') (r2 : Vals mv mv') (r3 : Vals ws ws') : Vals (gOf cl pm us mv ws) (gOf cl pm us' mv' ws') := by
  unfold gOf
  cases cl with
  | false => exact goK_rel (r1.append r3) r2
  | true => exact (r1.take 1).append (goK_rel ((r1.drop 1).append r3) r2)
section
variable {K : PySem.W.Frag} {S : Hp}
theorem rpl_get {l : List D} {us : List V} (r : RpL K S l us) (k : Nat) : RpL K S (l[k]?).toList (us[k]?).toList := by
  cases e : l[k]? with
  | none =>
    have : us[k]? = none := List.getElem?_eq_none (by rw [← r.length]; exact List.getElem?_eq_none_iff.mp e)
    rw [this]; exact .nil
  | some d =>
    obtain ⟨v, e2, h⟩ := r.get e
    rw [e2]; exact .cons h .nil
theorem goK_rp {l : List D} {us : List V} (r : RpL K S l us) : ∀ {pm : List KA} {mv : List D} {ms : List V}, RpL K S mv ms → RpL K S (goK l pm mv) (goK us pm ms)
  | [], _, _, _ => .nil
  | .arg k :: pm, _, _, h => (rpl_get r k).append (goK_rp r h)
  | .int _ _ :: pm, [], _, h => by rw [h.nil_inv]; exact goK_rp r (pm := pm) .nil
  | .unit _ :: pm, [], _, h => by rw [h.nil_inv]; exact goK_rp r (pm := pm) .nil
  | .non _ :: pm, [], _, h => by rw [h.nil_inv]; exact goK_rp r (pm := pm) .nil
  | .bl _ _ :: pm, [], _, h => by rw [h.nil_inv]; exact goK_rp r (pm := pm) .nil
  | .int _ _ :: pm, _ :: _, _, h => by obtain ⟨v, q, e, h1, h2⟩ := h.cons_inv; subst e; exact .cons h1 (goK_rp r (pm := pm) h2)
  | .unit _ :: pm, _ :: _, _, h => by obtain ⟨v, q, e, h1, h2⟩ := h.cons_inv; subst e; exact .cons h1 (goK_rp r (pm := pm) h2)
  | .non _ :: pm, _ :: _, _, h => by obtain ⟨v, q, e, h1, h2⟩ := h.cons_inv; subst e; exact .cons h1 (goK_rp r (pm := pm) h2)
  | .bl _ _ :: pm, _ :: _, _, h => by obtain ⟨v, q, e, h1, h2⟩ := h.cons_inv; subst e; exact .cons h1 (goK_rp r (pm := pm) h2)
end
/-! ### the calls -/
def tCallN2 (n m : Nat) (sp : Sp) (gV : List V → List V → List V) (E : L2.St → XK) (t tk : TA) : TE := fun σ H Q => t σ H fun vs H1 => tk σ H1 fun zs H2 => vs.length = n ∧ zs.length = m ∧ sp (gV vs zs) H2 Q (E σ)
def tMakeN2 (C : Addr) (n m : Nat) (sp : Sp) (gV : List V → List V → List V) (E : L2.St → XK) (t tk : TA) : TE := fun σ H Q => t σ H fun vs H1 => tk σ H1 fun zs H2 => vs.length = n ∧ zs.length = m ∧ ∀ x dx, H2 x = none → H2 dx = none → dx ≠ x →
  sp (gV (.ref x :: vs) zs) (upd (upd H2 dx (.own x)) x (.ins C dx [])) (fun v H3 => v = .non ∧ Q (.ref x) H3) (E σ)
section
variable {X : Cx} {CX : CXT} {k n : Nat} {f C : Addr} {fd : FuncData} {ps ks : List Str} {sp : Sp} {E : L2.St → XK} {x : Str} {p pos : Pos} {es : List Expr} {kws : List Keyword} {t tk : TA} {g : List Value → List Value → List Value} {gV : List V → List V → List V}
theorem run_fnN2 {pins : List (Addr × Obj)} {σ : L2.St} {H : Hp} {s : Shared} {Q : VK} {us ws : List Value} {vs zs : List V} (F : FnOk X.prog X.w X.K X.mg X.base CX k f fd ps sp) (hr : Room k X.A) (hb : KBn X.K fd ps n ks g gV) (hx : PassesAt CX X σ (E σ))
    (I : L2.Inv X pins σ H s) (r : Vals vs us) (rz : Vals zs ws) (l1 : vs.length = n) (l2 : zs.length = ks.length) (h : sp (gV vs zs) H Q (E σ)) : wpAny (model X.prog X.w) X.A (call (.ref f) us (ks.zip ws)) (EP X pins σ Q) X.xe s := by
  have r2 := hb.rel r rz
  refine wpAny_call (codeAny_mono (F.run X.A X.stack s H ⟨us, ks.zip ws⟩ (g us ws) (gV vs zs) Q (E σ) hr I.env0 (hb.to s us ws I.kIn (r.length.symm.trans l1) (rz.length.symm.trans l2)) r2 h) fun r s' hq => ?_)
  cases r with
  | error e => exact hx pins H s e s' I hq
  | ok fl =>
    cases fl with
    | ret u => exact I.after hq
    | next => exact False.elim hq
    | brk => exact False.elim hq
    | cont => exact False.elim hq
theorem run_makeN2 {pins : List (Addr × Obj)} {σ : L2.St} {H : Hp} {s : Shared} {Q : VK} {us ws : List Value} {vs zs : List V} (M : Mk X.K C f) (F : FnOk X.prog X.w X.K X.mg X.base CX k f fd ps sp) (hr : Room (k + 1) X.A) (hb : KBn X.K fd ps (n + 1) ks g gV) (hx : PassesAt CX X σ (E σ))
    (I : L2.Inv X pins σ H s) (r : Vals vs us) (rz : Vals zs ws) (l1 : vs.length = n) (l2 : zs.length = ks.length)
    (h : ∀ x dx, H x = none → H dx = none → dx ≠ x → sp (gV (.ref x :: vs) zs) (upd (upd H dx (.own x)) x (.ins C dx [])) (fun v H2 => v = .non ∧ Q (.ref x) H2) (E σ)) :
    wpAny (model X.prog X.w) X.A (call (.ref C) us (ks.zip ws)) (EP X pins σ Q) X.xe s := by
  have hq := h (s.heap.objs.size + 1) s.heap.objs.size (I.hok.fresh (Nat.le_succ _)) (I.hok.fresh (Nat.le_refl _)) (Nat.ne_of_lt (Nat.lt_succ_self _))
  have I2 := Inv.made (C := C) I
  have r1 : Vals (V.ref (s.heap.objs.size + 1) :: vs) (Value.ref (s.heap.objs.size + 1) :: us) := .cons rfl r
  have r2 := hb.rel r1 rz
  have n1 : (Value.ref (s.heap.objs.size + 1) :: us).length = n + 1 := by
    rw [List.length_cons, ← r.length, l1]
  refine wpAny_call (make_map (f := f) I.kIn M.makes M.init (beq_iff_eq.mp M.fn) (codeAny_mono (F.run _ X.stack _ _ ⟨Value.ref (s.heap.objs.size + 1) :: us, ks.zip ws⟩ (g (Value.ref (s.heap.objs.size + 1) :: us) ws) _ _ (E σ) (hr.make C us (ks.zip ws))
    (I2.env0.make C us (ks.zip ws)) (hb.to _ (Value.ref (s.heap.objs.size + 1) :: us) ws I2.kIn n1 (rz.length.symm.trans l2)) r2 hq) fun r s' hq' => ?_))
  cases r with
  | error e => exact hx pins _ _ e s' I2 hq'
  | ok fl =>
    cases fl with
    | ret u =>
      obtain ⟨v, H', I3, rv, ev, q3⟩ := I2.after hq'
      subst ev
      exact ⟨rv, ⟨V.ref (s.heap.objs.size + 1), H', I3, rfl, q3⟩⟩
    | next => exact False.elim hq'
    | brk => exact False.elim hq'
    | cont => exact False.elim hq'
/-- what is seen of a call's text -/
structure KwT (X : Cx) (es : List Expr) (kws : List Keyword) (pos : Pos) (ks : List Str) : Prop where
  all : (backToKw pos (keywordEach kws X.env)).all (·.1.isSome) = true
  ks : (backToKw pos (keywordEach kws X.env)).filterMap (·.1) = ks
  pl : ((backTo pos (starEach es X.env)).any (·.1) || (backToKw pos (keywordEach kws X.env)).any (·.1.isNone)) = false
  hd : ∀ e r, es = e :: r → starEach (e :: r) X.env = (false, eval e X.env) :: starEach r X.env
theorem pe_callN2 {e : Expr} (F : FnOk X.prog X.w X.K X.mg X.base CX k f fd ps sp) (hr : Room k X.A) (hg : Gl X x) (hm : X.mg x = some (.ref f)) (hk : PySem.W.keepIn X.K (.ref f) = true) (hb : KBn X.K fd ps n ks g gV) (hx : ∀ σ, PassesAt CX X σ (E σ))
    (ha : PA X (e :: es) t) (hkw : PK X kws tk) (T : KwT X (e :: es) kws pos ks) (hdb : (x == ("__debug__" : Str)) = false) : PE X (.Call (.Name x p) (e :: es) kws pos) (tCallN2 n ks.length sp gV E t tk) := by
  refine ⟨fun pins s σ H Q I h => ?_⟩
  refine wpAny_Call_Name_kw (ld_glob I hg hm ?_ hdb)
  refine PySem.W.callWith_KW (h₀ := X.base) I.ok.mod.kin hk T.all (thn (ha.run pos pins s σ H _ I h) fun us s1 ⟨vs, H1, I1, r, q⟩ => ?_) T.pl (T.hd _ _ rfl)
  refine thn (hkw.run pos pins s1 σ H1 _ I1 q) fun ws s2 ⟨zs, H2, I2, rz, l1, l2, q2⟩ => ⟨I2.kIn, ?_⟩
  rw [T.ks]
  exact run_fnN2 F hr hb (hx σ) I2 r rz l1 l2 q2
theorem pe_callN20 (F : FnOk X.prog X.w X.K X.mg X.base CX k f fd ps sp) (hr : Room k X.A) (hg : Gl X x) (hm : X.mg x = some (.ref f)) (hk : PySem.W.keepIn X.K (.ref f) = true) (hb : KBn X.K fd ps n ks g gV) (hx : ∀ σ, PassesAt CX X σ (E σ))
    (hkw : PK X kws tk) (T : KwT X [] kws pos ks) (hdb : (x == ("__debug__" : Str)) = false) : PE X (.Call (.Name x p) [] kws pos) (tCallN2 n ks.length sp gV E tNil tk) := by
  refine ⟨fun pins s σ H Q I h => ?_⟩
  refine wpAny_Call_Name_kw (ld_glob I hg hm ?_ hdb)
  refine PySem.W.callWith_KW0 (h₀ := X.base) I.ok.mod.kin hk T.all ?_ T.pl
  refine thn (hkw.run pos pins s σ H _ I h) fun ws s2 ⟨zs, H2, I2, rz, l1, l2, q2⟩ => ⟨I2.kIn, ?_⟩
  rw [T.ks]
  exact run_fnN2 (us := []) (vs := []) F hr hb (hx σ) I2 .nil rz l1 l2 q2
theorem pe_makeN2 {e : Expr} (M : Mk X.K C f) (F : FnOk X.prog X.w X.K X.mg X.base CX k f fd ps sp) (hr : Room (k + 1) X.A) (hg : Gl X x) (hm : X.mg x = some (.ref C)) (hb : KBn X.K fd ps (n + 1) ks g gV) (hx : ∀ σ, PassesAt CX X σ (E σ))
    (ha : PA X (e :: es) t) (hkw : PK X kws tk) (T : KwT X (e :: es) kws pos ks) (hdb : (x == ("__debug__" : Str)) = false) : PE X (.Call (.Name x p) (e :: es) kws pos) (tMakeN2 C n ks.length sp gV E t tk) := by
  refine ⟨fun pins s σ H Q I h => ?_⟩
  refine wpAny_Call_Name_kw (ld_glob I hg hm ?_ hdb)
  refine PySem.W.callWith_KW (h₀ := X.base) I.ok.mod.kin M.kp T.all (thn (ha.run pos pins s σ H _ I h) fun us s1 ⟨vs, H1, I1, r, q⟩ => ?_) T.pl (T.hd _ _ rfl)
  refine thn (hkw.run pos pins s1 σ H1 _ I1 q) fun ws s2 ⟨zs, H2, I2, rz, l1, l2, q2⟩ => ⟨I2.kIn, ?_⟩
  rw [T.ks]
  exact run_makeN2 M F hr hb (hx σ) I2 r rz l1 l2 q2
theorem pe_makeN20 (M : Mk X.K C f) (F : FnOk X.prog X.w X.K X.mg X.base CX k f fd ps sp) (hr : Room (k + 1) X.A) (hg : Gl X x) (hm : X.mg x = some (.ref C)) (hb : KBn X.K fd ps (n + 1) ks g gV) (hx : ∀ σ, PassesAt CX X σ (E σ))
    (hkw : PK X kws tk) (T : KwT X [] kws pos ks) (hdb : (x == ("__debug__" : Str)) = false) : PE X (.Call (.Name x p) [] kws pos) (tMakeN2 C n ks.length sp gV E tNil tk) := by
  refine ⟨fun pins s σ H Q I h => ?_⟩
  refine wpAny_Call_Name_kw (ld_glob I hg hm ?_ hdb)
  refine PySem.W.callWith_KW0 (h₀ := X.base) I.ok.mod.kin M.kp T.all ?_ T.pl
  refine thn (hkw.run pos pins s σ H _ I h) fun ws s2 ⟨zs, H2, I2, rz, l1, l2, q2⟩ => ⟨I2.kIn, ?_⟩
  rw [T.ks]
  exact run_makeN2 (us := []) (vs := []) M F hr hb (hx σ) I2 .nil rz l1 l2 q2
end
/-! ### the readings -/
theorem sk_nil {X : Cx} {M : Md} {G : Glb} : PK X [] (tL X.K M (evs G [])) := ⟨fun pos pins s σ H Q I ⟨g, S, C, Γ, st, h⟩ => pk_nil.run pos pins s σ H Q I (h [] S H .rfl .rfl st.toStt .nil)⟩
theorem sk_cons {X : Cx} {M : Md} {G : Glb} {nm : Option Str} {e : Expr} {kpos : Pos} {kws : List Keyword} {c : EC} {cs : List EC} (h1 : PE X e (tE X.K M (ev G c))) (h2 : PK X kws (tL X.K M (evs G cs))) : PK X (⟨nm, e, kpos⟩ :: kws) (tL X.K M (evs G (c :: cs))) := by
  refine ⟨fun pos pins s σ H Q I ⟨g, S, C, Γ, st, h⟩ => (pk_cons h1 h2).run pos pins s σ H Q I ?_⟩
  simp only [evs] at h
  refine useE pmL st h fun c1 v S1 H1 sH sS st1 r1 h1 => useL pmL st1 h1 fun ds ws S2 H2 sH2 sS2 st2 r2 h2 => ?_
  exact h2 (v :: ws) S2 H2 .rfl .rfl st2.toStt (.cons (Rp.mono sS2 _ _ r1) r2)
/-- a def that is called by a way with keywords -/
structure KfFact (P : Program) (w : World) (K : PySem.W.Frag) (mg : Str → Option Value) (base : Heap) (k : Nat) (x : String) (n : Nat) (ks : List Str) (ψ : List D → Res (D × Nat)) : Prop where
  is : ∃ f fd ps g gV φ, mg x = some (.ref f) ∧ PySem.W.keepIn K (.ref f) = true ∧ KBn K fd ps n ks g gV ∧ (∀ S ds zs vs ws, RpL K S ds vs → RpL K S zs ws → vs.length = n → ws.length = ks.length → ∃ l, RpL K S l (gV vs ws) ∧ ψ (ds ++ zs) = φ l) ∧ FnOk P w K mg base (L2N.CX P w) k f fd ps (spF K φ)
structure KmFact (P : Program) (w : World) (K : PySem.W.Frag) (mg : Str → Option Value) (base : Heap) (k : Nat) (c : String) (n : Nat) (ks : List Str) (ψ : List D → Res (D × Nat)) : Prop where
  is : ∃ f fd ps g gV φ, Mk K (He.ga K c) f ∧ mg c = some (.ref (He.ga K c)) ∧ KBn K fd ps (n + 1) ks g gV ∧ (∀ S a ds zs vs ws, RpL K S ds vs → RpL K S zs ws → vs.length = n → ws.length = ks.length → ∃ l vl, gV (.ref a :: vs) ws = .ref a :: vl ∧ RpL K S l vl ∧ ψ (ds ++ zs) = φ l) ∧ (∀ l r, φ l = .ok r → r.2 = 0) ∧ FnOk P w K mg base (L2N.CX P w) k f fd ps (spI K c φ)
section
variable {X : Cx} {M : Md} {G : Glb}
theorem kcall_read {x : String} {i n : Nat} {ks : List Str} {ψ φ : List D → Res (D × Nat)} {cs zs : List EC} {gV : List V → List V → List V} {σ : L2.St} {H : Hp} {Q : VK} (hi : G.fns[i]? = some ψ) (hn : cs.length = n) (hz : zs.length = ks.length)
    (hg : ∀ S ds zs vs ws, RpL X.K S ds vs → RpL X.K S zs ws → vs.length = n → ws.length = ks.length → ∃ l, RpL X.K S l (gV vs ws) ∧ ψ (ds ++ zs) = φ l) (h : tE X.K M (ev G (.kcall i cs zs)) σ H Q) : tCallN2 n ks.length (spF X.K φ) gV (WE M.W) (tL X.K M (evs G cs)) (tL X.K M (evs G zs)) σ H Q := by
  obtain ⟨g, S, C, Γ, st, h⟩ := h
  simp only [ev, hi] at h
  have e1 : (evs G cs Γ).bind (fun ds => (evs G zs Γ).bind fun zs => ψ (ds.map (·.1) ++ zs.map (·.1))) = (evs G cs Γ).bind (fun ds => if ds.length = n then (evs G zs Γ).bind fun zs => if zs.length = ks.length then ψ (ds.map (·.1) ++ zs.map (·.1)) else .fail else .fail) := by
    cases q : evs G cs Γ with
    | ok ds =>
      simp only [Res.bind_ok]
      rw [if_pos (by rw [evs_len cs Γ ds q, hn])]
      cases q2 : evs G zs Γ with
      | ok es =>
        simp only [Res.bind_ok]
        rw [if_pos (by rw [evs_len zs Γ es q2, hz])]
      | exc c ns ds => rfl
      | fail => rfl
    | exc c ns ds => rfl
    | fail => rfl
  rw [e1] at h
  refine useL pmE st h fun ds1 vs S1 H1 sH sS st1 r1 h1 => ?_
  split at h1
  · rename_i l1
    refine useL pmE st1 h1 fun ds2 ws S2 H2 sH2 sS2 st2 r2 h2 => ?_
    split at h2
    · rename_i l2
      have r1' := RpL.mono sS2 _ _ r1
      have lv : vs.length = n := by rw [← r1.length, List.length_map, l1]
      have lw : ws.length = ks.length := by rw [← r2.length, List.length_map, l2]
      obtain ⟨l, rl, el⟩ := hg S2 _ _ _ _ r1' r2 lv lw
      refine ⟨lv, lw, ?_⟩
      rw [el] at h2
      exact done_call st2.toStt rl h2
    · exact h2.elim
  · exact h1.elim
theorem kmake_read {c : String} {i n : Nat} {ks : List Str} {ψ φ : List D → Res (D × Nat)} {cs zs : List EC} {gV : List V → List V → List V} {σ : L2.St} {H : Hp} {Q : VK} (hi : G.fns[i]? = some ψ) (hn : cs.length = n) (hz : zs.length = ks.length)
    (hg : ∀ S a ds zs vs ws, RpL X.K S ds vs → RpL X.K S zs ws → vs.length = n → ws.length = ks.length → ∃ l vl, gV (.ref a :: vs) ws = .ref a :: vl ∧ RpL X.K S l vl ∧ ψ (ds ++ zs) = φ l) (h0 : ∀ l r, φ l = .ok r → r.2 = 0)
    (h : tE X.K M (ev G (.kcall i cs zs)) σ H Q) : tMakeN2 (He.ga X.K c) n ks.length (spI X.K c φ) gV (WE M.W) (tL X.K M (evs G cs)) (tL X.K M (evs G zs)) σ H Q := by
  obtain ⟨g, S, C, Γ, st, h⟩ := h
  simp only [ev, hi] at h
  have e1 : (evs G cs Γ).bind (fun ds => (evs G zs Γ).bind fun zs => ψ (ds.map (·.1) ++ zs.map (·.1))) = (evs G cs Γ).bind (fun ds => if ds.length = n then (evs G zs Γ).bind fun zs => if zs.length = ks.length then ψ (ds.map (·.1) ++ zs.map (·.1)) else .fail else .fail) := by
    cases q : evs G cs Γ with
    | ok ds =>
      simp only [Res.bind_ok]
      rw [if_pos (by rw [evs_len cs Γ ds q, hn])]
      cases q2 : evs G zs Γ with
      | ok es =>
        simp only [Res.bind_ok]
        rw [if_pos (by rw [evs_len zs Γ es q2, hz])]
      | exc c ns ds => rfl
      | fail => rfl
    | exc c ns ds => rfl
    | fail => rfl
  rw [e1] at h
  refine useL pmE st h fun ds1 vs S1 H1 sH sS st1 r1 h1 => ?_
  split at h1
  · rename_i l1
    refine useL pmE st1 h1 fun ds2 ws S2 H2 sH2 sS2 st2 r2 h2 => ?_
    split at h2
    · rename_i l2
      have r1' := RpL.mono sS2 _ _ r1
      have lv : vs.length = n := by rw [← r1.length, List.length_map, l1]
      have lw : ws.length = ks.length := by rw [← r2.length, List.length_map, l2]
      refine ⟨lv, lw, fun x dx hx hdx ne => ?_⟩
      obtain ⟨l, vl, eg, rl, el⟩ := hg S2 x _ _ _ _ r1' r2 lv lw
      rw [eg]
      rw [el] at h2
      refine ⟨S2, l, H2, x, dx, vl, rfl, rfl, hx, hdx, ne, st2.sub, rl, ?_⟩
      cases eo : φ l with
      | ok r =>
        rw [eo] at h2
        obtain ⟨d, m⟩ := r
        have e0 : m = 0 := h0 _ _ eo
        subst e0
        exact fun S' H' sH' sS' sSH fr rp => ⟨rfl, h2 (.ref x) S' H' sH' sS' (.of (st2.toStt.upS sH' sS' sSH fr) rp)⟩
      | exc cn ns es' =>
        rw [eo] at h2
        exact fun S' H' dx ws sH' sS' sSH fr hl r xd => h2 S' H' dx ws sH' sS' (st2.toStt.upS sH' sS' sSH fr) hl r xd
      | fail => rw [eo] at h2; exact h2.elim
    · exact h2.elim
  · exact h1.elim
end
/-- a def that is called where an exception is handled -/
structure HotFact (P : Program) (w : World) (K : PySem.W.Frag) (mg : Str → Option Value) (base : Heap) (k : Nat) (x : String) (ψ : List D → Res (D × Nat)) : Prop where
  is : ∃ f fd ps, mg x = some (.ref f) ∧ PySem.W.keepIn K (.ref f) = true ∧ Binds K fd ps [] ∧ L2H.FnH P w K mg base (L2N.CX P w) k f fd ps (spF K ψ)
theorem FnH.mono {P : Program} {w : World} {K : PySem.W.Frag} {mg : Str → Option Value} {base : Heap} {CX : CXT} {j k : Nat} {f : Addr} {fd : FuncData} {ps : List Str} {sp : Sp} (F : L2H.FnH P w K mg base CX j f fd ps sp) (h : j ≤ k) : L2H.FnH P w K mg base CX k f fd ps sp :=
  ⟨F.len, fun A outer s H args us vs Q E p hr => F.run A outer s H args us vs Q E p (hr.mono h)⟩
theorem HotFact.mono {P : Program} {w : World} {K : PySem.W.Frag} {mg : Str → Option Value} {base : Heap} {j k : Nat} {x : String} {ψ : List D → Res (D × Nat)} (F : HotFact P w K mg base j x ψ) (h : j ≤ k) : HotFact P w K mg base k x ψ := by
  obtain ⟨f, fd, ps, a, b, c, d⟩ := F.is
  exact ⟨f, fd, ps, a, b, c, FnH.mono d h⟩
section
variable {X : Cx} {M : Md} {G : Glb}
theorem se_callH {x : String} {i k : Nat} {ψ : List D → Res (D × Nat)} {e : Expr} {es : List Expr} {cs : List EC} {p pos : Pos} (F : HotFact X.prog X.w X.K X.mg X.base k x ψ) (hi : G.fns[i]? = some ψ) (hr : L2H.RoomH k X.A) (hc : L2H.HotC X) (tk : L2N.Takes X M.W) (hg : Gl X x) (ha : PA X (e :: es) (tL X.K M (evs G cs)))
    (hdb : ((x : Str) == ("__debug__" : Str)) = false) (he : starEach (e :: es) X.env = (false, eval e X.env) :: starEach es X.env) (hpl : (backTo pos (starEach es X.env)).any (·.1) = false) : PE X (.Call (.Name x p) (e :: es) [] pos) (tE X.K M (ev G (.call i cs))) := by
  obtain ⟨f, fd, ps, hm, hk, hb, hF⟩ := F.is
  refine pe_imp (L2H.pe_callH (E := WE M.W) hF hr hc hg hm hk hb (fun σ => L2N.passAt tk σ) ha hdb he hpl) fun σ H Q ⟨g, S, C, Γ, st, h⟩ => ?_
  simp only [ev, hi] at h
  refine useL pmE st h fun ds1 vs S1 H1 sH sS st1 r1 h1 => ?_
  refine ⟨S1, ds1.map (·.1), st1.sub, r1, ?_⟩
  cases eo : ψ (ds1.map (·.1)) with
  | ok c => rw [eo] at h1; exact Done.of st1.toStt h1
  | exc c ns es' =>
    rw [eo] at h1
    exact fun S' H' dx ws sH' sS' sSH fr hl r xd => h1 S' H' dx ws sH' sS' (st1.toStt.upS sH' sS' sSH fr) hl r xd
  | fail => rw [eo] at h1; exact h1.elim
end
end Ev
/-! Ev, part S: a code is checked against the text. -/
namespace Ev
open PySem PySem.Spec L2
structure Tab where
  fns : List Ent := []
  xmk : List (String × List String) := []
  own : List String := []
  ops : List String := []
structure Cfg where
  N : List Str
  nm : List (Str × NameKind)
  st : List (Str × NameKind)
  hot : Bool
  xv : Option Nat
  tb : Tab
def nStar : Expr → Bool
  | .Starred _ _ => false
  | _ => true
def okName (x : Str) : Bool := !(x == ("__debug__" : Str)) && !(x == ("__classdict__" : Str))
def Cfg.loc (cx : Cfg) (i : Nat) (x : Str) : Bool := decide (cx.N[i]? = some x) && ((match cx.nm.lookup x with | some .local => true | some .cell => true | some .free => true | _ => false) && okName x)
def Cfg.sto (cx : Cfg) (i : Nat) (x : Str) : Bool := decide (cx.N[i]? = some x) && (match cx.st.lookup x with | some .local => true | some .cell => true | _ => false)
def Cfg.glo (cx : Cfg) (x : Str) : Bool := decide (cx.nm.lookup x = some .globalImplicit) && !(x == ("__debug__" : Str))
def chkK : D → Const → Bool
  | .non, .none => true
  | .bl b, .bool c => decide (b = c)
  | .int i, .int j => decide (i = j)
  | .str s, .str z => decide (s = z)
  | _, _ => false
def biName : Bi → Option (String × Bool)
  | .len => some ("len", false) | .tuple => some ("tuple", true) | .list => some ("list", true) | .sum => some ("sum", false) | .max => some ("max", false) | .min => some ("min", false)
  | .abs => some ("abs", false) | .int => some ("int", true) | .sorted => some ("sorted", false) | .all => some ("all", false) | .any => some ("any", false)
  | _ => none
def plainIxB : Expr → Bool
  | .Slice _ _ _ _ => false
  | _ => true
def baseB : Expr → Bool
  | .Call _ [] _ _ => false
  | _ => true
def testB : Expr → Bool
  | .Name _ _ => true | .Call _ _ _ _ => true | .Subscript _ _ _ => true | .Attribute _ _ _ => true
  | _ => false
def noSet : Expr → Bool
  | .Set _ _ _ => false
  | _ => true
def isTup : Expr → Bool
  | .Tuple _ _ _ => true
  | _ => false
def isComp : Expr → Bool
  | .ListComp _ _ _ _ => true | .SetComp _ _ _ _ => true | .DictComp _ _ _ _ _ => true
  | _ => false
def isLC : Expr → Bool
  | .ListComp _ _ _ _ => true
  | _ => false
mutual
def chkTG (cx : Cfg) : TG → Expr → Bool
  | .nm i, .Name x _ => cx.sto i x
  | .tp ts, .Tuple es _ _ => chkTGs cx ts es
  | _, _ => false
def chkTGs (cx : Cfg) : List TG → List Expr → Bool
  | [], [] => true
  | t :: ts, e :: es => nStar e && (chkTG cx t e && chkTGs cx ts es)
  | _, _ => false
end
/-- the scope of a block's text, as it runs -/
def blkScope (cx : Cfg) (scope : Scope) : Scope := relS scope { scope with kind := .function, names := cx.nm }
def Cfg.blk (cx : Cfg) (scope : Scope) : Cfg := { cx with nm := (blkScope cx scope).names, st := scope.names }
def ownOf (cx : Cfg) (vs : List Nat) : List (Str × Nat) := vs.map fun i => (cx.N.getD i Str.empty, i)
def okBlk (cx : Cfg) (scope : Scope) (vs : List Nat) : Bool := blkC cx.N { scope with names := cx.nm } scope (ownOf cx vs)
def chkCls (cx : Cfg) (t : String) : Expr → Bool
  | .Name x _ => decide (x = Str.ofString t) && (cx.glo x && (T6.contains t || cx.tb.own.contains t))
  | _ => false
def chkClss (cx : Cfg) : List String → List Expr → Bool
  | [], [] => true
  | t :: ts, e :: es => chkCls cx t e && chkClss cx ts es
  | _, _ => false
def dunOp : Operator → Option String
  | .Add => some "__add__" | .Sub => some "__sub__" | .Mult => some "__mul__"
  | _ => none
mutual
def chkE : Nat → Cfg → EC → Expr → Bool
  | 0, _, _, _ => false
  | n + 1, cx, .var i, e => match e with
    | .Name x _ => cx.loc i x
    | _ => false
  | n + 1, cx, .lit d, e => match e with
    | .Constant k _ _ => chkK d k
    | _ => false
  | n + 1, cx, .tup cs, e => match e with
    | .Tuple es _ _ => decide (cs.length ≤ 1000) && chkEs n cx cs es
    | _ => false
  | n + 1, cx, .lst m cs, e => match e with
    | .List es _ => decide (m = 0) && (decide (cs.length ≤ 1000) && chkEs n cx cs es)
    | _ => false
  | n + 1, cx, .bin o a b, e => match e with
    | .BinOp x op y _ => decide (op = opOf o) && (chkB n cx a x && chkB n cx b y)
    | _ => false
  | n + 1, cx, .neg a, e => match e with
    | .UnaryOp op x _ => decide (op = .USub) && chkE n cx a x
    | _ => false
  | n + 1, cx, .tst t, e => chkTE n cx t e
  | n + 1, cx, .ifx t a b, e => match e with
    | .IfExp c x y _ => chkT n cx t c && (chkE n cx a x && chkE n cx b y)
    | _ => false
  | n + 1, cx, .idx b k, e => match e with
    | .Subscript x y _ => plainIxB y && (chkB n cx b x && chkE n cx k y)
    | _ => false
  | n + 1, cx, .slc b lo hi, e => match e with
    | .Subscript x y _ => match y with
      | .Slice l h s _ => s.isNone && (chkB n cx b x && (chkP n cx lo l && chkP n cx hi h))
      | _ => false
    | _ => false
  | n + 1, cx, .rev b, e => match e with
    | .Subscript x (.Slice none none (some (.UnaryOp op (.Constant k _ _) _)) _) _ => decide (op = .USub) && (decide (k = .int 1) && chkB n cx b x)
    | _ => false
  | n + 1, cx, .att b f, e => match e with
    | .Attribute x a _ => decide (a = Str.ofString f) && (baseB x && chkB n cx b x)
    | _ => false
  | n + 1, cx, .call i cs, e => match e with
    | .Call (.Name x _) (a :: as) [] _ => ((match cx.tb.fns[i]? with | some (.fn s) => !cx.hot && decide (x = Str.ofString s) | some (.stub s) => !cx.hot && decide (x = Str.ofString s) | some (.mk s) => !cx.hot && decide (x = Str.ofString s) | some (.hot s) => cx.hot && decide (x = Str.ofString s) | _ => false) && (cx.glo x && ((a :: as).all nStar && chkEs n cx cs (a :: as))))
    | _ => false
  | n + 1, cx, .bi f bs, e => match e with
    | .Call (.Name x _) (a :: as) [] _ => (!cx.hot || decide (f = .len)) && ((match biName f with | some p => decide (x = Str.ofString p.1) | none => false) && (cx.glo x && ((a :: as).all nStar && chkBs n cx bs (a :: as))))
    | _ => false
  | n + 1, cx, .comp m t s ifs e', e => match e with
    | .ListComp elt [⟨tg, iter, ifs', z⟩] scope _ => decide (z = 0) && (!cx.hot && (okBlk cx scope t.slots && (chkS n cx s tg iter && (chkTG (cx.blk scope) t tg && (chkTs n (cx.blk scope) ifs ifs' && chkE n (cx.blk scope) e' elt)))))
    | _ => false
  | n + 1, cx, .comp2 m t s ifs t2 s2 ifs2 e', e => match e with
    | .ListComp elt [⟨tg, iter, ifs', z⟩, ⟨tg2, iter2, ifs2', z2⟩] scope _ => decide (z = 0) && (decide (z2 = 0) && (!cx.hot && (okBlk cx scope (t.slots ++ t2.slots) && (chkS n cx s tg iter && (chkTG (cx.blk scope) t tg && (chkTs n (cx.blk scope) ifs ifs' &&
        (chkS n (cx.blk scope) s2 tg2 iter2 && (chkTG (cx.blk scope) t2 tg2 && (chkTs n (cx.blk scope) ifs2 ifs2' && chkE n (cx.blk scope) e' elt)))))))))
    | _ => false
  | n + 1, cx, .mth c m i co cs, e => match e with
    | .Call (.Attribute (.Name x p1) a p2) as [] p3 => !cx.hot && (decide (a = Str.ofString m) && (plainM m && (decide (cx.tb.fns[i]? = some (.mt c m)) && ((p2.endLine == p3.line) && (decide (as.length < 29) && (as.all nStar && (chkE n cx co (.Name x p1) && chkEs n cx cs as)))))))
    | .UnaryOp op x _ => !cx.hot && (decide (op = .USub) && (decide (m = "__neg__") && (decide (cx.tb.fns[i]? = some (.mt c m)) && (cs.isEmpty && chkE n cx co x))))
    | .BinOp x op y _ => match cs with
      | [cb] => !cx.hot && (decide (dunOp op = some m) && (decide (cx.tb.fns[i]? = some (.mt c m)) && (cx.tb.ops.contains c && (chkE n cx co x && chkE n cx cb y))))
      | _ => false
    | .Call (.Name f _) [x] [] _ => !cx.hot && (decide (f = ("len" : Str)) && (cx.glo f && (decide (m = "__len__") && (cs.isEmpty && (decide (cx.tb.fns[i]? = some (.mt c m)) && (nStar x && chkE n cx co x))))))
    | _ => false
  | n + 1, cx, .exf i f, e => match e with
    | .Attribute (.Name x _) a _ => decide (cx.xv = some i) && (decide (a = Str.ofString f) && cx.loc i x)
    | _ => false
  | n + 1, cx, .lend _ c, e => !cx.hot && chkE n cx c e
  | n + 1, cx, .dnew _, e => match e with
    | .Dict [] [] _ => true
    | _ => false
  | n + 1, cx, .dget b k ds, e => match e, ds with
    | .Call (.Attribute o a p2) [x] [] p3, [] => decide (a = ("get" : Str)) && (baseB o && ((p2.endLine == p3.line) && (nStar x && (chkB n cx b o && chkE n cx k x))))
    | .Call (.Attribute o a p2) [x, y] [] p3, [d] => decide (a = ("get" : Str)) && (baseB o && ((p2.endLine == p3.line) && (nStar x && (nStar y && (chkB n cx b o && (chkE n cx k x && chkE n cx d y))))))
    | _, _ => false
  | n + 1, cx, .kcall i cs zs, e => match e with
    | .Call (.Name x _) as kws _ => !cx.hot && ((match cx.tb.fns[i]? with
      | some (.kw s _ m ks _ _) => decide (x = Str.ofString s) && (decide (cs.length = m) && decide (kws.map (·.arg) = ks.map some))
      | _ => false) && (cx.glo x && (as.all nStar && (chkEs n cx cs as && chkKs n cx zs kws))))
    | _ => false
  | _ + 1, _, _, _ => false
def chkB : Nat → Cfg → BC → Expr → Bool
  | 0, _, _, _ => false
  | n + 1, cx, .var i, e => match e with
    | .Name x _ => cx.loc i x
    | _ => false
  | n + 1, cx, .idx b k, e => match e with
    | .Subscript x y _ => plainIxB y && (chkB n cx b x && chkE n cx k y)
    | _ => false
  | n + 1, cx, .att b f, e => match e with
    | .Attribute x a _ => decide (a = Str.ofString f) && (baseB x && chkB n cx b x)
    | _ => false
  | n + 1, cx, .val c, e => chkE n cx c e
def chkT : Nat → Cfg → TC → Expr → Bool
  | 0, _, _, _ => false
  | n + 1, cx, .cmp o a b, e => match e with
    | .Compare x [op] [y] _ => decide (op = cpOf o) && (noSet y && (chkB n cx a x && chkB n cx b y))
    | _ => false
  | n + 1, cx, .chn o p a b c, e => match e with
    | .Compare x [op, op2] [y, z] _ => decide (op = cpOf o) && (decide (op2 = cpOf p) && (noSet y && (noSet z && (chkB n cx a x && (chkB n cx b y && chkB n cx c z)))))
    | _ => false
  | n + 1, cx, .not t, e => match e with
    | .UnaryOp op x _ => decide (op = .Not) && chkT n cx t x
    | _ => false
  | n + 1, cx, .and t u, e => match e with
    | .BoolOp op (x :: y :: r) _ => decide (op = .And) && (chkT n cx t x && chkW n cx true u (y :: r))
    | _ => false
  | n + 1, cx, .or t u, e => match e with
    | .BoolOp op (x :: y :: r) _ => decide (op = .Or) && (chkT n cx t x && chkW n cx false u (y :: r))
    | _ => false
  | n + 1, cx, .ceq neg c i a b, e => match e with
    | .Compare x [op] [y] _ => !cx.hot && (decide (op = if neg then .NotEq else .Eq) && (decide (cx.tb.fns[i]? = some (.mt c "__eq__")) && (cx.tb.ops.contains c && (chkE n cx a x && chkE n cx b y))))
    | _ => false
  | n + 1, cx, .lend _ t, e => !cx.hot && chkT n cx t e
  | n + 1, cx, t, e => testB e && chkTE n cx t e
def chkTE : Nat → Cfg → TC → Expr → Bool
  | 0, _, _, _ => false
  | n + 1, cx, .cmp o a b, e => match e with
    | .Compare x [op] [y] _ => decide (op = cpOf o) && (noSet y && (chkB n cx a x && chkB n cx b y))
    | _ => false
  | n + 1, cx, .chn o p a b c, e => match e with
    | .Compare x [op, op2] [y, z] _ => decide (op = cpOf o) && (decide (op2 = cpOf p) && (noSet y && (noSet z && (chkB n cx a x && (chkB n cx b y && chkB n cx c z)))))
    | _ => false
  | n + 1, cx, .not t, e => match e with
    | .UnaryOp op x _ => decide (op = .Not) && chkTE n cx t x
    | _ => false
  | n + 1, cx, .and t u, e => match e with
    | .BoolOp op (x :: y :: r) _ => decide (op = .And) && (chkTE n cx t x && chkWE n cx true u (y :: r))
    | _ => false
  | n + 1, cx, .or t u, e => match e with
    | .BoolOp op (x :: y :: r) _ => decide (op = .Or) && (chkTE n cx t x && chkWE n cx false u (y :: r))
    | _ => false
  | n + 1, cx, .tru b, e => chkB n cx b e
  | n + 1, cx, .isi b tys, e => match e with
    | .Call (.Name f _) [x, c] [] _ => decide (f = ("isinstance" : Str)) && (cx.glo f && (nStar x && (chkB n cx b x && match c with
      | .Tuple cs _ _ => decide (tys.length ≤ 1000) && chkClss cx tys cs
      | c => match tys with
        | [t] => chkCls cx t c
        | _ => false)))
    | _ => false
  | n + 1, cx, .isx i tys, e => match e with
    | .Call (.Name f _) [.Name x _, c] [] _ => decide (f = ("isinstance" : Str)) && (cx.glo f && (decide (cx.xv = some i) && (cx.loc i x && match tys with
      | [t] => chkCls cx t c
      | _ => false)))
    | _ => false
  | n + 1, cx, .ceq neg c i a b, e => match e with
    | .Compare x [op] [y] _ => !cx.hot && (decide (op = if neg then .NotEq else .Eq) && (decide (cx.tb.fns[i]? = some (.mt c "__eq__")) && (cx.tb.ops.contains c && (chkE n cx a x && chkE n cx b y))))
    | _ => false
  | n + 1, cx, .lend _ t, e => !cx.hot && chkTE n cx t e
def chkW : Nat → Cfg → Bool → TC → List Expr → Bool
  | 0, _, _, _, _ => false
  | n + 1, cx, a, u, es => match es with
    | [x] => chkT n cx u x
    | x :: y :: r => match u with
      | .and t v => a && (chkT n cx t x && chkW n cx a v (y :: r))
      | .or t v => !a && (chkT n cx t x && chkW n cx a v (y :: r))
      | _ => false
    | [] => false
def chkWE : Nat → Cfg → Bool → TC → List Expr → Bool
  | 0, _, _, _, _ => false
  | n + 1, cx, a, u, es => match es with
    | [x] => chkTE n cx u x
    | x :: y :: r => match u with
      | .and t v => a && (chkTE n cx t x && chkWE n cx a v (y :: r))
      | .or t v => !a && (chkTE n cx t x && chkWE n cx a v (y :: r))
      | _ => false
    | [] => false
def chkEs : Nat → Cfg → List EC → List Expr → Bool
  | 0, _, _, _ => false
  | _ + 1, _, [], es => es.isEmpty
  | n + 1, cx, c :: cs, es => match es with
    | e :: es => nStar e && (chkE n cx c e && chkEs n cx cs es)
    | [] => false
def chkKs : Nat → Cfg → List EC → List Keyword → Bool
  | 0, _, _, _ => false
  | _ + 1, _, [], ks => ks.isEmpty
  | n + 1, cx, c :: cs, ks => match ks with
    | ⟨_, e, _⟩ :: ks => chkE n cx c e && chkKs n cx cs ks
    | [] => false
def chkBs : Nat → Cfg → List BC → List Expr → Bool
  | 0, _, _, _ => false
  | _ + 1, _, [], es => es.isEmpty
  | n + 1, cx, c :: cs, es => match es with
    | e :: es => nStar e && (chkB n cx c e && chkBs n cx cs es)
    | [] => false
def chkTs : Nat → Cfg → List TC → List Expr → Bool
  | 0, _, _, _ => false
  | _ + 1, _, [], es => es.isEmpty
  | n + 1, cx, [t], es => match es with
    | [e] => chkT n cx t e
    | _ => false
  | _ + 1, _, _, _ => false
def chkP : Nat → Cfg → List EC → Option Expr → Bool
  | 0, _, _, _ => false
  | n + 1, cx, cs, o => match cs, o with
    | [], none => true
    | [c], some e => chkE n cx c e
    | _, _ => false
def chkS : Nat → Cfg → SRC → Expr → Expr → Bool
  | 0, _, _, _, _ => false
  | n + 1, cx, .seq b, _, e => noSet e && chkB n cx b e
  | n + 1, cx, .made c, _, e => noSet e && chkE n cx c e
  | n + 1, cx, .rng cs, _, e => match e with
    | .Call (.Name f _) es [] _ => decide (f = ("range" : Str)) && (cx.glo f && (es.all nStar && (decide (1 ≤ es.length) && (decide (es.length ≤ 3) && chkEs n cx cs es))))
    | _ => false
  | n + 1, cx, .enm b, tg, e => match e with
    | .Call (.Name f _) [x] [] _ => decide (f = ("enumerate" : Str)) && (cx.glo f && (isTup tg && (nStar x && chkB n cx b x)))
    | _ => false
  | n + 1, cx, .zip a b, tg, e => match e with
    | .Call (.Name f _) [x, y] [] _ => decide (f = ("zip" : Str)) && (cx.glo f && (isTup tg && (nStar x && (nStar y && (chkB n cx a x && chkB n cx b y)))))
    | _ => false
  | n + 1, cx, .rev b, _, e => match e with
    | .Call (.Name f _) [x] [] _ => decide (f = ("reversed" : Str)) && (cx.glo f && (nStar x && chkB n cx b x))
    | _ => false
end
/-- name = [..] on one line -/
def swapB (cx : Cfg) (tg e : Expr) : Bool := match e, tg with
  | .ListComp _ _ scope pos, .Name y py => decide (cx.nm.lookup y = some .local) && ((py.line == pos.line) && !(scope.names.any fun p => p.1 == y && (p.2 == .local || p.2 == .cell)))
  | _, _ => false
def isCompC : EC → Bool
  | .comp _ _ _ _ _ => true
  | .comp2 _ _ _ _ _ _ _ _ => true
  | _ => false
/-- a, b = x, y -/
def parB (n : Nat) (cx : Cfg) (t : TG) (c : EC) (tg e : Expr) : Bool := match t, c, tg, e with
  | .tp [.nm i, .nm j], .tup [ca, cb], .Tuple [.Name x px, .Name y py] _ _, .Tuple [a, b] _ _ => decide (i ≠ j) && (decide (cx.N[i]? = some x) && (decide (cx.N[j]? = some y) && (decide (cx.nm.lookup x = some .local) && (decide (cx.nm.lookup y = some .local) &&
      ((py.line == px.line) && ([a, b].all nStar && (!([a, b].all (foldedForSure 8)) && (!([a, b].all (constantsAlone 8)) && chkEs n cx [ca, cb] [a, b]))))))))
  | _, _, _, _ => false
/-- x.pop(k) -/
def popB (n : Nat) (cx : Cfg) (i : Nat) (k : List EC) : Expr → Bool
  | .Call (.Attribute (.Name x _) f p2) es [] p3 => decide (f = ("pop" : Str)) && (cx.loc i x && ((p2.endLine == p3.line) && (match es, k with
    | [], [] => true
    | [e], [c] => nStar e && chkE n cx c e
    | _, _ => false)))
  | _ => false
mutual
def chkSt : Nat → Cfg → SC → Stmt → Bool
  | 0, _, _, _ => false
  | n + 1, cx, .skip, s => match s with
    | .Pass _ => true
    | .Expr (.Constant (.str _) _ _) _ => true
    | _ => false
  | n + 1, cx, .ret c, s => match s with
    | .Return (some e) _ => chkE n cx c e
    | .Return none _ => match c with
      | .lit .non => true
      | _ => false
    | _ => false
  | n + 1, cx, .reto i, s => match s with
    | .Return (some (.Name x _)) _ => cx.loc i x
    | _ => false
  | n + 1, cx, .asg t _ c, s => match s with
    | .Assign [tg] e _ => !cx.hot && (parB n cx t c tg e || (nStar tg && (!(isTup tg && isTup e) && ((!swapB cx tg e || isCompC c) && ((isLC e || !isComp e) && (chkTG cx t tg && chkE n cx c e))))))
    | _ => false
  | n + 1, cx, .sti i p _ c, s => match s, p with
    | .Assign [.Subscript (.Name x _) ix _] e _, [k] => !cx.hot && (cx.loc i x && (plainIxB ix && (chkE n cx k ix && chkE n cx c e)))
    | .Assign [.Subscript (.Subscript (.Name x _) ix _) ix2 _] e _, [k, k2] => !cx.hot && (cx.loc i x && (plainIxB ix && (plainIxB ix2 && (chkE n cx k ix && (chkE n cx k2 ix2 && chkE n cx c e)))))
    | .Assign [.Subscript (.Subscript (.Subscript (.Name x _) ix _) ix2 _) ix3 _] e _, [k, k2, k3] => !cx.hot && (cx.loc i x && (plainIxB ix && (plainIxB ix2 && (plainIxB ix3 && (chkE n cx k ix && (chkE n cx k2 ix2 && (chkE n cx k3 ix3 && chkE n cx c e)))))))
    | _, _ => false
  | n + 1, cx, .app i p _ c, s => match s, p with
    | .Expr (.Call (.Attribute (.Name x _) f p2) [e] [] p3) _, [] => !cx.hot && (decide (f = ("append" : Str)) && (cx.loc i x && (nStar e && ((p2.endLine == p3.line) && chkE n cx c e))))
    | .Expr (.Call (.Attribute (.Subscript (.Name x _) ix _) f p2) [e] [] p3) _, [k] => !cx.hot && (decide (f = ("append" : Str)) && (cx.loc i x && (plainIxB ix && (nStar e && ((p2.endLine == p3.line) && (chkE n cx k ix && chkE n cx c e))))))
    | _, _ => false
  | n + 1, cx, .pop dst i k, s => match s, dst with
    | .Expr e _, none => !cx.hot && popB n cx i k e
    | .Assign [.Name y _] e _, some j => !cx.hot && (cx.sto j y && popB n cx i k e)
    | _, _ => false
  | n + 1, cx, .popA o i k, s => match s with
    | .Expr (.Call (.Attribute (.Name x _) f p2) [e] [] p3) _ => !cx.hot && (decide (f = ("append" : Str)) && (cx.loc o x && (nStar e && ((p2.endLine == p3.line) && popB n cx i k e))))
    | _ => false
  | n + 1, cx, .ins i k c, s => match s with
    | .Expr (.Call (.Attribute (.Name x _) f p2) [a, e] [] p3) _ => !cx.hot && (decide (f = ("insert" : Str)) && (cx.loc i x && (nStar a && (nStar e && ((p2.endLine == p3.line) && (chkE n cx k a && chkE n cx c e))))))
    | _ => false
  | n + 1, cx, .stf f c, s => match s with
    | .Assign [.Attribute (.Name x _) a _] e _ => !cx.hot && (decide (a = Str.ofString f) && (cx.loc 0 x && (!isComp e && chkE n cx c e)))
    | _ => false
  | n + 1, cx, .ife t a b, s => match s with
    | .If c x y _ => chkT n cx t c && (chkSs n cx a x && chkSs n cx b y)
    | _ => false
  | n + 1, cx, .for t sr b, s => match s with
    | .For tg iter body [] _ => !cx.hot && (chkS n cx sr tg iter && (chkTG cx t tg && chkSs n cx b body))
    | _ => false
  | n + 1, cx, .whl _ t b, s => match s with
    | .While c body [] _ => !cx.hot && (chkT n cx t c && chkSs n cx b body)
    | _ => false
  | n + 1, cx, .brk, s => match s with
    | .Break _ => true
    | _ => false
  | n + 1, cx, .cnt, s => match s with
    | .Continue _ => true
    | _ => false
  | n + 1, cx, .exp c, s => match s with
    | .Expr e _ => !isComp e && chkE n cx c e
    | _ => false
  | n + 1, cx, .rse c fs cs, s => match s with
    | .Raise (some (.Call (.Name x _) (a :: as) [] _)) none _ => !cx.hot && (decide (x = Str.ofString c) && (cx.tb.xmk.contains (c, fs) && (cx.glo x && (decide (cs.length = fs.length) && (decide (cs.length ≤ 1000) && ((a :: as).all nStar && chkEs n cx cs (a :: as)))))))
    | _ => false
  | n + 1, cx, .try b c i h, s => match s with
    | .Try body [.ExceptHandler (some (.Name x _)) (some y) (b0 :: su) _] [] [] _ => !cx.hot && (decide (x = Str.ofString c) && (cx.tb.own.contains c && (cx.glo x && (decide (cx.N[i]? = some y) && (decide (cx.nm.lookup y = some .local) && (chkSs n cx b body && chkSs n { cx with hot := true, xv := some i } h (b0 :: su)))))))
    | _ => false
  | _ + 1, _, _, _ => false
def chkSs : Nat → Cfg → SC → List Stmt → Bool
  | 0, _, _, _ => false
  | _ + 1, _, .skip, ss => ss.isEmpty
  | n + 1, cx, .seq a r, ss => match a with
    | .frz _ => !cx.hot && chkSs n cx r ss
    | a => match ss with
      | s :: ss => chkSt n cx a s && chkSs n cx r ss
      | [] => false
  | _ + 1, _, _, _ => false
end
end Ev
/-! Ev, part T: what is checked is true of the text (expressions). -/
namespace Ev
open PySem PySem.Spec L2
def blts : List String := ["range", "enumerate", "zip", "reversed", "isinstance", "len", "tuple", "list", "sum", "max", "min", "abs", "int", "sorted", "all", "any", "bool", "str", "dict"]
structure GOk (tb : Tab) (G : Glb) (k : Nat) (P : Program) (w : World) (K : PySem.W.Frag) (mg : Str → Option Value) (base : Heap) : Prop where
  fn : ∀ (i : Nat) x, tb.fns[i]? = some (.fn x) ∨ tb.fns[i]? = some (.stub x) → ∃ dv ψ, G.fns[i]? = some ψ ∧ FnFact P w K mg base k x dv ψ
  hotf : ∀ (i : Nat) x, tb.fns[i]? = some (.hot x) → ∃ ψ, G.fns[i]? = some ψ ∧ HotFact P w K mg base k x ψ
  mkc : ∀ (i : Nat) c, tb.fns[i]? = some (.mk c) → ∃ φ j, G.fns[i]? = some φ ∧ j + 1 ≤ k ∧ MkFact P w K mg base j c φ
  mtc : ∀ (i : Nat) c m, tb.fns[i]? = some (.mt c m) → ∃ φ j, G.fns[i]? = some φ ∧ j + 1 ≤ k ∧ MtFact P w K mg base j c m φ
  kwf : ∀ (i : Nat) x cl n ks b pm, tb.fns[i]? = some (.kw x cl n ks b pm) → ∃ ψ j, G.fns[i]? = some ψ ∧ j + 1 ≤ k ∧ (if cl then KmFact P w K mg base j x n ks ψ else KfFact P w K mg base j x n ks ψ)
  ops : ∀ c ∈ tb.ops, OpsC K G c
  xm : ∀ c fs, (c, fs) ∈ tb.xmk → fs ≠ [] ∧ ∃ j, j + 1 ≤ k ∧ MkX P w K mg base j c fs
  own : ∀ t ∈ tb.own, t ∉ T6 ∧ t ∈ G.cls ++ G.xcs ∧ mg t = some (.ref (He.ga K t))
  bl : ∀ x ∈ blts, mg x = none
  at_ : ∀ c f, G.okA c f = true → AttOk K c f
  xt : ∀ c f, G.okX c f = true → XatOk K c f
  isi : IsiOk K G
  xmm : Xm K G
structure Good (cx : Cfg) (G : Glb) (k : Nat) (X : Cx) (M : Md) : Prop where
  N : X.N = cx.N
  nd : X.N.Nodup
  nm : X.env.scope.names = cx.nm
  kd : X.env.scope.kind = .function
  st : ∀ x, cx.st.lookup x = some .local ∨ cx.st.lookup x = some .cell → Loc X.env.scope x ∧ (X.fn x = true ∨ X.env.scope.names.lookup x = some .local)
  un : X.A.units + 65 < cLine
  cold : cx.hot = false → X.calm = true ∧ Room k X.A ∧ M.x = none
  warm : cx.hot = true → L2H.HotC X ∧ L2H.RoomH k X.A
  tk : L2N.Takes X M.W
  xv : cx.xv = M.x.map (·.i)
  xs : ∀ e, M.x = some e → ∃ X0 oe pn, X = Cx.suite X0 e.a ((e.a, oe) :: pn) ∧ L2N.Zn e.cls e.d oe ∧ ∃ vs, oe.data = .fields vs
  gl : GOk cx.tb G k X.prog X.w X.K X.mg X.base
theorem hot_suite {X : Cx} {a : Addr} {oe : Obj} {pn : List (Addr × Obj)} {cls : Value} {d : Option Addr} (hz : L2N.Zn cls d oe) (hf : ∃ vs, oe.data = .fields vs) : L2H.HotC (Cx.suite X a ((a, oe) :: pn)) := by
  obtain ⟨vs, hd⟩ := hf
  exact ⟨(a, oe), ⟨rfl, vs, hd, hz.2.2 vs hd⟩, List.mem_cons_self⟩
theorem ba2 {a b : Bool} (h : (a && b) = true) : a = true ∧ b = true := Bool.and_eq_true_iff.mp h
theorem star_cons {e : Expr} {es : List Expr} {env : PySem.Env} (h : nStar e = true) : starEach (e :: es) env = (false, eval e env) :: starEach es env := by
  cases e <;> first | rfl | cases h
theorem star_plain {pos : Pos} {env : PySem.Env} : ∀ {es : List Expr}, es.all nStar = true → (backTo pos (starEach es env)).any (·.1) = false
  | [], _ => rfl
  | e :: es, h => by
    rw [List.all_cons, Bool.and_eq_true] at h
    rw [star_cons h.1]
    show (false || (backTo pos (starEach es env)).any (·.1)) = false
    rw [star_plain h.2]
    rfl
theorem star_all {pos : Pos} {env : PySem.Env} : ∀ {es : List Expr}, es.all nStar = true → (backTo pos (starEach es env)).all (fun x => !x.1) = true
  | [], _ => rfl
  | e :: es, h => by
    rw [List.all_cons, Bool.and_eq_true] at h
    rw [star_cons h.1]
    show (true && (backTo pos (starEach es env)).all (fun x => !x.1)) = true
    rw [star_all h.2]
    rfl
theorem form_ok {pos : Pos} {env : PySem.Env} {es : List Expr} (h : es.all nStar = true) (hl : es.length < 29) : methodCallForm (es.length + ([] : List Keyword).length) (backTo pos (starEach es env)) (backToKw pos (keywordEach [] env)) = true := by
  unfold methodCallForm
  rw [star_all h]
  show (true && true && decide (es.length + 0 + 0 < 30)) = true
  simp
  omega
theorem asg_cons {e : Expr} {es : List Expr} {env : PySem.Env} (h : nStar e = true) : assignEach (e :: es) env = (false, assign e env) :: assignEach es env := by
  cases e <;> first | rfl | cases h
theorem folded_no {e : Expr} {env : PySem.Env} (h : noSet e = true) : ∀ x, foldedSetIterable e env x = pure x := by
  intro x
  cases e <;> first | rfl | cases h
theorem marks_no {op : CmpOp} {e : Expr} (h : noSet e = true) : behindInMarks op e = false := by
  cases e <;> first | rfl | cases h
theorem plain_ix {e : Expr} (h : plainIxB e = true) : PlainIx e := by
  intro o i
  cases e <;> first | rfl | cases h
theorem base_ok {e : Expr} {f : Str} {env : PySem.Env} (h : baseB e = true) : attributeBase e f env (eval e env) = eval e env := by
  cases e with
  | Call g as kws p => cases as with
    | nil => cases h
    | cons a as => cases g <;> rfl
  | _ => rfl
theorem test_ok {e : Expr} {env : PySem.Env} (h : testB e = true) : ∀ whole, isTrue e env whole = (do let v ← whole; standAt e.pos; holding [v] (truthy v)) := by
  intro whole
  cases e <;> first | rfl | cases h
theorem kw_names {pos : Pos} {env : PySem.Env} : ∀ {kws : List Keyword} {ks : List Str}, kws.map (·.arg) = ks.map some → (backToKw pos (keywordEach kws env)).all (·.1.isSome) = true ∧ (backToKw pos (keywordEach kws env)).filterMap (·.1) = ks ∧ (backToKw pos (keywordEach kws env)).any (·.1.isNone) = false ∧ kws.length = ks.length
  | [], [], _ => ⟨rfl, rfl, rfl, rfl⟩
  | [], _ :: _, h => by cases h
  | _ :: _, [], h => by cases h
  | ⟨nm, e, p⟩ :: kws, k :: ks, h => by
    simp only [List.map_cons, List.cons.injEq] at h
    obtain ⟨h1, h2⟩ := h
    subst h1
    obtain ⟨a, b, c, d⟩ := kw_names (pos := pos) (env := env) h2
    refine ⟨?_, ?_, ?_, by rw [List.length_cons, List.length_cons, d]⟩
    · show (true && _) = true
      rw [Bool.true_and]; exact a
    · show k :: _ = k :: ks
      congr 1
    · show (false || _) = false
      rw [Bool.false_or]; exact c
theorem kwT_of {X : Cx} {es : List Expr} {kws : List Keyword} {pos : Pos} {ks : List Str} (h : es.all nStar = true) (hk : kws.map (·.arg) = ks.map some) : KwT X es kws pos ks := by
  obtain ⟨a, b, c, d⟩ := kw_names (pos := pos) (env := X.env) hk
  refine ⟨a, b, by rw [star_plain h, c]; rfl, fun e r er => ?_⟩
  subst er
  rw [List.all_cons] at h
  exact star_cons (ba2 h).1
section
variable {cx : Cfg} {G : Glb} {k : Nat} {X : Cx} {M : Md}
theorem Good.loc (gd : Good cx G k X M) {i : Nat} {x : Str} (h : cx.loc i x = true) : X.N[i]? = some x ∧ Vis X.env.scope x ∧ (x == ("__debug__" : Str)) = false ∧ (x == ("__classdict__" : Str)) = false := by
  obtain ⟨h1, h2⟩ := ba2 h
  obtain ⟨h2, h3⟩ := ba2 h2
  obtain ⟨h3, h4⟩ := ba2 h3
  refine ⟨by rw [gd.N]; exact of_decide_eq_true h1, ?_, by simpa using h3, by simpa using h4⟩
  unfold Vis
  rw [gd.nm]
  split at h2
  · rename_i e; exact .inl e
  · rename_i e; exact .inr (.inl e)
  · rename_i e; exact .inr (.inr e)
  · cases h2
theorem Good.sto (gd : Good cx G k X M) {i : Nat} {x : Str} (h : cx.sto i x = true) : X.N[i]? = some x ∧ Loc X.env.scope x ∧ (X.fn x = true ∨ X.env.scope.names.lookup x = some .local) := by
  obtain ⟨h1, h2⟩ := ba2 h
  refine ⟨by rw [gd.N]; exact of_decide_eq_true h1, gd.st x ?_⟩
  split at h2
  · rename_i e; exact .inl e
  · rename_i e; exact .inr e
  · cases h2
theorem Good.glo (gd : Good cx G k X M) {x : Str} (h : cx.glo x = true) : Gl X x ∧ (x == ("__debug__" : Str)) = false := by
  obtain ⟨h1, h2⟩ := ba2 h
  refine ⟨?_, by simpa using h2⟩
  unfold Gl PySem.Env.kindOf
  rw [gd.nm]
  exact of_decide_eq_true h1
/-- a block of a comprehension -/
theorem Good.blk (gd : Good cx G k X M) (hc : cx.hot = false) {scope : Scope} {vs : List Nat} (ok : okBlk cx scope vs = true) :
    BlkOk X.N X.env.scope scope (ownOf cx vs) ∧ ∀ (s : Shared) (H : Hp) (C : Addr) (cl : List (Str × Addr)) (fp : List Addr), Good (cx.blk scope) G k (X.blk s H scope (compEnvC scope cl C X.env) fp) M0 := by
  have b := blkOk_by ok
  have nmE : (compEnvC scope [] 0 X.env).scope.names = (cx.blk scope).nm := by
    show (relabel scope X.env).names = (relS scope _).names
    have e : relabel scope X.env = relS scope X.env.scope := rfl
    rw [e]
    unfold relS
    simp only [gd.kd, gd.nm]
  refine ⟨⟨b.kind, b.uniq, fun p hp => by rw [gd.N]; exact b.ix p hp, fun y hy e => by rw [gd.nm]; exact b.free y hy e, fun y hy e => by rw [gd.N]; exact b.own y hy e⟩, fun s H C cl fp => ?_⟩
  exact {
    N := gd.N
    nd := gd.nd
    nm := nmE
    kd := b.kind
    st := fun x hx => by
      have hx : scope.names.lookup x = some .local ∨ scope.names.lookup x = some .cell := hx
      have keep : ∀ {kk : NameKind}, kk ≠ .free → scope.names.lookup x = some kk → (compEnvC scope cl C X.env).scope.names.lookup x = some kk := fun {kk} ne e => by
        show (relabel scope X.env).names.lookup x = some kk
        have e2 : relabel scope X.env = relS scope X.env.scope := rfl
        rw [e2]
        exact lookup_relS_keep ne e
      rcases hx with e | e
      · exact ⟨.inl (keep (by decide) e), .inr (keep (by decide) e)⟩
      · refine ⟨.inr (keep (by decide) e), .inl ?_⟩
        show (scope.names.lookup x == some .cell) = true
        rw [e]
        rfl
    un := gd.un
    cold := fun _ => ⟨(gd.cold hc).1, (gd.cold hc).2.1, rfl⟩
    warm := fun z => by rw [show (cx.blk scope).hot = cx.hot from rfl, hc] at z; cases z
    tk := takesN0
    xv := by
      show cx.xv = none
      rw [gd.xv, (gd.cold hc).2.2]
      rfl
    xs := fun e h => by cases h
    gl := gd.gl }
theorem own_map (vs : List Nat) : (ownOf cx vs).map (·.2) = vs := by
  unfold ownOf
  rw [List.map_map]
  show vs.map (fun i => i) = vs
  exact List.map_id' vs
theorem Good.cls (gd : Good cx G k X M) {t : String} {e : Expr} (h : chkCls cx t e = true) : PE X e (tC (clsv X.K t).1) ∧ (t ∈ T6 ∨ t ∈ G.cls ++ G.xcs) ∧ nStar e = true := by
  unfold chkCls at h
  split at h
  · rename_i x p
    obtain ⟨h1, h2⟩ := ba2 h
    obtain ⟨h2, h3⟩ := ba2 h2
    have ex := of_decide_eq_true h1
    subst ex
    obtain ⟨g1, g2⟩ := gd.glo h2
    have h3 : t ∈ T6 ∨ t ∈ cx.tb.own := by simpa using h3
    by_cases c6 : t ∈ T6
    · refine ⟨?_, .inl c6, rfl⟩
      unfold clsv
      rw [if_pos c6]
      have all : ∀ t ∈ T6, bootBuiltins (Str.ofString t) = some (.type t) ∧ Str.ofString t ≠ "__name__" ∧ t ∈ blts := by decide +kernel
      obtain ⟨a1, a2, a3⟩ := all t c6
      exact pe_bltn g1 (gd.gl.bl t a3) a1 rfl a2 g2
    · have ho := h3.resolve_left c6
      obtain ⟨_, o2, o3⟩ := gd.gl.own t ho
      refine ⟨?_, .inr o2, rfl⟩
      unfold clsv
      rw [if_neg c6]
      exact pe_glob g1 o3 rfl g2
  · cases h
theorem Good.clss (gd : Good cx G k X M) : ∀ {ts : List String} {es : List Expr}, chkClss cx ts es = true → PA X es (tKs (ts.map fun t => (clsv X.K t).1)) ∧ ∀ t ∈ ts, t ∈ T6 ∨ t ∈ G.cls ++ G.xcs
  | [], [], _ => ⟨pk_nil', fun t h => by cases h⟩
  | [], _ :: _, h => by cases h
  | _ :: _, [], h => by cases h
  | t :: ts, e :: es, h => by
    unfold chkClss at h
    obtain ⟨h1, h2⟩ := ba2 h
    obtain ⟨p1, q1, r1⟩ := gd.cls h1
    obtain ⟨p2, q2⟩ := gd.clss h2
    exact ⟨pk_cons' p1 p2 (star_cons r1), fun u hu => by
      rcases List.mem_cons.mp hu with e | e
      · rw [e]; exact q1
      · exact q2 u e⟩
mutual
theorem Good.tg (gd : Good cx G k X M) (hc : X.calm = true) {vs : List Nat} : ∀ {t : TG} {e : Expr}, (∀ i ∈ t.slots, i ∈ vs) → chkTG cx t e = true → PG X e (tTG X.K (asgT t) vs)
  | .nm i, .Name x p, hv, h => by
    simp only [chkTG] at h
    obtain ⟨h1, h2, h3⟩ := gd.sto h
    exact sg_nm gd.nd h1 h2 h3 (hv i (by simp [TG.slots]))
  | .tp ts, .Tuple es kk p, hv, h => by
    simp only [chkTG] at h
    obtain ⟨a, b, c⟩ := Good.tgs gd hc (fun i hi => hv i (by simpa [TG.slots] using hi)) h
    exact sg_tp hc a b c
  | .nm _, .Tuple _ _ _, _, h => by simp only [chkTG] at h; cases h
  | .tp _, .Name _ _, _, h => by simp only [chkTG] at h; cases h
  | .nm _, .BoolOp .., _, h => by simp only [chkTG] at h; cases h
  | .nm _, .NamedExpr .., _, h => by simp only [chkTG] at h; cases h
  | .nm _, .BinOp .., _, h => by simp only [chkTG] at h; cases h
  | .nm _, .UnaryOp .., _, h => by simp only [chkTG] at h; cases h
  | .nm _, .Lambda .., _, h => by simp only [chkTG] at h; cases h
  | .nm _, .IfExp .., _, h => by simp only [chkTG] at h; cases h
  | .nm _, .Dict .., _, h => by simp only [chkTG] at h; cases h
  | .nm _, .Set .., _, h => by simp only [chkTG] at h; cases h
  | .nm _, .ListComp .., _, h => by simp only [chkTG] at h; cases h
  | .nm _, .SetComp .., _, h => by simp only [chkTG] at h; cases h
  | .nm _, .DictComp .., _, h => by simp only [chkTG] at h; cases h
  | .nm _, .GeneratorExp .., _, h => by simp only [chkTG] at h; cases h
  | .nm _, .Await .., _, h => by simp only [chkTG] at h; cases h
  | .nm _, .Yield .., _, h => by simp only [chkTG] at h; cases h
  | .nm _, .YieldFrom .., _, h => by simp only [chkTG] at h; cases h
  | .nm _, .Compare .., _, h => by simp only [chkTG] at h; cases h
  | .nm _, .Call .., _, h => by simp only [chkTG] at h; cases h
  | .nm _, .FormattedValue .., _, h => by simp only [chkTG] at h; cases h
  | .nm _, .JoinedStr .., _, h => by simp only [chkTG] at h; cases h
  | .nm _, .Constant .., _, h => by simp only [chkTG] at h; cases h
  | .nm _, .Attribute .., _, h => by simp only [chkTG] at h; cases h
  | .nm _, .Subscript .., _, h => by simp only [chkTG] at h; cases h
  | .nm _, .Starred .., _, h => by simp only [chkTG] at h; cases h
  | .nm _, .List .., _, h => by simp only [chkTG] at h; cases h
  | .nm _, .Slice .., _, h => by simp only [chkTG] at h; cases h
  | .tp _, .BoolOp .., _, h => by simp only [chkTG] at h; cases h
  | .tp _, .NamedExpr .., _, h => by simp only [chkTG] at h; cases h
  | .tp _, .BinOp .., _, h => by simp only [chkTG] at h; cases h
  | .tp _, .UnaryOp .., _, h => by simp only [chkTG] at h; cases h
  | .tp _, .Lambda .., _, h => by simp only [chkTG] at h; cases h
  | .tp _, .IfExp .., _, h => by simp only [chkTG] at h; cases h
  | .tp _, .Dict .., _, h => by simp only [chkTG] at h; cases h
  | .tp _, .Set .., _, h => by simp only [chkTG] at h; cases h
  | .tp _, .ListComp .., _, h => by simp only [chkTG] at h; cases h
  | .tp _, .SetComp .., _, h => by simp only [chkTG] at h; cases h
  | .tp _, .DictComp .., _, h => by simp only [chkTG] at h; cases h
  | .tp _, .GeneratorExp .., _, h => by simp only [chkTG] at h; cases h
  | .tp _, .Await .., _, h => by simp only [chkTG] at h; cases h
  | .tp _, .Yield .., _, h => by simp only [chkTG] at h; cases h
  | .tp _, .YieldFrom .., _, h => by simp only [chkTG] at h; cases h
  | .tp _, .Compare .., _, h => by simp only [chkTG] at h; cases h
  | .tp _, .Call .., _, h => by simp only [chkTG] at h; cases h
  | .tp _, .FormattedValue .., _, h => by simp only [chkTG] at h; cases h
  | .tp _, .JoinedStr .., _, h => by simp only [chkTG] at h; cases h
  | .tp _, .Constant .., _, h => by simp only [chkTG] at h; cases h
  | .tp _, .Attribute .., _, h => by simp only [chkTG] at h; cases h
  | .tp _, .Subscript .., _, h => by simp only [chkTG] at h; cases h
  | .tp _, .Starred .., _, h => by simp only [chkTG] at h; cases h
  | .tp _, .List .., _, h => by simp only [chkTG] at h; cases h
  | .tp _, .Slice .., _, h => by simp only [chkTG] at h; cases h
theorem Good.tgs (gd : Good cx G k X M) (hc : X.calm = true) {vs : List Nat} : ∀ {ts : List TG} {es : List Expr}, (∀ i ∈ TG.slots.slotsL ts, i ∈ vs) → chkTGs cx ts es = true → PGs X es (tTGs X.K (asgL ts) vs) ∧ (assignEach es X.env).length = ts.length ∧ (assignEach es X.env).findIdx? (·.1) = none
  | [], [], _, _ => ⟨sgs_nil, rfl, rfl⟩
  | [], _ :: _, _, h => by simp only [chkTGs] at h; cases h
  | _ :: _, [], _, h => by simp only [chkTGs] at h; cases h
  | t :: ts, e :: es, hv, h => by
    simp only [chkTGs] at h
    obtain ⟨h0, h⟩ := ba2 h
    obtain ⟨h1, h2⟩ := ba2 h
    have v1 : ∀ i ∈ t.slots, i ∈ vs := fun i hi => hv i (by simp [TG.slots.slotsL, hi])
    have v2 : ∀ i ∈ TG.slots.slotsL ts, i ∈ vs := fun i hi => hv i (by simp [TG.slots.slotsL, hi])
    obtain ⟨a, b, c⟩ := Good.tgs gd hc v2 h2
    have e1 := asg_cons (es := es) (env := X.env) h0
    refine ⟨sgs_cons (Good.tg gd hc v1 h1) a (by rw [e1] <;> rfl), by rw [e1, List.length_cons, List.length_cons, b], ?_⟩
    rw [e1, List.findIdx?_cons]
    simp [c]
end
end
example : chkE 3 ⟨[], [], [], false, none, {}⟩ (.tup []) (.Tuple [] 0 ⟨0, 0, 0, 0⟩) = true := by rfl
end Ev
/-! Ev, part U: soundness of the check (expressions). -/
namespace Ev
open PySem PySem.Spec L2
def bop (a : Bool) : BoolOp := if a then .And else .Or
structure Snd (n : Nat) : Prop where
  E : ∀ {cx G k X M}, Good cx G k X M → ∀ {c e}, chkE n cx c e = true → PE X e (tE X.K M (ev G c))
  B : ∀ {cx G k X M}, Good cx G k X M → ∀ {c e}, chkB n cx c e = true → PE X e (tV X.K M (vw G c))
  T : ∀ {cx G k X M}, Good cx G k X M → ∀ {c e}, chkT n cx c e = true → PT X e (tT X.K M (ts G c))
  TE : ∀ {cx G k X M}, Good cx G k X M → ∀ {c e}, chkTE n cx c e = true → PE X e (tE X.K M (ev G (.tst c)))
  W : ∀ {cx G k X M}, Good cx G k X M → ∀ {a c es pos}, chkW n cx a c es = true → PW X (.BoolOp (bop a) es pos) (tT X.K M (ts G c))
  WE : ∀ {cx G k X M}, Good cx G k X M → ∀ {a c es pos}, chkWE n cx a c es = true → PE X (.BoolOp (bop a) es pos) (tE X.K M (ev G (.tst c)))
  Es : ∀ {cx G k X M}, Good cx G k X M → ∀ {cs es}, chkEs n cx cs es = true → PA X es (tL X.K M (evs G cs)) ∧ es.length = cs.length
  Ks : ∀ {cx G k X M}, Good cx G k X M → ∀ {cs ks}, chkKs n cx cs ks = true → PK X ks (tL X.K M (evs G cs)) ∧ ks.length = cs.length
  Bs : ∀ {cx G k X M}, Good cx G k X M → ∀ {cs es}, chkBs n cx cs es = true → PA X es (tW X.K M (vws G cs))
  Ts : ∀ {cx G k X M}, Good cx G k X M → ∀ {cs es}, chkTs n cx cs es = true → PTs X es (tT X.K M (tss G cs))
  P : ∀ {cx G k X M}, Good cx G k X M → ∀ {cs o}, chkP n cx cs o = true → L2.PO X o (tP X.K M fun Γ => (evs G cs Γ).bind partOf)
  S : ∀ {cx G k X M}, Good cx G k X M → ∀ {fz s tg e}, chkS n cx s tg e = true → PI X tg e (tS X.K M fz (src G fz s)) ∧ noSet e = true
theorem units1 {A : Around} (h : A.units + 65 < cLine) : A.units + 1 < cLine := by omega
theorem rp_lit {X : Cx} {M : Md} {G : Glb} {d : D} {c : Const} {j : Nat} {pos : Pos} (h : chkK d c = true) : PE X (.Constant c j pos) (tE X.K M (ev G (.lit d))) := by
  unfold chkK at h
  split at h
  · exact se_const pe_non fun S => by simp only [Rp]
  · rw [of_decide_eq_true h]; exact se_const pe_bl fun S => by simp only [Rp]
  · rw [of_decide_eq_true h]; exact se_const pe_int fun S => by simp only [Rp]
  · rw [of_decide_eq_true h]; exact se_const pe_str fun S => by simp only [Rp]
  · cases h
section
variable {n : Nat} {cx : Cfg} {G : Glb} {k : Nat} {X : Cx} {M : Md}
theorem snd_idxV (ih : Snd n) (gd : Good cx G k X M) {b : BC} {c : EC} {x y : Expr} {p : Pos} (h : (plainIxB y && (chkB n cx b x && chkE n cx c y)) = true) : PE X (.Subscript x y p) (tV X.K M (vw G (.idx b c))) ∧ PE X (.Subscript x y p) (tE X.K M (ev G (.idx b c))) := by
  obtain ⟨h1, h2⟩ := ba2 h
  obtain ⟨h2, h3⟩ := ba2 h2
  exact ⟨sv_idx (units1 gd.un) (ih.B gd h2) (ih.E gd h3) (plain_ix h1), se_idx (units1 gd.un) (ih.B gd h2) (ih.E gd h3) (plain_ix h1)⟩
theorem vw_att {b : BC} {f : String} : vw G (.att b f) = ev G (.att b f) := by
  funext Γ
  simp only [ev, vw]
theorem snd_B (ih : Snd n) (gd : Good cx G k X M) {c : BC} {e : Expr} (h : chkB (n + 1) cx c e = true) : PE X e (tV X.K M (vw G c)) := by
  cases c with
  | var i =>
    simp only [chkB] at h
    split at h
    · obtain ⟨a, b, c, d⟩ := gd.loc h
      exact sv_var a b c d
    · cases h
  | idx b k =>
    simp only [chkB] at h
    split at h
    · exact (snd_idxV ih gd h).1
    · cases h
  | att b f =>
    simp only [chkB] at h
    split at h
    · obtain ⟨h1, h2⟩ := ba2 h
      obtain ⟨h2, h3⟩ := ba2 h2
      have e := of_decide_eq_true h1
      subst e
      have q := sv_val (sv_att (fun c => gd.gl.at_ c f) (ih.B gd h3) (base_ok h2) (pos := by assumption))
      rw [← vw_att] at q
      exact q
    · cases h
  | val c =>
    simp only [chkB] at h
    exact sv_val (ih.E gd h)
theorem bi_calls (gd : Good cx G k X M) {f : Bi} (h : (!cx.hot || decide (f = .len)) = true) : CallR X (biVal f) (rBi X.K f) := by
  by_cases hc : cx.hot = false
  · exact cr_bi (gd.cold hc).1 f
  · have : f = .len := by
      rcases Bool.or_eq_true_iff.mp h with z | z
      · exact absurd (by simpa using z) hc
      · exact of_decide_eq_true z
    subst this
    exact cr_len
theorem snd_bi (ih : Snd n) (gd : Good cx G k X M) {f : Bi} {bs : List BC} {x : Str} {p pos : Pos} {a : Expr} {as : List Expr} {q : String × Bool} (hq : biName f = some q) (hx : x = Str.ofString q.1) (ho : (!cx.hot || decide (f = .len)) = true) (hg : cx.glo x = true) (hst : (a :: as).all nStar = true) (hb : chkBs n cx bs (a :: as) = true) :
    PE X (.Call (.Name x p) (a :: as) [] pos) (tE X.K M (ev G (.bi f bs))) := by
  have hc := bi_calls gd ho
  obtain ⟨g1, g2⟩ := gd.glo hg
  rw [List.all_cons] at hst
  obtain ⟨s1, s2⟩ := ba2 hst
  have bl := gd.gl.bl
  subst hx
  have pa := ih.Bs gd hb
  cases f <;> simp only [biName, Option.some.injEq, reduceCtorEq] at hq <;> subst hq
  · exact se_biB rfl hc g1 (bl "len" (by decide)) (by decide +kernel) pa (by decide) g2 (star_cons s1) (star_plain s2)
  · exact se_biT rfl hc g1 (bl "tuple" (by decide)) PyProof.Rows.boot_tuple pa (by decide) g2 (star_cons s1) (star_plain s2)
  · exact se_biT rfl hc g1 (bl "list" (by decide)) PyProof.Rows.boot_list pa (by decide) g2 (star_cons s1) (star_plain s2)
  · exact se_biB rfl hc g1 (bl "sum" (by decide)) (by decide +kernel) pa (by decide) g2 (star_cons s1) (star_plain s2)
  · exact se_biB rfl hc g1 (bl "max" (by decide)) (by decide +kernel) pa (by decide) g2 (star_cons s1) (star_plain s2)
  · exact se_biB rfl hc g1 (bl "min" (by decide)) (by decide +kernel) pa (by decide) g2 (star_cons s1) (star_plain s2)
  · exact se_biB rfl hc g1 (bl "abs" (by decide)) PyProof.Rows.boot_abs pa (by decide) g2 (star_cons s1) (star_plain s2)
  · exact se_biT rfl hc g1 (bl "int" (by decide)) PyProof.Rows.boot_int pa (by decide) g2 (star_cons s1) (star_plain s2)
  · exact se_biB rfl hc g1 (bl "sorted" (by decide)) PyProof.Rows.boot_sorted pa (by decide) g2 (star_cons s1) (star_plain s2)
  · exact se_biB rfl hc g1 (bl "all" (by decide)) (by decide +kernel) pa (by decide) g2 (star_cons s1) (star_plain s2)
  · exact se_biB rfl hc g1 (bl "any" (by decide)) (by decide +kernel) pa (by decide) g2 (star_cons s1) (star_plain s2)
theorem snd_Ks (ih : Snd n) (gd : Good cx G k X M) {cs : List EC} {ks : List Keyword} (h : chkKs (n + 1) cx cs ks = true) : PK X ks (tL X.K M (evs G cs)) ∧ ks.length = cs.length := by
  cases cs with
  | nil =>
    simp only [chkKs] at h
    have e := List.isEmpty_iff.mp h
    subst e
    exact ⟨sk_nil, rfl⟩
  | cons c cs =>
    simp only [chkKs] at h
    split at h
    · obtain ⟨h1, h2⟩ := ba2 h
      obtain ⟨p, q⟩ := ih.Ks gd h2
      exact ⟨sk_cons (ih.E gd h1) p, by rw [List.length_cons, List.length_cons, q]⟩
    · cases h
theorem snd_Es (ih : Snd n) (gd : Good cx G k X M) {cs : List EC} {es : List Expr} (h : chkEs (n + 1) cx cs es = true) : PA X es (tL X.K M (evs G cs)) ∧ es.length = cs.length := by
  cases cs with
  | nil =>
    simp only [chkEs] at h
    have e := List.isEmpty_iff.mp h
    subst e
    exact ⟨sa_nil, rfl⟩
  | cons c cs =>
    simp only [chkEs] at h
    split at h
    · obtain ⟨h1, h2⟩ := ba2 h
      obtain ⟨h2, h3⟩ := ba2 h2
      obtain ⟨p, q⟩ := ih.Es gd h3
      exact ⟨sa_cons (ih.E gd h2) p (star_cons h1), by rw [List.length_cons, List.length_cons, q]⟩
    · cases h
theorem snd_Bs (ih : Snd n) (gd : Good cx G k X M) {cs : List BC} {es : List Expr} (h : chkBs (n + 1) cx cs es = true) : PA X es (tW X.K M (vws G cs)) := by
  cases cs with
  | nil =>
    simp only [chkBs] at h
    have e := List.isEmpty_iff.mp h
    subst e
    exact sb_nil
  | cons c cs =>
    simp only [chkBs] at h
    split at h
    · obtain ⟨h1, h2⟩ := ba2 h
      obtain ⟨h2, h3⟩ := ba2 h2
      exact sb_cons (ih.B gd h2) (ih.Bs gd h3) (star_cons h1)
    · cases h
theorem snd_Ts (ih : Snd n) (gd : Good cx G k X M) {cs : List TC} {es : List Expr} (h : chkTs (n + 1) cx cs es = true) : PTs X es (tT X.K M (tss G cs)) := by
  match cs with
  | [] =>
    simp only [chkTs] at h
    have e := List.isEmpty_iff.mp h
    subst e
    exact ⟨fun pins s σ H Q I ⟨g, S, C, Γ, st, h⟩ => pts_nil.run pins s σ H Q I (h S H .rfl .rfl st.toStt)⟩
  | [t] =>
    simp only [chkTs] at h
    split at h
    · have p := pts_one (ih.T gd h)
      refine ⟨fun pins s σ H Q I ⟨g, S, C, Γ, st, h⟩ => p.run pins s σ H Q I ⟨g, S, C, Γ, st, ?_⟩⟩
      simp only [tss] at h
      cases e : ts G t Γ with
      | ok b =>
        rw [e] at h
        cases b with
        | true => exact h
        | false => exact h
      | exc c ns ds => rw [e] at h; exact h
      | fail => rw [e] at h; exact h
    · cases h
  | _ :: _ :: _ => simp only [chkTs] at h; cases h
theorem snd_P (ih : Snd n) (gd : Good cx G k X M) {cs : List EC} {o : Option Expr} (h : chkP (n + 1) cx cs o = true) : L2.PO X o (tP X.K M fun Γ => (evs G cs Γ).bind partOf) := by
  simp only [chkP] at h
  split at h
  · exact sp_none
  · exact sp_some (ih.E gd h)
  · cases h
theorem snd_W (ih : Snd n) (gd : Good cx G k X M) {a : Bool} {c : TC} {es : List Expr} {pos : Pos} (h : chkW (n + 1) cx a c es = true) : PW X (.BoolOp (bop a) es pos) (tT X.K M (ts G c)) := by
  simp only [chkW] at h
  split at h
  · cases a with
    | true => exact pw_and1 (ih.T gd h)
    | false => exact pw_or1 (ih.T gd h)
  · split at h
    · obtain ⟨h1, h2⟩ := ba2 h
      obtain ⟨h2, h3⟩ := ba2 h2
      have h1 : a = true := h1
      rw [h1] at h3 ⊢
      exact s_and (ih.T gd h2) (ih.W gd h3)
    · obtain ⟨h1, h2⟩ := ba2 h
      obtain ⟨h2, h3⟩ := ba2 h2
      have e : a = false := by simpa using h1
      rw [e] at h3 ⊢
      exact s_or (ih.T gd h2) (ih.W gd h3)
    · cases h
  · cases h
theorem snd_WE (ih : Snd n) (gd : Good cx G k X M) {a : Bool} {c : TC} {es : List Expr} {pos : Pos} (h : chkWE (n + 1) cx a c es = true) : PE X (.BoolOp (bop a) es pos) (tE X.K M (ev G (.tst c))) := by
  simp only [chkWE] at h
  split at h
  · exact pe_one (ih.TE gd h)
  · split at h
    · obtain ⟨h1, h2⟩ := ba2 h
      obtain ⟨h2, h3⟩ := ba2 h2
      have h1 : a = true := h1
      rw [h1] at h3 ⊢
      exact se_and (ih.TE gd h2) (ih.WE gd h3)
    · obtain ⟨h1, h2⟩ := ba2 h
      obtain ⟨h2, h3⟩ := ba2 h2
      have e : a = false := by simpa using h1
      rw [e] at h3 ⊢
      exact se_or (ih.TE gd h2) (ih.WE gd h3)
    · cases h
  · cases h
theorem snd_TE (ih : Snd n) (gd : Good cx G k X M) {c : TC} {e : Expr} (h : chkTE (n + 1) cx c e = true) : PE X e (tE X.K M (ev G (.tst c))) := by
  cases c with
  | cmp o a b =>
    simp only [chkTE] at h
    split at h
    · obtain ⟨h1, h2⟩ := ba2 h
      obtain ⟨h2, h3⟩ := ba2 h2
      obtain ⟨h3, h4⟩ := ba2 h3
      have e := of_decide_eq_true h1
      subst e
      have q := se_cmp (M := M) (o := o) (fa := vw G a) (fb := vw G b) gd.un (ih.B gd h3) (ih.B gd h4) (marks_no h2) (pos := by assumption)
      refine pe_imp q fun σ H Q hh => ?_
      have e : ev G (.tst (.cmp o a b)) = fun Γ => ((vw G a Γ).bind fun x => (vw G b Γ).bind fun y => cmpD o x y).bind fun b => .ok (.bl b, 0) := by
        funext Γ
        simp only [ev, ts]
      rw [e] at hh
      exact hh
    · cases h
  | chn o p a b c =>
    simp only [chkTE] at h
    split at h
    · obtain ⟨h1, h⟩ := ba2 h
      obtain ⟨h2, h⟩ := ba2 h
      obtain ⟨h3, h⟩ := ba2 h
      obtain ⟨h4, h⟩ := ba2 h
      obtain ⟨h5, h⟩ := ba2 h
      obtain ⟨h6, h7⟩ := ba2 h
      have e := of_decide_eq_true h1
      have e2 := of_decide_eq_true h2
      subst e e2
      exact se_chn gd.un (ih.B gd h5) (ih.B gd h6) (ih.B gd h7) (marks_no h4)
    · cases h
  | not t =>
    simp only [chkTE] at h
    split at h
    · obtain ⟨h1, h2⟩ := ba2 h
      have e := of_decide_eq_true h1
      subst e
      exact se_not (ih.TE gd h2)
    · cases h
  | and t u =>
    simp only [chkTE] at h
    split at h
    · obtain ⟨h1, h2⟩ := ba2 h
      obtain ⟨h2, h3⟩ := ba2 h2
      have e := of_decide_eq_true h1
      subst e
      exact se_and (ih.TE gd h2) (ih.WE (a := true) gd h3)
    · cases h
  | or t u =>
    simp only [chkTE] at h
    split at h
    · obtain ⟨h1, h2⟩ := ba2 h
      obtain ⟨h2, h3⟩ := ba2 h2
      have e := of_decide_eq_true h1
      subst e
      exact se_or (ih.TE gd h2) (ih.WE (a := false) gd h3)
    · cases h
  | tru b =>
    simp only [chkTE] at h
    exact se_tru (ih.B gd h)
  | isi b tys =>
    simp only [chkTE] at h
    split at h
    · obtain ⟨h1, h⟩ := ba2 h
      obtain ⟨h2, h⟩ := ba2 h
      obtain ⟨h3, h⟩ := ba2 h
      obtain ⟨h4, h⟩ := ba2 h
      obtain ⟨g1, g2⟩ := gd.glo h2
      have ef := of_decide_eq_true h1
      rw [ef] at g1
      rw [ef]
      have mn := gd.gl.bl "isinstance" (by decide)
      split at h
      · obtain ⟨h5, h6⟩ := ba2 h
        obtain ⟨c1, c2⟩ := gd.clss h6
        exact se_isiN gd.gl.isi c2 (of_decide_eq_true h5) g1 mn (ih.B gd h4) c1 (star_cons h3) (star_cons rfl) (star_plain rfl)
      · split at h
        · obtain ⟨c1, c2, c3⟩ := gd.cls h
          exact se_isi1 gd.gl.isi c2 g1 mn (ih.B gd h4) c1 (star_cons h3) (star_cons c3) (star_plain (by rw [List.all_cons, c3]; rfl))
        · cases h
    · cases h
  | isx i tys =>
    simp only [chkTE] at h
    split at h
    · obtain ⟨h1, h⟩ := ba2 h
      obtain ⟨h2, h⟩ := ba2 h
      obtain ⟨h3, h⟩ := ba2 h
      obtain ⟨h4, h⟩ := ba2 h
      obtain ⟨g1, g2⟩ := gd.glo h2
      have ef := of_decide_eq_true h1
      rw [ef] at g1
      rw [ef]
      have mn := gd.gl.bl "isinstance" (by decide)
      obtain ⟨l1, l2, l3, l4⟩ := gd.loc h4
      have xv := of_decide_eq_true h3
      rw [gd.xv] at xv
      obtain ⟨ei, hx, hi⟩ := Option.map_eq_some_iff.mp xv
      obtain ⟨X0, oe, pn, eX, hz, hf⟩ := gd.xs ei hx
      have hz := hz.zc
      have hp : (ei.a, oe) ∈ X.pn := by rw [eX]; exact List.mem_cons_self
      split at h
      · obtain ⟨c1, c2, c3⟩ := gd.cls h
        exact se_isx hx hi gd.gl.isi c2 hp hz hf g1 mn l1 l2 l3 l4 c1 (star_cons rfl) (star_cons c3) (star_plain (by rw [List.all_cons, c3]; rfl))
      · cases h
    · cases h
  | ceq neg c i a b =>
    simp only [chkTE] at h
    split at h
    · obtain ⟨h1, h⟩ := ba2 h
      obtain ⟨h2, h⟩ := ba2 h
      obtain ⟨h3, h⟩ := ba2 h
      obtain ⟨h4, h⟩ := ba2 h
      obtain ⟨h5, h6⟩ := ba2 h
      have hc : cx.hot = false := by simpa using h1
      obtain ⟨φ, j, e1, hj, F⟩ := gd.gl.mtc i c "__eq__" (of_decide_eq_true h3)
      rw [of_decide_eq_true h2]
      exact pe_cmp (pc_ceq F e1 ((gd.cold hc).2.1.mono hj) gd.tk gd.gl.isi (gd.gl.ops c (by simpa using h4)) gd.un (ih.E gd h5) (ih.E gd h6)) ceq_nb
    · cases h
  | lend i t =>
    simp only [chkTE] at h
    obtain ⟨h1, h2⟩ := ba2 h
    have hc : cx.hot = false := by simpa using h1
    have q := se_lend (i := i) (gd.cold hc).2.2 (ih.TE gd h2)
    rw [tst_lend] at q
    exact q
theorem snd_T (ih : Snd n) (gd : Good cx G k X M) {c : TC} {e : Expr} (h : chkT (n + 1) cx c e = true) : PT X e (tT X.K M (ts G c)) := by
  cases c with
  | cmp o a b =>
    simp only [chkT] at h
    split at h
    · obtain ⟨h1, h2⟩ := ba2 h
      obtain ⟨h2, h3⟩ := ba2 h2
      obtain ⟨h3, h4⟩ := ba2 h3
      have e := of_decide_eq_true h1
      subst e
      have q := st_cmp (M := M) (o := o) (fa := vw G a) (fb := vw G b) gd.un (ih.B gd h3) (ih.B gd h4) (marks_no h2) (pos := by assumption)
      refine pt_imp q fun σ H Q hh => ?_
      have e : ts G (.cmp o a b) = fun Γ => (vw G a Γ).bind fun x => (vw G b Γ).bind fun y => cmpD o x y := by
        funext Γ
        simp only [ts]
      rw [e] at hh
      exact hh
    · cases h
  | chn o p a b c =>
    simp only [chkT] at h
    split at h
    · obtain ⟨h1, h⟩ := ba2 h
      obtain ⟨h2, h⟩ := ba2 h
      obtain ⟨h3, h⟩ := ba2 h
      obtain ⟨h4, h⟩ := ba2 h
      obtain ⟨h5, h⟩ := ba2 h
      obtain ⟨h6, h7⟩ := ba2 h
      have e := of_decide_eq_true h1
      have e2 := of_decide_eq_true h2
      subst e e2
      have q := st_chn (M := M) (fa := vw G a) (fb := vw G b) (fc := vw G c) gd.un (ih.B gd h5) (ih.B gd h6) (ih.B gd h7) (marks_no h3) (marks_no h4) (o := o) (p := p) (pos := by assumption)
      refine pt_imp q fun σ H Q hh => ?_
      have e : ts G (.chn o p a b c) = fun Γ => (vw G a Γ).bind fun x => (vw G b Γ).bind fun y => (cmpD o x y).bind fun k => if k then (vw G c Γ).bind fun z => cmpD p y z else .ok false := by
        funext Γ
        simp only [ts]
      rw [e] at hh
      exact hh
    · cases h
  | not t =>
    simp only [chkT] at h
    split at h
    · obtain ⟨h1, h2⟩ := ba2 h
      have e := of_decide_eq_true h1
      subst e
      exact st_not (ih.T gd h2)
    · cases h
  | and t u =>
    simp only [chkT] at h
    split at h
    · obtain ⟨h1, h2⟩ := ba2 h
      obtain ⟨h2, h3⟩ := ba2 h2
      have e := of_decide_eq_true h1
      subst e
      exact (s_and (ih.T gd h2) (ih.W (a := true) gd h3)).pt
    · cases h
  | or t u =>
    simp only [chkT] at h
    split at h
    · obtain ⟨h1, h2⟩ := ba2 h
      obtain ⟨h2, h3⟩ := ba2 h2
      have e := of_decide_eq_true h1
      subst e
      exact (s_or (ih.T gd h2) (ih.W (a := false) gd h3)).pt
    · cases h
  | tru b => simp only [chkT] at h; obtain ⟨h1, h2⟩ := ba2 h; exact st_val (ih.TE gd h2) (test_ok h1)
  | isi b t => simp only [chkT] at h; obtain ⟨h1, h2⟩ := ba2 h; exact st_val (ih.TE gd h2) (test_ok h1)
  | isx b t => simp only [chkT] at h; obtain ⟨h1, h2⟩ := ba2 h; exact st_val (ih.TE gd h2) (test_ok h1)
  | ceq neg c i a b =>
    simp only [chkT] at h
    split at h
    · obtain ⟨h1, h⟩ := ba2 h
      obtain ⟨h2, h⟩ := ba2 h
      obtain ⟨h3, h⟩ := ba2 h
      obtain ⟨h4, h⟩ := ba2 h
      obtain ⟨h5, h6⟩ := ba2 h
      have hc : cx.hot = false := by simpa using h1
      obtain ⟨φ, j, e1, hj, F⟩ := gd.gl.mtc i c "__eq__" (of_decide_eq_true h3)
      rw [of_decide_eq_true h2]
      exact st_pc (pc_ceq F e1 ((gd.cold hc).2.1.mono hj) gd.tk gd.gl.isi (gd.gl.ops c (by simpa using h4)) gd.un (ih.E gd h5) (ih.E gd h6)) ceq_nb
    · cases h
  | lend i t =>
    simp only [chkT] at h
    obtain ⟨h1, h2⟩ := ba2 h
    have hc : cx.hot = false := by simpa using h1
    exact st_lend (gd.cold hc).2.2 (ih.T gd h2)
end
end Ev
/-! Ev, part V: soundness of the check (values, sources), all levels. -/
namespace Ev
open PySem PySem.Spec L2
section
variable {n : Nat} {cx : Cfg} {G : Glb} {k : Nat} {X : Cx} {M : Md}
theorem star_cons2 {e f : Expr} {env : PySem.Env} (h : nStar e = true) (h2 : nStar f = true) : starEach [e, f] env = [(false, eval e env), (false, eval f env)] := by
  rw [star_cons h, star_cons h2]
  rfl
theorem snd_S (ih : Snd n) (gd : Good cx G k X M) {fz : Bool} {s : SRC} {tg e : Expr} (h : chkS (n + 1) cx s tg e = true) : PI X tg e (tS X.K M fz (src G fz s)) ∧ noSet e = true := by
  cases s with
  | seq b =>
    simp only [chkS] at h
    obtain ⟨h1, h2⟩ := ba2 h
    exact ⟨sp_seq (ih.B gd h2), h1⟩
  | made c =>
    simp only [chkS] at h
    obtain ⟨h1, h2⟩ := ba2 h
    exact ⟨sp_made (ih.E gd h2), h1⟩
  | rng cs =>
    simp only [chkS] at h
    split at h
    · rename_i f p es pos
      obtain ⟨h1, h⟩ := ba2 h
      obtain ⟨h2, h⟩ := ba2 h
      obtain ⟨h3, h⟩ := ba2 h
      obtain ⟨h4, h⟩ := ba2 h
      obtain ⟨h5, h6⟩ := ba2 h
      have ef := of_decide_eq_true h1
      obtain ⟨g1, g2⟩ := gd.glo h2
      rw [ef] at g1
      rw [ef]
      have mn := gd.gl.bl "range" (by decide)
      obtain ⟨pa, hl⟩ := ih.Es gd h6
      have a4 := of_decide_eq_true h4
      have a5 := of_decide_eq_true h5
      refine ⟨?_, rfl⟩
      match es, h3, pa, hl, a4, a5 with
      | [a], h3, pa, hl, _, _ =>
        rw [rng_len (k := 1) hl.symm]
        rw [List.all_cons] at h3
        exact sp_rng1 g1 mn pa (star_cons (ba2 h3).1)
      | [a, b], h3, pa, hl, _, _ =>
        rw [rng_len (k := 2) hl.symm]
        rw [List.all_cons, List.all_cons] at h3
        obtain ⟨b1, b2⟩ := ba2 h3
        exact sp_rng2 g1 mn pa (star_cons2 b1 (ba2 b2).1) (star_cons (ba2 b2).1)
      | [a, b, c], h3, pa, hl, _, _ =>
        rw [rng_len (k := 3) hl.symm]
        rw [List.all_cons] at h3
        obtain ⟨b1, b2⟩ := ba2 h3
        exact sp_rng3 g1 mn pa (star_cons b1) (star_plain b2)
      | [], _, _, _, a4, _ => simp at a4
      | _ :: _ :: _ :: _ :: _, _, _, _, _, a5 => simp at a5
    · cases h
  | enm b =>
    simp only [chkS] at h
    split at h
    · obtain ⟨h1, h⟩ := ba2 h
      obtain ⟨h2, h⟩ := ba2 h
      obtain ⟨h3, h⟩ := ba2 h
      obtain ⟨h4, h5⟩ := ba2 h
      have ef := of_decide_eq_true h1
      obtain ⟨g1, g2⟩ := gd.glo h2
      rw [ef] at g1
      rw [ef]
      have mn := gd.gl.bl "enumerate" (by decide)
      refine ⟨?_, rfl⟩
      cases tg with
      | Tuple es kk tp => exact sp_enm g1 mn (sb_cons (ih.B gd h5) sb_nil (star_cons h4)) (star_cons h4)
      | _ => cases h3
    · cases h
  | zip a b =>
    simp only [chkS] at h
    split at h
    · obtain ⟨h1, h⟩ := ba2 h
      obtain ⟨h2, h⟩ := ba2 h
      obtain ⟨h3, h⟩ := ba2 h
      obtain ⟨h4, h⟩ := ba2 h
      obtain ⟨h5, h⟩ := ba2 h
      obtain ⟨h6, h7⟩ := ba2 h
      have ef := of_decide_eq_true h1
      obtain ⟨g1, g2⟩ := gd.glo h2
      rw [ef] at g1
      rw [ef]
      have mn := gd.gl.bl "zip" (by decide)
      refine ⟨?_, rfl⟩
      cases tg with
      | Tuple es kk tp => exact sp_zip g1 mn (sb_cons (ih.B gd h6) (sb_cons (ih.B gd h7) sb_nil (star_cons h5)) (star_cons h4)) (star_cons h4) (star_plain (by rw [List.all_cons, h5]; rfl))
      | _ => cases h3
    · cases h
  | rev b =>
    simp only [chkS] at h
    split at h
    · obtain ⟨h1, h⟩ := ba2 h
      obtain ⟨h2, h⟩ := ba2 h
      obtain ⟨h3, h4⟩ := ba2 h
      have ef := of_decide_eq_true h1
      obtain ⟨g1, g2⟩ := gd.glo h2
      rw [ef] at g1
      rw [ef]
      exact ⟨sp_rev g1 (gd.gl.bl "reversed" (by decide)) (ih.B gd h4) (star_cons h3), rfl⟩
    · cases h
theorem chkS_noSet {n : Nat} {cx : Cfg} {s : SRC} {tg e : Expr} (h : chkS (n + 1) cx s tg e = true) : noSet e = true := by
  cases s <;> simp only [chkS] at h
  · exact (ba2 h).1
  · exact (ba2 h).1
  all_goals
    split at h
    · rfl
    · cases h
theorem chkS_noSet' : ∀ {n : Nat} {cx : Cfg} {s : SRC} {tg e : Expr}, chkS n cx s tg e = true → noSet e = true
  | 0, _, _, _, _, h => absurd (show false = true from h) (by decide)
  | _ + 1, _, _, _, _, h => chkS_noSet h
/-- [..] -/
theorem snd_comp (ih : Snd n) (gd : Good cx G k X M) {m : Nat} {t : TG} {s : SRC} {ifs : List TC} {c : EC} {e : Expr} (h : chkE (n + 1) cx (.comp m t s ifs c) e = true) : ∃ elt tg iter ifs' scope pos, e = .ListComp elt [⟨tg, iter, ifs', 0⟩] scope pos ∧ X.calm = true ∧ PI X tg iter (tS X.K M false (src G false s)) ∧ noSet iter = true ∧
    BlkOk X.N X.env.scope scope (ownOf cx t.slots) ∧ (∀ i ∈ t.slots, i < X.N.length) ∧
    ∀ (s : Shared) (H : Hp) (C : Addr) (cl : List (Str × Addr)) (fp : List Addr), PG (X.blk s H scope (compEnvC scope cl C X.env) fp) tg (tTG X.K (asgT t) t.slots) ∧ PTs (X.blk s H scope (compEnvC scope cl C X.env) fp) ifs' (tT X.K M0 (tss G ifs)) ∧ PE (X.blk s H scope (compEnvC scope cl C X.env) fp) elt (tE X.K M0 (ev G c)) := by
  simp only [chkE] at h
  split at h
  · rename_i elt tg iter ifs' z scope pos
    obtain ⟨h0, h⟩ := ba2 h
    obtain ⟨h1, h⟩ := ba2 h
    obtain ⟨h2, h⟩ := ba2 h
    obtain ⟨h3, h⟩ := ba2 h
    obtain ⟨h4, h⟩ := ba2 h
    obtain ⟨h5, h6⟩ := ba2 h
    have ez := of_decide_eq_true h0
    have hc : cx.hot = false := by simpa using h1
    obtain ⟨b, gb⟩ := gd.blk hc h2
    obtain ⟨p, q⟩ := ih.S (fz := false) gd h3
    have cl := (gd.cold hc).1
    refine ⟨elt, tg, iter, ifs', scope, pos, by rw [ez], cl, p, q, b, fun i hi => ?_, fun s H C cl fp => ⟨Good.tg (gb s H C cl fp) (gd.cold hc).1 (fun _ z => z) h4, ih.Ts (gb s H C cl fp) h5, ih.E (gb s H C cl fp) h6⟩⟩
    have := b.ix (cx.N.getD i Str.empty, i) (List.mem_map.mpr ⟨i, hi, rfl⟩)
    exact (List.getElem?_eq_some_iff.mp this).1
  · cases h
theorem snd_comp2 (ih : Snd n) (gd : Good cx G k X M) {m : Nat} {t t2 : TG} {s s2 : SRC} {ifs ifs2 : List TC} {c : EC} {e : Expr} (h : chkE (n + 1) cx (.comp2 m t s ifs t2 s2 ifs2 c) e = true) : ∃ elt tg iter ifs' tg2 iter2 ifs2' scope pos, e = .ListComp elt [⟨tg, iter, ifs', 0⟩, ⟨tg2, iter2, ifs2', 0⟩] scope pos ∧ X.calm = true ∧ PI X tg iter (tS X.K M false (src G false s)) ∧ noSet iter = true ∧ noSet iter2 = true ∧
    BlkOk X.N X.env.scope scope (ownOf cx (t.slots ++ t2.slots)) ∧ (∀ i ∈ t.slots ++ t2.slots, i < X.N.length) ∧
    ∀ (s : Shared) (H : Hp) (C : Addr) (cl : List (Str × Addr)) (fp : List Addr), PG (X.blk s H scope (compEnvC scope cl C X.env) fp) tg (tTG X.K (asgT t) (t.slots ++ t2.slots)) ∧ PTs (X.blk s H scope (compEnvC scope cl C X.env) fp) ifs' (tT X.K M0 (tss G ifs)) ∧
      PI (X.blk s H scope (compEnvC scope cl C X.env) fp) tg2 iter2 (tS X.K M0 true (src G true s2)) ∧ PG (X.blk s H scope (compEnvC scope cl C X.env) fp) tg2 (tTG X.K (asgT t2) t2.slots) ∧ PTs (X.blk s H scope (compEnvC scope cl C X.env) fp) ifs2' (tT X.K M0 (tss G ifs2)) ∧ PE (X.blk s H scope (compEnvC scope cl C X.env) fp) elt (tE X.K M0 (ev G c)) := by
  simp only [chkE] at h
  split at h
  · rename_i elt tg iter ifs' z tg2 iter2 ifs2' z2 scope pos
    obtain ⟨h0, h⟩ := ba2 h
    obtain ⟨h00, h⟩ := ba2 h
    obtain ⟨h1, h⟩ := ba2 h
    obtain ⟨h2, h⟩ := ba2 h
    obtain ⟨h3, h⟩ := ba2 h
    obtain ⟨h4, h⟩ := ba2 h
    obtain ⟨h5, h⟩ := ba2 h
    obtain ⟨h6, h⟩ := ba2 h
    obtain ⟨h7, h⟩ := ba2 h
    obtain ⟨h8, h9⟩ := ba2 h
    have ez := of_decide_eq_true h0
    have ez2 := of_decide_eq_true h00
    have hc : cx.hot = false := by simpa using h1
    obtain ⟨b, gb⟩ := gd.blk hc h2
    obtain ⟨p, q⟩ := ih.S (fz := false) gd h3
    have cl := (gd.cold hc).1
    refine ⟨elt, tg, iter, ifs', tg2, iter2, ifs2', scope, pos, by rw [ez, ez2], cl, p, q, chkS_noSet' h6, b, fun i hi => ?_, fun s H C cl fp => ?_⟩
    · have := b.ix (cx.N.getD i Str.empty, i) (List.mem_map.mpr ⟨i, hi, rfl⟩)
      exact (List.getElem?_eq_some_iff.mp this).1
    · have g := gb s H C cl fp
      exact ⟨Good.tg g (gd.cold hc).1 (fun _ z => List.mem_append_left _ z) h4, ih.Ts g h5, (ih.S (fz := true) g h6).1, Good.tg g (gd.cold hc).1 (fun _ z => z) h7, ih.Ts g h8, ih.E g h9⟩
  · cases h
theorem dun_of {op : Operator} {m : String} (h : dunOp op = some m) : plainM m = false ∧ m ≠ "__len__" ∧ PySem.dunder op.info.2 = Str.ofString m := by
  cases op <;> simp only [dunOp, Option.some.injEq, reduceCtorEq] at h <;> subst h <;> exact ⟨by decide, by decide, by decide +kernel⟩
theorem snd_E (ih : Snd n) (gd : Good cx G k X M) {c : EC} {e : Expr} (h : chkE (n + 1) cx c e = true) : PE X e (tE X.K M (ev G c)) := by
  cases c with
  | var i =>
    simp only [chkE] at h
    split at h
    · obtain ⟨a, b, c, d⟩ := gd.loc h
      exact se_var a b c d
    · cases h
  | lit d =>
    simp only [chkE] at h
    split at h
    · exact rp_lit h
    · cases h
  | glb x => simp only [chkE] at h; cases h
  | tup cs =>
    simp only [chkE] at h
    split at h
    · obtain ⟨h1, h2⟩ := ba2 h
      exact se_tup (of_decide_eq_true h1) (ih.Es gd h2).1
    · cases h
  | lst m cs =>
    simp only [chkE] at h
    split at h
    · obtain ⟨h0, h⟩ := ba2 h
      obtain ⟨h1, h2⟩ := ba2 h
      rw [of_decide_eq_true h0]
      exact se_lst (of_decide_eq_true h1) (ih.Es gd h2).1
    · cases h
  | bin o a b =>
    simp only [chkE] at h
    split at h
    · obtain ⟨h1, h2⟩ := ba2 h
      obtain ⟨h2, h3⟩ := ba2 h2
      rw [of_decide_eq_true h1]
      refine pe_imp (se_bin (M := M) (o := o) (fa := vw G a) (fb := vw G b) (ih.B gd h2) (ih.B gd h3)) fun σ H Q hh => ?_
      have e : ev G (.bin o a b) = fun Γ => (vw G a Γ).bind fun x => (vw G b Γ).bind fun y => binD o x y := by
        funext Γ
        simp only [ev]
      rw [e] at hh
      exact hh
    · cases h
  | neg a =>
    simp only [chkE] at h
    split at h
    · obtain ⟨h1, h2⟩ := ba2 h
      rw [of_decide_eq_true h1]
      refine pe_imp (se_neg (M := M) (fa := ev G a) (ih.E gd h2)) fun σ H Q hh => ?_
      have e : ev G (.neg a) = fun Γ => (ev G a Γ).bind fun x => negD x.1 := by
        funext Γ
        simp only [ev]
      rw [e] at hh
      exact hh
    · cases h
  | tst t =>
    simp only [chkE] at h
    exact ih.TE gd h
  | ifx t a b =>
    simp only [chkE] at h
    split at h
    · obtain ⟨h1, h2⟩ := ba2 h
      obtain ⟨h2, h3⟩ := ba2 h2
      exact se_ifx (ih.T gd h1) (ih.E gd h2) (ih.E gd h3)
    · cases h
  | idx b k =>
    simp only [chkE] at h
    split at h
    · exact (snd_idxV ih gd h).2
    · cases h
  | slc b lo hi =>
    simp only [chkE] at h
    split at h
    · split at h
      · rename_i s _
        obtain ⟨h0, h⟩ := ba2 h
        obtain ⟨h1, h⟩ := ba2 h
        obtain ⟨h2, h3⟩ := ba2 h
        have es := Option.isNone_iff_eq_none.mp h0
        rw [es]
        refine pe_imp (se_slc (ih.B gd h1) (ih.P gd h2) (ih.P gd h3)) fun σ H Q hh => ?_
        have e : ev G (.slc b lo hi) = fun Γ => (vw G b Γ).bind fun x => ((evs G lo Γ).bind partOf).bind fun l => ((evs G hi Γ).bind partOf).bind fun h => slcD x l h := by
          funext Γ
          simp only [ev, bind_assoc]
        rw [e] at hh
        exact hh
      · cases h
    · cases h
  | rev b =>
    simp only [chkE] at h
    split at h
    · obtain ⟨h1, h⟩ := ba2 h
      obtain ⟨h2, h3⟩ := ba2 h
      rw [of_decide_eq_true h1, of_decide_eq_true h2]
      exact se_rev (ih.B gd h3)
    · cases h
  | att b f =>
    simp only [chkE] at h
    split at h
    · obtain ⟨h1, h2⟩ := ba2 h
      obtain ⟨h2, h3⟩ := ba2 h2
      rw [of_decide_eq_true h1]
      exact sv_att (fun c => gd.gl.at_ c f) (ih.B gd h3) (base_ok h2)
    · cases h
  | call i cs =>
    simp only [chkE] at h
    split at h
    · obtain ⟨h2, h⟩ := ba2 h
      obtain ⟨h3, h⟩ := ba2 h
      obtain ⟨h4, h5⟩ := ba2 h
      rw [List.all_cons] at h4
      obtain ⟨s1, s2⟩ := ba2 h4
      obtain ⟨g1, g2⟩ := gd.glo h3
      split at h2
      · rename_i s hs
        obtain ⟨h1, h2⟩ := ba2 h2
        have hc : cx.hot = false := by simpa using h1
        have ex := of_decide_eq_true h2
        obtain ⟨dv, ψ, e1, F⟩ := gd.gl.fn i s (.inl hs)
        rw [ex] at g1 g2
        rw [ex]
        exact se_call F e1 (gd.cold hc).2.1 gd.tk g1 (ih.Es gd h5).1 g2 (star_cons s1) (star_plain s2)
      · rename_i s hs
        obtain ⟨h1, h2⟩ := ba2 h2
        have hc : cx.hot = false := by simpa using h1
        have ex := of_decide_eq_true h2
        obtain ⟨dv, ψ, e1, F⟩ := gd.gl.fn i s (.inr hs)
        rw [ex] at g1 g2
        rw [ex]
        exact se_call F e1 (gd.cold hc).2.1 gd.tk g1 (ih.Es gd h5).1 g2 (star_cons s1) (star_plain s2)
      · rename_i s hs
        obtain ⟨h1, h2⟩ := ba2 h2
        have hc : cx.hot = false := by simpa using h1
        have ex := of_decide_eq_true h2
        obtain ⟨φ, j, e1, hj, F⟩ := gd.gl.mkc i s hs
        rw [ex] at g1 g2
        rw [ex]
        exact se_new F e1 ((gd.cold hc).2.1.mono hj) gd.tk g1 (ih.Es gd h5).1 g2 (star_cons s1) (star_plain s2)
      · rename_i s hs
        obtain ⟨h1, h2⟩ := ba2 h2
        have ex := of_decide_eq_true h2
        obtain ⟨ψ, e1, F⟩ := gd.gl.hotf i s hs
        rw [ex] at g1 g2
        rw [ex]
        exact se_callH F e1 (gd.warm h1).2 (gd.warm h1).1 gd.tk g1 (ih.Es gd h5).1 g2 (star_cons s1) (star_plain s2)
      · cases h2
    · cases h
  | bi f bs =>
    simp only [chkE] at h
    split at h
    · obtain ⟨h1, h⟩ := ba2 h
      obtain ⟨h2, h⟩ := ba2 h
      obtain ⟨h3, h⟩ := ba2 h
      obtain ⟨h4, h5⟩ := ba2 h
      split at h2
      · rename_i q hq
        exact snd_bi ih gd hq (of_decide_eq_true h2) h1 h3 h4 h5
      · cases h2
    · cases h
  | comp m t s ifs c =>
    obtain ⟨elt, tg, iter, ifs', scope, pos, e1, hc, hi, ns, ok, lt, hb⟩ := snd_comp ih gd h
    subst e1
    constructor
    intro pins sh σ H Q I hh
    have p := pe_lc (pos := pos) hc gd.nd hi ok (fun s H C cl fp => (hb s H C cl fp).1) (fun s H C cl fp => (hb s H C cl fp).2.1) (fun s H C cl fp => (hb s H C cl fp).2.2) (folded_no ns)
    rw [own_map] at p
    exact p.run pins sh σ H Q I (lc_read (m := m) (fun i hi => by rw [I.len]; exact lt i hi) hh)
  | comp2 m t s ifs t2 s2 ifs2 c =>
    obtain ⟨elt, tg, iter, ifs', tg2, iter2, ifs2', scope, pos, e1, hc, hi, ns, ns2, ok, lt, hb⟩ := snd_comp2 ih gd h
    subst e1
    constructor
    intro pins sh σ H Q I hh
    have p := pe_lc2 (pos := pos) (vs1 := t2.slots) hc gd.nd hi ok (fun i hi => by rw [own_map]; exact List.mem_append_right _ hi) (fun s H C cl fp => (hb s H C cl fp).1) (fun s H C cl fp => (hb s H C cl fp).2.1)
      (fun s H C cl fp => (hb s H C cl fp).2.2.1) (fun s H C cl fp => (hb s H C cl fp).2.2.2.1) (fun s H C cl fp => (hb s H C cl fp).2.2.2.2.1) (fun s H C cl fp => (hb s H C cl fp).2.2.2.2.2) (folded_no ns) (fun env => folded_no ns2)
    rw [own_map] at p
    exact p.run pins sh σ H Q I (lc2_read (m := m) (fun i hi => by rw [I.len]; exact lt i hi) hh)
  | mth c m i co cs =>
    simp only [chkE] at h
    split at h
    · rename_i x p1 a p2 as p3
      obtain ⟨h1, h⟩ := ba2 h
      obtain ⟨h2, h⟩ := ba2 h
      obtain ⟨h3, h⟩ := ba2 h
      obtain ⟨h4, h⟩ := ba2 h
      obtain ⟨h5, h⟩ := ba2 h
      obtain ⟨h6, h⟩ := ba2 h
      obtain ⟨h7, h⟩ := ba2 h
      obtain ⟨h8, h9⟩ := ba2 h
      have hc : cx.hot = false := by simpa using h1
      obtain ⟨φ, j, e1, hj, F⟩ := gd.gl.mtc i c m (of_decide_eq_true h4)
      have hrj := (gd.cold hc).2.1.mono (Nat.le_of_succ_le hj)
      rw [of_decide_eq_true h2]
      have ht := meth_tree (o := .Name x p1) (m := Str.ofString m) (apos := p2) (pos := p3) (es := as) (env := X.env) rfl (form_ok h7 (of_decide_eq_true h6)) h5
      cases as with
      | nil =>
        have e0 : cs = [] := List.eq_nil_of_length_eq_zero (by rw [← (ih.Es gd h9).2]; rfl)
        subst e0
        exact se_mth0 F e1 hrj gd.tk (ih.E gd h8) h3 ht
      | cons b bs =>
        rw [List.all_cons] at h7
        obtain ⟨s1, s2⟩ := ba2 h7
        exact se_mth F e1 hrj gd.tk (ih.E gd h8) (ih.Es gd h9).1 h3 (star_cons s1) (star_plain s2) ht
    · obtain ⟨h1, h⟩ := ba2 h
      obtain ⟨h2, h⟩ := ba2 h
      obtain ⟨h3, h⟩ := ba2 h
      obtain ⟨h4, h⟩ := ba2 h
      obtain ⟨h5, h6⟩ := ba2 h
      have hc : cx.hot = false := by simpa using h1
      have em := of_decide_eq_true h3
      subst em
      obtain ⟨φ, j, e1, hj, F⟩ := gd.gl.mtc i c "__neg__" (of_decide_eq_true h4)
      rw [of_decide_eq_true h2, List.isEmpty_iff.mp h5]
      exact se_dneg F e1 ((gd.cold hc).2.1.mono (Nat.le_of_succ_le hj)) gd.tk (ih.E gd h6)
    · split at h
      · obtain ⟨h1, h⟩ := ba2 h
        obtain ⟨h2, h⟩ := ba2 h
        obtain ⟨h3, h⟩ := ba2 h
        obtain ⟨h4, h⟩ := ba2 h
        obtain ⟨h5, h6⟩ := ba2 h
        have hc : cx.hot = false := by simpa using h1
        obtain ⟨φ, j, e1, hj, F⟩ := gd.gl.mtc i c m (of_decide_eq_true h3)
        obtain ⟨d1, d2, d3⟩ := dun_of (of_decide_eq_true h2)
        exact se_dbin F e1 ((gd.cold hc).2.1.mono (Nat.le_of_succ_le hj)) gd.tk d1 d2 d3 (gd.gl.ops c (by simpa using h4)).sf (ih.E gd h5) (ih.E gd h6)
      · cases h
    · obtain ⟨h1, h⟩ := ba2 h
      obtain ⟨h2, h⟩ := ba2 h
      obtain ⟨h3, h⟩ := ba2 h
      obtain ⟨h4, h⟩ := ba2 h
      obtain ⟨h5, h⟩ := ba2 h
      obtain ⟨h6, h⟩ := ba2 h
      obtain ⟨h7, h8⟩ := ba2 h
      have hc : cx.hot = false := by simpa using h1
      obtain ⟨g1, g2⟩ := gd.glo h3
      have ef := of_decide_eq_true h2
      have em := of_decide_eq_true h4
      subst em
      rw [ef] at g1
      obtain ⟨φ, j, e1, hj, F⟩ := gd.gl.mtc i c "__len__" (of_decide_eq_true h6)
      rw [ef, List.isEmpty_iff.mp h5]
      exact se_dlen F e1 ((gd.cold hc).2.1.mono hj) g1 (gd.gl.bl "len" (by decide)) (ih.E gd h8) (star_cons h7)
    · cases h
  | dnew t =>
    simp only [chkE] at h
    split at h
    · exact se_dnew
    · cases h
  | lend i c =>
    simp only [chkE] at h
    obtain ⟨h1, h2⟩ := ba2 h
    have hc : cx.hot = false := by simpa using h1
    exact se_lend (gd.cold hc).2.2 (ih.E gd h2)
  | dget b k ds =>
    simp only [chkE] at h
    split at h
    · obtain ⟨h1, h⟩ := ba2 h
      obtain ⟨h2, h⟩ := ba2 h
      obtain ⟨h3, h⟩ := ba2 h
      obtain ⟨h4, h⟩ := ba2 h
      obtain ⟨h5, h6⟩ := ba2 h
      rw [of_decide_eq_true h1]
      exact se_dget1 (units1 gd.un) (ih.B gd h5) (ih.E gd h6) ⟨base_ok h2, by rw [star_cons h4]; rfl, h3, by rw [star_cons h4]; rfl⟩
    · obtain ⟨h1, h⟩ := ba2 h
      obtain ⟨h2, h⟩ := ba2 h
      obtain ⟨h3, h⟩ := ba2 h
      obtain ⟨h4, h⟩ := ba2 h
      obtain ⟨h5, h⟩ := ba2 h
      obtain ⟨h6, h⟩ := ba2 h
      obtain ⟨h7, h8⟩ := ba2 h
      rw [of_decide_eq_true h1]
      exact se_dget2 (units1 gd.un) (ih.B gd h6) (ih.E gd h7) (ih.E gd h8) ⟨base_ok h2, by rw [star_cons2 h4 h5]; rfl, h3, by rw [star_cons2 h4 h5]; rfl⟩
    · cases h
  | exf i f =>
    simp only [chkE] at h
    split at h
    · obtain ⟨h1, h⟩ := ba2 h
      obtain ⟨h2, h3⟩ := ba2 h
      have xv := of_decide_eq_true h1
      rw [gd.xv] at xv
      obtain ⟨ei, hx, hi⟩ := Option.map_eq_some_iff.mp xv
      obtain ⟨X0, oe, pn, eX, hz, hf⟩ := gd.xs ei hx
      have hz := hz.zc
      obtain ⟨l1, l2, l3, l4⟩ := gd.loc h3
      rw [of_decide_eq_true h2]
      have xt := gd.gl.xt
      subst eX
      exact se_exf hx hi (fun c => xt c f) hz hf l1 l2 l3 l4 (base_ok rfl)
    · cases h
  | kcall i cs zs =>
    simp only [chkE] at h
    split at h
    · rename_i x p as kws pos
      obtain ⟨h1, h⟩ := ba2 h
      obtain ⟨h2, h⟩ := ba2 h
      obtain ⟨h3, h⟩ := ba2 h
      obtain ⟨h4, h⟩ := ba2 h
      obtain ⟨h5, h6⟩ := ba2 h
      have hc : cx.hot = false := by simpa using h1
      obtain ⟨calm, room, hx⟩ := gd.cold hc
      obtain ⟨g1, g2⟩ := gd.glo h3
      split at h2
      · rename_i s cl m ks b pm hs
        obtain ⟨a1, a⟩ := ba2 h2
        obtain ⟨a2, a3⟩ := ba2 a
        have ex := of_decide_eq_true a1
        have em := of_decide_eq_true a2
        have ek := of_decide_eq_true a3
        rw [ex] at g1 g2
        rw [ex]
        obtain ⟨ψ, j, e1, hj, F⟩ := gd.gl.kwf i s cl m ks b pm hs
        obtain ⟨pa, la⟩ := ih.Es gd h5
        obtain ⟨pk, lk⟩ := ih.Ks gd h6
        have T := kwT_of (X := X) (pos := pos) h4 ek
        have hz : zs.length = ks.length := by
          rw [← lk, (kw_names (pos := pos) (env := X.env) ek).2.2.2]
        cases cl with
        | false =>
          obtain ⟨f, fd, ps, g, gV, φ, q1, q2, q3, q4, q5⟩ := F.is
          cases as with
          | nil =>
            have e0 : cs = [] := List.eq_nil_of_length_eq_zero (by rw [← la]; rfl)
            subst e0
            refine pe_imp (pe_callN20 (E := WE M.W) q5 (room.mono (Nat.le_of_succ_le hj)) g1 q1 q2 q3 (fun σ => L2N.passAt gd.tk σ) pk T g2) fun σ H Q hh => ?_
            obtain ⟨g', S, C, Γ, st, h'⟩ := hh
            have h' : PO X.K M.W g' S σ H C (ev G (.kcall i [] zs) Γ) (QE X.K g' S σ H C Q) := h'
            have rd := kcall_read (x := s) (Q := Q) e1 em hz q4 ⟨g', S, C, Γ, st, h'⟩
            obtain ⟨g2', S2, C2, Γ2, st2, hh2⟩ := rd
            exact hh2 [] S2 H .rfl .rfl st2.toStt .nil
          | cons e es => exact pe_imp (pe_callN2 (E := WE M.W) q5 (room.mono (Nat.le_of_succ_le hj)) g1 q1 q2 q3 (fun σ => L2N.passAt gd.tk σ) pa pk T g2) fun σ H Q hh => kcall_read (x := s) e1 em hz q4 hh
        | true =>
          obtain ⟨f, fd, ps, g, gV, φ, q1, q2, q3, q4, q0, q5⟩ := F.is
          cases as with
          | nil =>
            have e0 : cs = [] := List.eq_nil_of_length_eq_zero (by rw [← la]; rfl)
            subst e0
            refine pe_imp (pe_makeN20 (E := WE M.W) q1 q5 (room.mono hj) g1 q2 q3 (fun σ => L2N.passAt gd.tk σ) pk T g2) fun σ H Q hh => ?_
            have rd := kmake_read (c := s) (Q := Q) e1 em hz q4 q0 hh
            obtain ⟨g2', S2, C2, Γ2, st2, hh2⟩ := rd
            exact hh2 [] S2 H .rfl .rfl st2.toStt .nil
          | cons e es => exact pe_imp (pe_makeN2 (E := WE M.W) q1 q5 (room.mono hj) g1 q2 q3 (fun σ => L2N.passAt gd.tk σ) pa pk T g2) fun σ H Q hh => kmake_read (c := s) e1 em hz q4 q0 hh
      · cases h2
    · cases h
theorem snd_all : ∀ n, Snd n
  | 0 => {
    E := fun _ _ _ h => absurd (show false = true from h) (by decide)
    B := fun _ _ _ h => absurd (show false = true from h) (by decide)
    T := fun _ _ _ h => absurd (show false = true from h) (by decide)
    TE := fun _ _ _ h => absurd (show false = true from h) (by decide)
    W := fun _ _ _ _ _ h => absurd (show false = true from h) (by decide)
    WE := fun _ _ _ _ _ h => absurd (show false = true from h) (by decide)
    Es := fun _ _ _ h => absurd (show false = true from h) (by decide)
    Ks := fun _ _ _ h => absurd (show false = true from h) (by decide)
    Bs := fun _ _ _ h => absurd (show false = true from h) (by decide)
    Ts := fun _ _ _ h => absurd (show false = true from h) (by decide)
    P := fun _ _ _ h => absurd (show false = true from h) (by decide)
    S := fun _ _ _ _ _ h => absurd (show false = true from h) (by decide) }
  | n + 1 => {
    E := fun gd _ _ h => snd_E (snd_all n) gd h
    B := fun gd _ _ h => snd_B (snd_all n) gd h
    T := fun gd _ _ h => snd_T (snd_all n) gd h
    TE := fun gd _ _ h => snd_TE (snd_all n) gd h
    W := fun gd _ _ _ _ h => snd_W (snd_all n) gd h
    WE := fun gd _ _ _ _ h => snd_WE (snd_all n) gd h
    Es := fun gd _ _ h => snd_Es (snd_all n) gd h
    Ks := fun gd _ _ h => snd_Ks (snd_all n) gd h
    Bs := fun gd _ _ h => snd_Bs (snd_all n) gd h
    Ts := fun gd _ _ h => snd_Ts (snd_all n) gd h
    P := fun gd _ _ h => snd_P (snd_all n) gd h
    S := fun gd _ _ _ _ h => snd_S (snd_all n) gd h }
end
end Ev
/-! Ev, part W: soundness of the check (statements); the rule for a def. -/
namespace Ev
open PySem PySem.Spec L2
structure GoodS (cx : Cfg) (G : Glb) (k : Nat) (X : Cx) (M : Md) : Prop extends Good cx G k X M where
  po : PassesOwn (model X.prog X.w) X.A X.env X.xe
  stk : X.stack = X.env :: X.outer
  frm : X.env.frame = some X.env.locals
section
variable {n : Nat} {cx : Cfg} {G : Glb} {k : Nat} {X : Cx} {M : Md}
theorem swap_no {e : Expr} {tg : Option Expr} {l : Nat} {env : PySem.Env} (h : isComp e = false) : swapsWith e tg l env = pure false := by
  cases e <;> first | rfl | cases h
theorem swap_list {cx : Cfg} {elt : Expr} {gs : List Comprehension} {scope : Scope} {pos : Pos} {tg : Expr} {l : Nat} {env : PySem.Env} (hn : env.scope.names = cx.nm) (hk : env.scope.kind = .function) (h : swapB cx tg (.ListComp elt gs scope pos) = false) : swapsWith (.ListComp elt gs scope pos) (some tg) l env = pure false := by
  cases tg with
  | Name y py =>
    have hb : env.blockKind = .function := by unfold Env.blockKind; rw [hk]; rfl
    have ky : env.kindOf y = cx.nm.lookup y := by unfold Env.kindOf; rw [hn]
    have h2 : (decide (cx.nm.lookup y = some .local) && ((py.line == pos.line) && !(scope.names.any fun p => p.1 == y && (p.2 == .local || p.2 == .cell)))) = false := h
    have e : ((ScopeKind.function == ScopeKind.function) && (cx.nm.lookup y == some .local) && (py.line == pos.line) && !(scope.names.any fun p => p.1 == y && (p.2 == .local || p.2 == .cell))) = false := by
      rw [show (ScopeKind.function == ScopeKind.function) = true from rfl, Bool.true_and, Bool.and_assoc, show (cx.nm.lookup y == some NameKind.local) = decide (cx.nm.lookup y = some .local) from Bool.eq_iff_iff.mpr (by simp)]
      exact h2
    unfold swapsWith
    simp only [hb, ky, Expr.pos]
    rw [e]
  | _ => rfl
theorem swappedNo {tg e : Expr} {env : PySem.Env} (h : (isTup tg && isTup e) = false) (ht : ∀ es p, tg ≠ .List es p) : swappedStores [tg] e env = pure none := by
  cases tg with
  | Tuple es kk p =>
    cases e <;> first | rfl | cases h
  | List es p => exact absurd rfl (ht es p)
  | _ => cases e <;> rfl
theorem tg_shape {t : TG} {tg : Expr} (h : chkTG cx t tg = true) : (∃ i x p, t = .nm i ∧ tg = .Name x p) ∨ (∃ ts es kk p, t = .tp ts ∧ tg = .Tuple es kk p) := by
  unfold chkTG at h
  split at h
  · exact .inl ⟨_, _, _, rfl, rfl⟩
  · exact .inr ⟨_, _, _, _, rfl, rfl⟩
  · cases h
/-- name = [..] -/
theorem s_asgLc {i : Nat} {x : Str} {p pos : Pos} {e : Expr} {fz : Bool} {c : EC} {t : TE} (hx : M.x = none) (hi : X.N[i]? = some x) (ps : PS X (.Assign [.Name x p] e pos) (tAsg t (gName i))) (rd : ∀ σ H Q, σ.length = X.N.length → tE X.K M (ev G c) σ H Q → t σ H Q) :
    PS X (.Assign [.Name x p] e pos) (tSt X.K M (ex G (.asg (.nm i) fz c))) := by
  constructor
  intro pins s σ H E I ⟨g, S, C, Γ, st, h⟩
  refine ps.run pins s σ H E I (rd σ H _ I.len ?_)
  simp only [ex] at h
  refine useOE st h fun c v S1 H1 sH sS st1 got q => ?_
  obtain ⟨S2, a, st2, got2⟩ := got_fz fz st1.toStt got
  obtain ⟨j, hj, hc⟩ := st2.free
  have hl : i < σ.length := by rw [I.len]; exact (List.getElem?_eq_some_iff.mp hi).1
  have s1 := (got2 j hj hc).store (i := i) setC_same hl (by omega)
  rw [setC_setC, setC_self hc] at s1
  exact q _ S2 H1 _ a ⟨s1, st.gr.set, by rw [hx]; trivial⟩
theorem snd_asg (gd : GoodS cx G k X M) {t : TG} {fz : Bool} {c : EC} {tg e : Expr} {pos : Pos} (h1 : (!cx.hot) = true) (h : (nStar tg && (!(isTup tg && isTup e) && ((!swapB cx tg e || isCompC c) && ((isLC e || !isComp e) && (chkTG cx t tg && chkE n cx c e))))) = true) : PS X (.Assign [tg] e pos) (tSt X.K M (ex G (.asg t fz c))) := by
  · obtain ⟨h2, h⟩ := ba2 h
    obtain ⟨h3, h⟩ := ba2 h
    obtain ⟨h4, h⟩ := ba2 h
    obtain ⟨h44, h⟩ := ba2 h
    obtain ⟨h5, h6⟩ := ba2 h
    have hc : cx.hot = false := by simpa using h1
    obtain ⟨calm, room, hx⟩ := gd.cold hc
    have tup : (isTup tg && isTup e) = false := by
      cases q : (isTup tg && isTup e) with
      | false => rfl
      | true => rw [q] at h3; cases h3
    have nl : ∀ es p, tg ≠ .List es p := fun es p z => by
      subst z
      rcases tg_shape h5 with ⟨_, _, _, _, z⟩ | ⟨_, _, _, _, _, z⟩ <;> cases z
    by_cases sw : swapB cx tg e = true
    · have hcc : isCompC c = true := by
        rw [sw] at h4
        simpa using h4
      obtain ⟨i, x, p, et, eg⟩ : ∃ i x p, t = .nm i ∧ tg = .Name x p := by
        rcases tg_shape h5 with z | ⟨_, _, _, _, _, z⟩
        · exact z
        · subst z; cases e <;> cases sw
      subst et eg
      obtain ⟨g1, g2, g3⟩ := gd.sto (by simpa only [chkTG] using h5)
      have parts : ∀ {elt gs scope lp}, e = .ListComp elt gs scope lp → X.env.scope.names.lookup x = some .local ∧ (p.line == lp.line) = true ∧ (scope.names.any fun (m, kk) => m == x && (kk == .local || kk == .cell)) = false := fun {elt gs scope lp} ee => by
        subst ee
        unfold swapB at sw
        obtain ⟨w1, w2⟩ := ba2 sw
        obtain ⟨w2, w3⟩ := ba2 w2
        refine ⟨by rw [gd.nm]; exact of_decide_eq_true w1, w2, ?_⟩
        simpa using w3
      cases n with
      | zero => exact absurd (show false = true from h6) (by decide)
      | succ n =>
      cases c with
      | comp m t2 s2 ifs c2 =>
        obtain ⟨elt, tg2, iter, ifs', scope, lp, e1, _, hi, ns, ok, lt, hb⟩ := snd_comp (snd_all n) gd.toGood h6
        obtain ⟨w1, w2, w3⟩ := parts e1
        subst e1
        have q := ps_setLc (spos := pos) calm gd.nd g1 w1 (sw_true gd.kd w1 w2 w3) hi ok (fun s H C cl fp => (hb s H C cl fp).1) (fun s H C cl fp => (hb s H C cl fp).2.1) (fun s H C cl fp => (hb s H C cl fp).2.2) (folded_no ns)
        rw [own_map] at q
        exact s_asgLc hx g1 q fun σ H Q hl hh => lc_read (m := m) (fun i hi => by rw [hl]; exact lt i hi) hh
      | comp2 m t2 s2 ifs t3 s3 ifs3 c2 =>
        obtain ⟨elt, tg2, iter, ifs', tg3, iter3, ifs3', scope, lp, e1, _, hi, ns, ns2, ok, lt, hb⟩ := snd_comp2 (snd_all n) gd.toGood h6
        obtain ⟨w1, w2, w3⟩ := parts e1
        subst e1
        have q := ps_setLc2 (spos := pos) (vs1 := t3.slots) calm gd.nd g1 w1 (sw_true gd.kd w1 w2 w3) hi ok (fun i hi => by rw [own_map]; exact List.mem_append_right _ hi) (fun s H C cl fp => (hb s H C cl fp).1) (fun s H C cl fp => (hb s H C cl fp).2.1)
          (fun s H C cl fp => (hb s H C cl fp).2.2.1) (fun s H C cl fp => (hb s H C cl fp).2.2.2.1) (fun s H C cl fp => (hb s H C cl fp).2.2.2.2.1) (fun s H C cl fp => (hb s H C cl fp).2.2.2.2.2) (folded_no ns) (fun env => folded_no ns2)
        rw [own_map] at q
        exact s_asgLc hx g1 q fun σ H Q hl hh => lc2_read (m := m) (fun i hi => by rw [hl]; exact lt i hi) hh
      | _ => cases hcc
    · have sw : swapB cx tg e = false := by simpa using sw
      refine s_asg hx ((snd_all n).E gd.toGood h6) (Good.tg gd.toGood calm (fun _ z => z) h5) ?_ (swappedNo tup nl) (by rw [asg_cons h2] <;> rfl)
      show swapsWith e (some tg) pos.line X.env = pure false
      cases e with
      | ListComp elt gs scope lp => exact swap_list gd.nm gd.kd sw
      | SetComp elt gs scope lp => cases h44
      | DictComp a b gs scope lp => cases h44
      | _ => rfl
end
end Ev
/-! Ev, part Wa: a, b = x, y. -/
namespace Ev
open PySem PySem.Spec L2
section
variable {K : PySem.W.Frag} {g : Gh} {S H : Hp} {σ : L2.St} {C : CM} {Γ : Env}
theorem set_slot {d : D} {v : V} {i : Nat} (st : Stt K g S σ H C) (gr : GR C Γ σ) (r : Rp K S d v) : ∃ C', Stt K g S (σ.set i (some v)) H C' ∧ GR C' (Γ.set i (some (d, 0))) (σ.set i (some v)) := by
  by_cases hi : i < σ.length
  · obtain ⟨j, hj, hc⟩ := st.free
    refine ⟨_, (st.hold r hj hc).store setC_same hi (by omega), ?_⟩
    rw [setC_setC, setC_self hc]
    exact gr.set
  · refine ⟨C, ?_, ?_⟩
    · rw [List.set_eq_of_length_le (by omega)]; exact st
    · rw [List.set_eq_of_length_le (l := Γ) (by rw [gr.1]; omega), List.set_eq_of_length_le (by omega)]; exact gr
end
section
variable {n : Nat} {cx : Cfg} {G : Glb} {k : Nat} {X : Cx} {M : Md}
theorem s_par {i j : Nat} {x y : Str} {a b : Expr} {ca cb : EC} {fz : Bool} {px py pt pos : Pos} {kt k2 pt2} (hM : M.x = none) (hc : X.calm = true) (hN : X.N.Nodup) (hi : X.N[i]? = some x) (hj : X.N[j]? = some y) (hij : i ≠ j)
    (hx : X.env.scope.names.lookup x = some .local) (hy : X.env.scope.names.lookup y = some .local) (ha : PA X [a, b] (tL X.K M (evs G [ca, cb])))
    (hw : swappedStores [.Tuple [.Name x px, .Name y py] kt pt] (.Tuple [a, b] k2 pt2) X.env = pure (some [x, y])) :
    PS X (.Assign [.Tuple [.Name x px, .Name y py] kt pt] (.Tuple [a, b] k2 pt2) pos) (tSt X.K M (ex G (.asg (.tp [.nm i, .nm j]) fz (.tup [ca, cb])))) := by
  refine ps_imp (ps_par hc hN hi hj hij hx hy ha hw) fun E σ H ⟨g, S, C, Γ, st, h⟩ => ?_
  have e0 : ex G (.asg (.tp [.nm i, .nm j]) fz (.tup [ca, cb])) Γ = (evs G [ca, cb] Γ).out Γ fun ds => (asgT (.tp [.nm i, .nm j]) (.tup (ds.map (·.1)), 0) Γ).out Γ .nx := by
    simp only [ex, ev]
    cases evs G [ca, cb] Γ with
    | ok ds => cases fz <;> rfl
    | exc c ns ds => rfl
    | fail => rfl
  rw [e0] at h
  refine useOL st h fun ds vs S1 H1 sH sS st1 r q => ?_
  rcases ds with _ | ⟨d1, _ | ⟨d2, _ | ⟨d3, ds⟩⟩⟩
  · simp only [List.map_nil, asgT, asgL, Res.out_fail] at q; exact q.elim
  · simp only [List.map_cons, List.map_nil, asgT, asgL, Res.bind_ok, Res.out_fail] at q; exact q.elim
  · simp only [List.map_cons, List.map_nil, RpL] at r
    obtain ⟨v, r1, e1, rv, w, r2, e2, rw', e3⟩ := r
    subst e3 e2 e1
    simp only [List.map_cons, List.map_nil, asgT, asgL, Res.bind_ok, Res.out_ok] at q
    obtain ⟨C1, st2, gr2⟩ := set_slot (i := i) st1.toStt st1.gr rv
    obtain ⟨C2, st3, gr3⟩ := set_slot (i := j) st2 gr2 rw'
    exact ⟨v, w, rfl, q _ S1 H1 C2 .rfl ⟨st3, gr3, by rw [hM]; trivial⟩⟩
  · simp only [List.map_cons, asgT, asgL, Res.bind_ok, Res.out_fail] at q; exact q.elim
theorem snd_par (gd : GoodS cx G k X M) {t : TG} {fz : Bool} {c : EC} {tg e : Expr} {pos : Pos} (hh : cx.hot = false) (h : parB n cx t c tg e = true) : PS X (.Assign [tg] e pos) (tSt X.K M (ex G (.asg t fz c))) := by
  unfold parB at h
  split at h
  · rename_i i j ca cb x px y py kt pt a b k2 pt2
    obtain ⟨h1, h⟩ := ba2 h
    obtain ⟨h2, h⟩ := ba2 h
    obtain ⟨h3, h⟩ := ba2 h
    obtain ⟨h4, h⟩ := ba2 h
    obtain ⟨h5, h⟩ := ba2 h
    obtain ⟨h6, h⟩ := ba2 h
    obtain ⟨h7, h⟩ := ba2 h
    obtain ⟨h8, h⟩ := ba2 h
    obtain ⟨h9, h10⟩ := ba2 h
    obtain ⟨calm, room, hx⟩ := gd.cold hh
    have n1 := of_decide_eq_true h2
    have n2 := of_decide_eq_true h3
    have hN : X.N = cx.N := gd.N
    have nd := gd.nd
    have l1 : X.env.scope.names.lookup x = some .local := by rw [gd.nm]; exact of_decide_eq_true h4
    have l2 : X.env.scope.names.lookup y = some .local := by rw [gd.nm]; exact of_decide_eq_true h5
    have ij := of_decide_eq_true h1
    have xy : x ≠ y := fun z => by
      subst z
      rw [← hN] at n1 n2
      exact ij ((List.getElem?_inj (List.getElem?_eq_some_iff.mp n1).1 nd).mp (n1.trans n2.symm))
    have k1 : X.env.kindOf x = some .local := l1
    have k3 : X.env.kindOf y = some .local := l2
    have hb : X.env.blockKind = .function := by unfold Env.blockKind; rw [gd.kd]; rfl
    have hst : [a, b].all nStar = true := h7
    obtain ⟨sa, sb⟩ := ba2 (show (nStar a && ([b].all nStar)) = true from hst)
    obtain ⟨sb, _⟩ := ba2 (show (nStar b && (([] : List Expr).all nStar)) = true from sb)
    have hw : swappedStores [.Tuple [.Name x px, .Name y py] kt pt] (.Tuple [a, b] k2 pt2) X.env = pure (some [x, y]) := by
      have e3 : [x, y].eraseDups.length = 2 := by
        have : (y == x) = false := beq_eq_false_iff_ne.mpr (Ne.symm xy)
        simp [List.eraseDups_cons, this]
      have f1 : [a, b].all (foldedForSure 8) = false := by
        cases q : [a, b].all (foldedForSure 8) with
        | false => rfl
        | true => rw [q] at h8; cases h8
      have f2 : [a, b].all (constantsAlone 8) = false := by
        cases q : [a, b].all (constantsAlone 8) with
        | false => rfl
        | true => rw [q] at h9; cases h9
      have f3 : (py.line == px.line) = true := h6
      have f4 : (px.line == px.line) = true := by simp
      have f5 : (some NameKind.local == some NameKind.local) = true := rfl
      unfold swappedStores
      simp only [List.length_cons, List.length_nil, hb]
      rw [if_neg (by decide), if_neg ?_]
      · simp only [List.head?_cons, Option.map_some, Option.getD_some, Expr.pos, List.filterMap_cons, List.filterMap_nil, k1, k3, f3, f4, f5, Bool.and_self, if_true, List.length_cons, List.length_nil, e3, f1, f2]
        rfl
      · simp only [List.any_cons, List.any_nil, Bool.or_false]
        cases a <;> cases b <;> first | exact Bool.false_ne_true | (cases sa; done) | (cases sb; done)
    exact s_par hx calm nd (by rw [hN]; exact n1) (by rw [hN]; exact n2) ij l1 l2 ((snd_all n).Es gd.toGood h10).1 hw
  · cases h
end
end Ev
/-! Ev, part Wb: x.pop(k), y = x.pop(k), o.append(x.pop(k)), x.insert(k, e). -/
namespace Ev
open PySem PySem.Spec L2
section
variable {K : PySem.W.Frag} {S H : Hp}
theorem popC_ok {c : D × Nat} {ks : List D} {r : (D × Nat) × D} (h : popC c ks = some r) : ∃ l, c = (.lst l, 1) ∧ r.1.2 = 1 ∧ ((ks = [] ∧ l[l.length - 1]? = some r.2 ∧ r.1.1 = .lst l.dropLast) ∨
    ∃ i k, ks = [.int i] ∧ -(2 ^ 63) ≤ i ∧ i < 2 ^ 63 ∧ seqIndex? i l.length = some k ∧ l[k]? = some r.2 ∧ r.1.1 = .lst (l.eraseIdx k)) := by
  obtain ⟨d, n⟩ := c
  unfold popC at h
  split at h
  · split at h
    · rename_i hn
      have hn : n = 1 := hn
      subst hn
      obtain ⟨q, e, er⟩ := Option.map_eq_some_iff.mp h
      subst er
      cases d with
      | lst l =>
        simp only [pop0] at e
        obtain ⟨y, e1, e2⟩ := Option.map_eq_some_iff.mp e
        subst e2
        exact ⟨l, rfl, rfl, .inl ⟨rfl, e1, rfl⟩⟩
      | _ => simp only [pop0] at e; cases e
    · cases h
  · split at h
    · rename_i k hn
      have hn : n = 1 := hn
      subst hn
      obtain ⟨q, e, er⟩ := Option.map_eq_some_iff.mp h
      subst er
      cases d with
      | lst l =>
        cases k with
        | int i =>
          simp only [pop1] at e
          split at e
          · rename_i hi
            obtain ⟨kk, e1, e2⟩ := Option.bind_eq_some_iff.mp e
            obtain ⟨y, e3, e4⟩ := Option.map_eq_some_iff.mp e2
            subst e4
            exact ⟨l, rfl, rfl, .inr ⟨i, kk, rfl, hi.1, hi.2, e1, e3, rfl⟩⟩
          · cases e
        | _ => simp only [pop1] at e; cases e
      | _ => cases k <;> simp only [pop1] at e <;> cases e
    · cases h
  · cases h
end
section
variable {X : Cx} {M : Md} {G : Glb}
/-- an owned list edited -/
theorem edit1 {K : PySem.W.Frag} {g : Gh} {S H : Hp} {σ : L2.St} {C : CM} {l l' : List D} {a : Addr} {vs vs' : List V} {i : Nat} (st : Stt K g S σ H C) (ec : C i = some (.lst l, 1, .ref a)) (hq : H a = some (.lst vs)) (r : RpL K S l' vs') (hl : vs'.length ≤ cap) :
    Stt K g S σ (upd H a (.lst vs')) (setC C i (some (.lst l', 1, .ref a))) := by
  refine st.edit ec fun fi ow nd so => ?_
  obtain ⟨a2, vs2, ev2, ef2, hq2, lv2, r2⟩ := own1_lst.mp ow
  cases ev2
  subst ef2
  exact ⟨own1_lst.mpr ⟨a, _, rfl, rfl, upd_same, hl, r⟩, fun b hb => upd_off hb⟩
/-- what x.pop(k) does -/
def tPopE (X : Cx) (M : Md) (G : Glb) (i : Nat) (k : List EC) : TE := fun σ H Q => ∃ g S C Γ l, Sit X.K M g S σ H C Γ ∧ Γ[i]? = some (some (.lst l, 1)) ∧ PO X.K M.W g S σ H C (evs G k Γ) fun ks => ∃ r, popC (.lst l, 1) (ks.map (·.1)) = some r ∧
  ∀ v S' H' v0, C i = some (.lst l, 1, v0) → Sub S S' → Rp X.K S' r.2 v → Sit X.K M g S' σ H' (setC C i (some (r.1.1, r.1.2, v0))) (Γ.set i (some r.1)) → Q v H'
theorem pop_cell {K : PySem.W.Frag} {g : Gh} {S H : Hp} {σ : L2.St} {C : CM} {Γ : Env} {l : List D} {i : Nat} (st : Stt K g S σ H C) (gr : GR C Γ σ) (e : Γ[i]? = some (some (.lst l, 1))) : ∃ a vs, C i = some (.lst l, 1, .ref a) ∧ σ[i]? = some (some (.ref a)) ∧ H a = some (.lst vs) ∧ vs.length ≤ cap ∧ RpL K S l vs := by
  obtain ⟨v, hc, hi⟩ := gr.at_ e
  obtain ⟨fp, o⟩ := st.own
  obtain ⟨a, vs, ev, ef, hq, lv, r⟩ := own1_lst.mp (o.at_ i _ _ _ hc)
  subst ev
  exact ⟨a, vs, hc, st.slot i _ _ _ hc hi, hq, lv, r⟩
theorem rpl_last {K : PySem.W.Frag} {S : Hp} {l : List D} {vs : List V} {d : D} (r : RpL K S l vs) (e : l[l.length - 1]? = some d) : ∃ w, vs[vs.length - 1]? = some w ∧ Rp K S d w := by
  rw [r.length] at e
  exact r.get e
theorem sit_set {K : PySem.W.Frag} {M : Md} {g : Gh} {S S' H H' : Hp} {σ : L2.St} {C : CM} {Γ : Env} {i : Nat} {d : D} {n : Nat} {v : V} (hx : M.x = none) (st : Sit K M g S σ H C Γ) (h : Stt K g S' σ H' (setC C i (some (d, n, v)))) : Sit K M g S' σ H' (setC C i (some (d, n, v))) (Γ.set i (some (d, n))) :=
  ⟨h, st.gr.setΓ, by rw [hx]; trivial⟩
theorem pe_popE0 {i : Nat} {x : Str} {p1 p2 p3 : Pos} (hx : M.x = none) (hN : X.N[i]? = some x) (hv : Vis X.env.scope x) (hd : (x == ("__debug__" : Str)) = false) (hcd : (x == ("__classdict__" : Str)) = false) (hl : (p2.endLine == p3.line) = true) :
    PE X (.Call (.Attribute (.Name x p1) "pop" p2) [] [] p3) (tPopE X M G i []) := by
  refine pe_imp (pe_bm0 (r := rPop) PySem.F.plainAttrs_list PySem.F.slot_list_pop PySem.F.type_list_pop mt_pop (pe_var hN hv hd hcd) rfl hl) fun σ H Q ⟨g, S, C, Γ, l0, st, eg, h⟩ => ?_
  simp only [evs, PO] at h
  obtain ⟨r, er, h⟩ := h
  obtain ⟨l, ec, e1, ho⟩ := popC_ok er
  cases ec
  obtain ⟨a, vs, hc, hs, hq, lv, rr⟩ := pop_cell st.toStt st.gr eg
  rcases ho with ⟨_, hy, hr⟩ | ⟨_, _, z, _⟩
  · obtain ⟨w, hw, rw'⟩ := rpl_last rr hy
    refine ⟨.ref a, hs, tyV_lst hq, a, vs, w, rfl, rfl, hq, hw, ?_⟩
    refine h w S _ (.ref a) hc .rfl rw' ?_
    obtain ⟨⟨d, n⟩, y⟩ := r
    have e1 : n = 1 := e1
    have hr : d = .lst l0.dropLast := hr
    subst e1 hr
    exact sit_set hx st (edit1 st.toStt hc hq rr.dropLast (by rw [List.length_dropLast]; omega))
  · cases z
theorem pe_popE1 {i : Nat} {x : Str} {e : Expr} {k : EC} {p1 p2 p3 : Pos} (hx : M.x = none) (hN : X.N[i]? = some x) (hv : Vis X.env.scope x) (hd : (x == ("__debug__" : Str)) = false) (hcd : (x == ("__classdict__" : Str)) = false) (hl : (p2.endLine == p3.line) = true) (he : PE X e (tE X.K M (ev G k))) (hst : nStar e = true) :
    PE X (.Call (.Attribute (.Name x p1) "pop" p2) [e] [] p3) (tPopE X M G i [k]) := by
  refine pe_imp (pe_bm (r := rPopAt) PySem.F.plainAttrs_list PySem.F.slot_list_pop PySem.F.type_list_pop mt_popAt (pe_var hN hv hd hcd) (sa_cons he sa_nil (star_cons hst)) rfl (by rw [star_cons hst]; rfl) hl (star_cons hst) rfl) fun σ H Q ⟨g, S, C, Γ, l0, st, eg, h⟩ => ?_
  obtain ⟨a, vs, hc, hs, hq, lv, rr⟩ := pop_cell st.toStt st.gr eg
  refine ⟨.ref a, hs, tyV_lst hq, g, S, C, Γ, st, ?_⟩
  cases q : evs G [k] Γ with
  | ok ks =>
    rw [q] at h
    obtain ⟨r, er, h⟩ := h
    obtain ⟨l', ec', e1, ho⟩ := popC_ok er
    cases ec'
    intro us S' H' sH sS st' ru
    rcases ho with ⟨z, _⟩ | ⟨ix, kk, ek, b1, b2, hk, hy, hr⟩
    · have := evs_len [k] Γ ks q
      rw [List.map_eq_nil_iff] at z
      rw [z] at this
      cases this
    · rw [ek] at ru
      obtain ⟨u, us', eu, r1, r2⟩ := ru.cons_inv
      rw [r2.nil_inv] at eu
      subst eu
      have ei := rp_int r1
      subst ei
      have rr2 := RpL.mono sS _ _ rr
      obtain ⟨w, hw, rw'⟩ := rr2.get hy
      refine ⟨a, vs, ix, kk, w, rfl, rfl, sH _ _ hq, b1, b2, by rw [← rr.length]; exact hk, hw, ?_⟩
      refine h w S' _ (.ref a) hc sS rw' ?_
      obtain ⟨⟨d, n⟩, y⟩ := r
      have e1 : n = 1 := e1
      have hr : d = .lst (l0.eraseIdx kk) := hr
      subst e1 hr
      refine sit_set hx (st.to sS st') (edit1 st' hc (sH _ _ hq) (rr2.erase kk) ?_)
      have := len_erase vs kk
      omega
  | exc cn ns ds => rw [q] at h; exact h
  | fail => rw [q] at h; exact h.elim
theorem s_popS {i : Nat} {k : List EC} {e : Expr} {pos : Pos} (he : PE X e (tPopE X M G i k)) (hs : swapsWith e none pos.line X.env = pure false) : PS X (.Expr e pos) (tSt X.K M (ex G (.pop none i k))) := by
  refine ps_imp (ps_expr he hs) fun E σ H ⟨g, S, C, Γ, st, h⟩ => ?_
  simp only [ex] at h
  split at h
  · rename_i l eg
    refine ⟨g, S, C, Γ, l, st, eg, ?_⟩
    cases q : evs G k Γ with
    | ok ks =>
      rw [q, Res.out_ok] at h
      cases er : popC (.lst l, 1) (ks.map (·.1)) with
      | none => rw [er] at h; exact h.elim
      | some r =>
        rw [er] at h
        refine ⟨r, er, fun v S' H' v0 hc sS rv st' => ?_⟩
        exact h σ S' H' _ sS st'
    | exc cn ns ds =>
      rw [q] at h
      exact fun S' H' dx vs sH sS st' hl r x => h S' σ H' C dx vs sS st' st.gr hl r x
    | fail => rw [q] at h; exact h.elim
  · exact h.elim
theorem s_popN {i j : Nat} {k : List EC} {e : Expr} {y : Str} {py pos : Pos} (hx : M.x = none) (he : PE X e (tPopE X M G i k)) (hg : PG X (.Name y py) (tTG X.K (asgT (.nm j)) [j])) (hs : swapsWithSole [.Name y py] e pos.line X.env = pure false) (hw : swappedStores [.Name y py] e X.env = pure none)
    (h1 : (assignEach [.Name y py] X.env).map (·.2) = [assign (.Name y py) X.env]) : PS X (.Assign [.Name y py] e pos) (tSt X.K M (ex G (.pop (some j) i k))) := by
  refine ps_imp (ps_asg he hg hs hw h1) fun E σ H ⟨g, S, C, Γ, st, h⟩ => ?_
  simp only [ex] at h
  split at h
  · rename_i l eg
    refine ⟨g, S, C, Γ, l, st, eg, ?_⟩
    cases q : evs G k Γ with
    | ok ks =>
      rw [q, Res.out_ok] at h
      cases er : popC (.lst l, 1) (ks.map (·.1)) with
      | none => rw [er] at h; exact h.elim
      | some r =>
        rw [er] at h
        refine ⟨r, er, fun v S' H' v0 hc sS rv st' => ?_⟩
        have e2 : asgT (.nm j) (r.2, 0) (Γ.set i (some r.1)) = .ok ((Γ.set i (some r.1)).set j (some (r.2, 0))) := by simp only [asgT]
        exact ⟨g, S', _, _, (r.2, 0), _, st'.toStt, st'.gr, .of st'.toStt rv, e2, fun σ' C' S2 s' st2 gr2 _ _ _ => h σ' S2 H' C' (sS.tr s') ⟨st2, gr2, by rw [hx]; trivial⟩⟩
    | exc cn ns ds =>
      rw [q] at h
      exact fun S' H' dx vs sH sS st' hl r x => h S' σ H' C dx vs sS st' st.gr hl r x
    | fail => rw [q] at h; exact h.elim
  · exact h.elim
theorem s_popA {o i : Nat} {k : List EC} {x : Str} {e : Expr} {p1 p2 p3 pos : Pos} (hx : M.x = none) (hN : X.N[o]? = some x) (hv : Vis X.env.scope x) (hd : (x == ("__debug__" : Str)) = false) (hcd : (x == ("__classdict__" : Str)) = false)
    (he : PE X e (tPopE X M G i k)) (hb : attributeBase (.Name x p1) "append" X.env (eval (.Name x p1) X.env) = eval (.Name x p1) X.env)
    (hf : ((backTo p3 (starEach [e] X.env)).all (fun x => !x.1) && (backToKw p3 (keywordEach [] X.env)).all (fun x => x.1.isSome) && decide ([e].length + ([] : List Keyword).length + (if ([] : List Keyword).isEmpty then 0 else 1) < 30)) = true)
    (hl : (p2.endLine == p3.line) = true) (hst : starEach [e] X.env = (false, eval e X.env) :: starEach [] X.env) (hs : swapsWith (.Call (.Attribute (.Name x p1) "append" p2) [e] [] p3) none pos.line X.env = pure false) :
    PS X (.Expr (.Call (.Attribute (.Name x p1) "append" p2) [e] [] p3) pos) (tSt X.K M (ex G (.popA o i k))) := by
  refine ps_imp (ps_expr (pe_bm PySem.F.plainAttrs_list PySem.F.slot_list_append PySem.F.type_list_append mt_append (pe_var hN hv hd hcd) (pa_cons he pa_nil hst) hb hf hl hst rfl) hs) fun E σ H ⟨g, S, C, Γ, st, h⟩ => ?_
  simp only [ex] at h
  split at h
  · rename_i l m eo ei
    obtain ⟨a, vs, hc, hso, hq, lv, r⟩ := pop_cell st.toStt st.gr eo
    refine ⟨.ref a, hso, tyV_lst hq, g, S, C, Γ, m, st, ei, ?_⟩
    cases q : evs G k Γ with
    | ok ks =>
      rw [q, Res.out_ok] at h
      cases er : popC (.lst m, 1) (ks.map (·.1)) with
      | none => rw [er] at h; exact h.elim
      | some rr =>
        rw [er, optO_some] at h
        refine ⟨rr, er, fun v S' H' v0 hc0 sS rv st' => ?_⟩
        split at h
        · rename_i hz
          have ne := hz.2
          have hco : setC C i (some (rr.1.1, rr.1.2, v0)) o = some (.lst l, 1, .ref a) := by rw [setC_ne ne]; exact hc
          obtain ⟨fp, ow⟩ := st'.own
          obtain ⟨a2, vs2, ev, ef, hq2, lv2, r2⟩ := own1_lst.mp (ow.at_ o _ _ _ hco)
          cases ev
          have hln : vs2.length < cap := by rw [← r2.length]; exact hz.1
          refine ⟨a, vs2, v, rfl, rfl, hq2, by rw [← cap_eq]; exact hln, h σ S' _ _ sS (sit_set hx st' (edit1 st'.toStt hco hq2 (r2.append (.cons rv .nil)) ?_))⟩
          rw [List.length_append]
          exact hln
        · exact h.elim
    | exc cn ns ds =>
      rw [q] at h
      exact fun S' H' dx vs sH sS st' hl r x => h S' σ H' C dx vs sS st' st.gr hl r x
    | fail => rw [q] at h; exact h.elim
  · exact h.elim
theorem s_ins {i : Nat} {x : Str} {b e : Expr} {p1 p2 p3 pos : Pos} {k c : EC} (hx : M.x = none) (hN : X.N[i]? = some x) (hv : Vis X.env.scope x) (hd : (x == ("__debug__" : Str)) = false) (hcd : (x == ("__classdict__" : Str)) = false)
    (hk : PE X b (tE X.K M (ev G k))) (he : PE X e (tE X.K M (ev G c))) (hsb : nStar b = true) (hse : nStar e = true) (hl : (p2.endLine == p3.line) = true) :
    PS X (.Expr (.Call (.Attribute (.Name x p1) "insert" p2) [b, e] [] p3) pos) (tSt X.K M (ex G (.ins i k c))) := by
  refine ps_imp (ps_expr (pe_bm PySem.F.plainAttrs_list PySem.F.slot_list_insert PySem.F.type_list_insert mt_insert (pe_var hN hv hd hcd) (pa_cons hk (pa_cons he pa_nil (star_cons hse)) (star_cons hsb)) rfl (by rw [star_cons2 hsb hse]; rfl) hl (star_cons hsb) (by rw [star_cons hse]; rfl)) rfl) fun E σ H ⟨g, S, C, Γ, st, h⟩ => ?_
  simp only [ex] at h
  split at h
  · rename_i l ei
    obtain ⟨a, vs, hc, hso, hq, lv, r⟩ := pop_cell st.toStt st.gr ei
    refine ⟨.ref a, hso, tyV_lst hq, useOF st h fun kk u S1 H1 sH sS st1 r1 q => useOF st1 q fun y w S2 H2 sH2 sS2 st2 r2 q2 => ?_⟩
    obtain ⟨kd, kn⟩ := kk
    cases kd with
    | int j =>
      dsimp only at q2
      split at q2
      · rename_i hz
        have eu := rp_int r1
        subst eu
        have hln : vs.length < cap := by rw [← r.length]; exact hz.1
        have rr := RpL.mono (sS.tr sS2) _ _ r
        refine ⟨a, vs, j, w, rfl, rfl, sH2 _ _ (sH _ _ hq), by rw [← cap_eq]; exact hln, hz.2.1, hz.2.2, q2 σ S2 _ _ .rfl (sit_set hx st2 (edit1 st2.toStt hc (sH2 _ _ (sH _ _ hq)) (((rr.take _).append (.cons r2 .nil)).append (rr.drop _)) ?_))⟩
        rw [List.length_append, List.length_append, List.length_take, List.length_drop, List.length_singleton]
        omega
      · exact q2.elim
    | _ => exact q2.elim
  · exact h.elim
end
section
variable {n : Nat} {cx : Cfg} {G : Glb} {k : Nat} {X : Cx} {M : Md}
theorem snd_pop (gd : Good cx G k X M) (hc : cx.hot = false) {i : Nat} {ks : List EC} {e : Expr} (h : popB n cx i ks e = true) : PE X e (tPopE X M G i ks) ∧ isComp e = false := by
  unfold popB at h
  split at h
  · rename_i x p1 f p2 es p3
    obtain ⟨h1, h⟩ := ba2 h
    obtain ⟨h2, h⟩ := ba2 h
    obtain ⟨h3, h⟩ := ba2 h
    obtain ⟨l1, l2, l3, l4⟩ := gd.loc h2
    have hx := (gd.cold hc).2.2
    rw [of_decide_eq_true h1]
    refine ⟨?_, rfl⟩
    split at h
    · exact pe_popE0 hx l1 l2 l3 l4 h3
    · obtain ⟨h4, h5⟩ := ba2 h
      exact pe_popE1 hx l1 l2 l3 l4 h3 ((snd_all n).E gd h5) h4
    · cases h
  · cases h
end
end Ev
/-! Ev, part X: soundness of the check (all statements); a def keeps its promise. -/
namespace Ev
open PySem PySem.Spec L2
section
variable {n : Nat} {cx : Cfg} {G : Glb} {k : Nat} {X : Cx} {M : Md}
structure SndS (n : Nat) : Prop where
  St : ∀ {cx G k X M}, GoodS cx G k X M → ∀ {c s}, chkSt n cx c s = true → PS X s (tSt X.K M (ex G c))
  Ss : ∀ {cx G k X M}, GoodS cx G k X M → ∀ {c ss}, chkSs n cx c ss = true → PSs X ss (tSt X.K M (ex G c))
theorem snd_sti (gd : GoodS cx G k X M) {i : Nat} {ps : List EC} {m : Nat} {c : EC} {s : Stmt} (h : chkSt (n + 1) cx (.sti i ps m c) s = true) : PS X s (tSt X.K M (ex G (.sti i ps m c))) := by
  simp only [chkSt] at h
  split at h
  · rename_i x p1 ix p2 e pos kk
    obtain ⟨h1, h⟩ := ba2 h
    obtain ⟨h2, h⟩ := ba2 h
    obtain ⟨h3, h⟩ := ba2 h
    obtain ⟨h4, h5⟩ := ba2 h
    have hc : cx.hot = false := by simpa using h1
    obtain ⟨calm, room, hx⟩ := gd.cold hc
    obtain ⟨l1, l2, l3, l4⟩ := gd.loc h2
    have nc : ∀ t, swapsWith e (some (.Subscript (.Name x p1) ix p2)) t X.env = pure false := fun t => by cases e <;> rfl
    exact s_sti1 hx (units1 gd.un) l1 l2 l3 l4 ((snd_all n).E gd.toGood h4) ((snd_all n).E gd.toGood h5) (fun v => by cases ix <;> first | rfl | cases h3) (nc pos.line) (by cases e <;> rfl) rfl
  · rename_i x p1 ix p2 ix2 p3 e pos kk kk2
    obtain ⟨h1, h⟩ := ba2 h
    obtain ⟨h2, h⟩ := ba2 h
    obtain ⟨h3, h⟩ := ba2 h
    obtain ⟨h4, h⟩ := ba2 h
    obtain ⟨h5, h⟩ := ba2 h
    obtain ⟨h6, h7⟩ := ba2 h
    have hc : cx.hot = false := by simpa using h1
    obtain ⟨calm, room, hx⟩ := gd.cold hc
    obtain ⟨l1, l2, l3, l4⟩ := gd.loc h2
    have nc : ∀ t, swapsWith e (some (.Subscript (.Subscript (.Name x p1) ix p2) ix2 p3)) t X.env = pure false := fun t => by cases e <;> rfl
    exact s_sti2 hx l1 l2 l3 l4 ((snd_all n).E gd.toGood h5) ((snd_all n).E gd.toGood h6) ((snd_all n).E gd.toGood h7) (plain_ix h3) (fun v => by cases ix2 <;> first | rfl | cases h4) (nc pos.line) (by cases e <;> rfl) rfl
  · rename_i x p1 ix p2 ix2 p3 ix3 p4 e pos kk kk2 kk3
    obtain ⟨h1, h⟩ := ba2 h
    obtain ⟨h2, h⟩ := ba2 h
    obtain ⟨h3, h⟩ := ba2 h
    obtain ⟨h4, h⟩ := ba2 h
    obtain ⟨h5, h⟩ := ba2 h
    obtain ⟨h6, h⟩ := ba2 h
    obtain ⟨h7, h⟩ := ba2 h
    obtain ⟨h8, h9⟩ := ba2 h
    have hc : cx.hot = false := by simpa using h1
    obtain ⟨calm, room, hx⟩ := gd.cold hc
    obtain ⟨l1, l2, l3, l4⟩ := gd.loc h2
    have nc : ∀ t, swapsWith e (some (.Subscript (.Subscript (.Subscript (.Name x p1) ix p2) ix2 p3) ix3 p4)) t X.env = pure false := fun t => by cases e <;> rfl
    exact s_sti3 hx l1 l2 l3 l4 ((snd_all n).E gd.toGood h6) ((snd_all n).E gd.toGood h7) ((snd_all n).E gd.toGood h8) ((snd_all n).E gd.toGood h9) (plain_ix h3) (plain_ix h4) (fun v => by cases ix3 <;> first | rfl | cases h5) (nc pos.line) (by cases e <;> rfl) rfl
  · cases h
theorem room_mono {j k : Nat} {A : Around} (r : Room k A) (h : j ≤ k) : Room j A := r.mono h
theorem snd_St (ih : SndS n) (gd : GoodS cx G k X M) {c : SC} {s : Stmt} (h : chkSt (n + 1) cx c s = true) : PS X s (tSt X.K M (ex G c)) := by
  cases c with
  | skip =>
    simp only [chkSt] at h
    split at h
    · exact s_pass
    · exact s_doc
    · cases h
  | seq a b => simp only [chkSt] at h; cases h
  | ret c =>
    simp only [chkSt] at h
    split at h
    · exact s_ret ((snd_all n).E gd.toGood h)
    · split at h
      · exact s_retN
      · cases h
    · cases h
  | reto i =>
    simp only [chkSt] at h
    split at h
    · obtain ⟨a, b, c, d⟩ := gd.loc h
      exact s_reto a b c d
    · cases h
  | asg t fz c =>
    simp only [chkSt] at h
    split at h
    · obtain ⟨h1, h⟩ := ba2 h
      rcases Bool.or_eq_true_iff.mp h with h | h
      · exact snd_par gd (by simpa using h1) h
      · exact snd_asg gd h1 h
    · cases h
  | frz i => simp only [chkSt] at h; cases h
  | sti i p m e => exact snd_sti gd h
  | app i p m c =>
    simp only [chkSt] at h
    split at h
    · rename_i x p1 f p2 e p3 pos
      obtain ⟨h1, h⟩ := ba2 h
      obtain ⟨h2, h⟩ := ba2 h
      obtain ⟨h3, h⟩ := ba2 h
      obtain ⟨h4, h⟩ := ba2 h
      obtain ⟨h5, h6⟩ := ba2 h
      have hc : cx.hot = false := by simpa using h1
      obtain ⟨calm, room, hx⟩ := gd.cold hc
      obtain ⟨l1, l2, l3, l4⟩ := gd.loc h3
      rw [of_decide_eq_true h2]
      exact s_app1 hx l1 l2 l3 l4 ((snd_all n).E gd.toGood h6) rfl (by rw [star_cons h4]; rfl) h5 (star_cons h4) rfl
    · rename_i x p1 ix p4 f p2 e p3 pos kx
      obtain ⟨h1, h⟩ := ba2 h
      obtain ⟨h2, h⟩ := ba2 h
      obtain ⟨h3, h⟩ := ba2 h
      obtain ⟨h4, h⟩ := ba2 h
      obtain ⟨h5, h⟩ := ba2 h
      obtain ⟨h6, h⟩ := ba2 h
      obtain ⟨h7, h8⟩ := ba2 h
      have hc : cx.hot = false := by simpa using h1
      obtain ⟨calm, room, hx⟩ := gd.cold hc
      obtain ⟨l1, l2, l3, l4⟩ := gd.loc h3
      rw [of_decide_eq_true h2]
      exact s_appF hx l1 l2 l3 l4 ((snd_all n).E gd.toGood h7) ((snd_all n).E gd.toGood h8) (plain_ix h4) rfl (by rw [star_cons h5]; rfl) h6 (star_cons h5) rfl
    · cases h
  | pop d i kx =>
    simp only [chkSt] at h
    split at h
    · obtain ⟨h1, h2⟩ := ba2 h
      have hc : cx.hot = false := by simpa using h1
      obtain ⟨p, q⟩ := snd_pop gd.toGood hc h2
      exact s_popS p (swap_no q)
    · rename_i y py e pos j
      obtain ⟨h1, h⟩ := ba2 h
      obtain ⟨h2, h3⟩ := ba2 h
      have hc : cx.hot = false := by simpa using h1
      obtain ⟨calm, room, hx⟩ := gd.cold hc
      obtain ⟨p, q⟩ := snd_pop gd.toGood hc h3
      exact s_popN hx p (Good.tg gd.toGood calm (fun _ z => by simpa [TG.slots] using z) (show chkTG cx (.nm j) (.Name y py) = true by simpa only [chkTG] using h2)) (swap_no (tg := some (.Name y py)) (l := pos.line) q) (swappedNo (by rfl) (fun _ _ z => nomatch z)) rfl
    · cases h
  | popA o i kx =>
    simp only [chkSt] at h
    split at h
    · rename_i x p1 f p2 e p3 pos
      obtain ⟨h1, h⟩ := ba2 h
      obtain ⟨h2, h⟩ := ba2 h
      obtain ⟨h3, h⟩ := ba2 h
      obtain ⟨h4, h⟩ := ba2 h
      obtain ⟨h5, h6⟩ := ba2 h
      have hc : cx.hot = false := by simpa using h1
      obtain ⟨calm, room, hx⟩ := gd.cold hc
      obtain ⟨l1, l2, l3, l4⟩ := gd.loc h3
      obtain ⟨p, q⟩ := snd_pop gd.toGood hc h6
      rw [of_decide_eq_true h2]
      exact s_popA hx l1 l2 l3 l4 p rfl (by rw [star_cons h4]; rfl) h5 (star_cons h4) rfl
    · cases h
  | ins i kx c =>
    simp only [chkSt] at h
    split at h
    · rename_i x p1 f p2 a e p3 pos
      obtain ⟨h1, h⟩ := ba2 h
      obtain ⟨h2, h⟩ := ba2 h
      obtain ⟨h3, h⟩ := ba2 h
      obtain ⟨h4, h⟩ := ba2 h
      obtain ⟨h5, h⟩ := ba2 h
      obtain ⟨h6, h⟩ := ba2 h
      obtain ⟨h7, h8⟩ := ba2 h
      have hc : cx.hot = false := by simpa using h1
      obtain ⟨calm, room, hx⟩ := gd.cold hc
      obtain ⟨l1, l2, l3, l4⟩ := gd.loc h3
      rw [of_decide_eq_true h2]
      exact s_ins hx l1 l2 l3 l4 ((snd_all n).E gd.toGood h7) ((snd_all n).E gd.toGood h8) h4 h5 h6
    · cases h
  | aug i o e => simp only [chkSt] at h; cases h
  | ife t a b =>
    simp only [chkSt] at h
    split at h
    · obtain ⟨h1, h⟩ := ba2 h
      obtain ⟨h2, h3⟩ := ba2 h
      exact s_ife ((snd_all n).T gd.toGood h1) (ih.Ss gd h2) (ih.Ss gd h3)
    · cases h
  | «for» t sr b =>
    simp only [chkSt] at h
    split at h
    · obtain ⟨h1, h⟩ := ba2 h
      obtain ⟨h2, h⟩ := ba2 h
      obtain ⟨h3, h4⟩ := ba2 h
      have hc : cx.hot = false := by simpa using h1
      obtain ⟨calm, room, hx⟩ := gd.cold hc
      obtain ⟨p, q⟩ := (snd_all n).S (fz := true) gd.toGood h2
      exact s_for hx gd.po calm p (Good.tg gd.toGood calm (fun _ z => z) h3) (ih.Ss gd h4) (folded_no q)
    · cases h
  | whl m t b =>
    simp only [chkSt] at h
    split at h
    · obtain ⟨h1, h⟩ := ba2 h
      obtain ⟨h2, h3⟩ := ba2 h
      exact s_whl gd.po ((snd_all n).T gd.toGood h2) (ih.Ss gd h3)
    · cases h
  | brk =>
    simp only [chkSt] at h
    split at h
    · exact s_brk
    · cases h
  | cnt =>
    simp only [chkSt] at h
    split at h
    · exact s_cnt
    · cases h
  | exp c =>
    simp only [chkSt] at h
    split at h
    · obtain ⟨h1, h2⟩ := ba2 h
      exact s_exp ((snd_all n).E gd.toGood h2) (swap_no (by simpa using h1))
    · cases h
  | rse c fs cs =>
    simp only [chkSt] at h
    split at h
    · rename_i x p a as pos rpos
      obtain ⟨h1, h⟩ := ba2 h
      obtain ⟨h2, h⟩ := ba2 h
      obtain ⟨h3, h⟩ := ba2 h
      obtain ⟨h4, h⟩ := ba2 h
      obtain ⟨h5, h⟩ := ba2 h
      obtain ⟨h6, h⟩ := ba2 h
      obtain ⟨h7, h8⟩ := ba2 h
      have hc : cx.hot = false := by simpa using h1
      obtain ⟨calm, room, hx⟩ := gd.cold hc
      obtain ⟨nf, j, hj, F⟩ := gd.gl.xm c fs (by simpa using h3)
      obtain ⟨g1, g2⟩ := gd.glo h4
      have ex := of_decide_eq_true h2
      rw [ex] at g1 g2
      rw [ex]
      rw [List.all_cons] at h7
      obtain ⟨s1, s2⟩ := ba2 h7
      exact s_rse F nf calm gd.tk (room.mono hj) g1 (of_decide_eq_true h5) (of_decide_eq_true h6) ((snd_all n).Es gd.toGood h8).1 g2 (star_cons s1) (star_plain s2)
    · cases h
  | «try» b c i hh =>
    simp only [chkSt] at h
    split at h
    · rename_i body x np y b0 su pos' pos
      obtain ⟨h1, h⟩ := ba2 h
      obtain ⟨h2, h⟩ := ba2 h
      obtain ⟨h3, h⟩ := ba2 h
      obtain ⟨h4, h⟩ := ba2 h
      obtain ⟨h5, h⟩ := ba2 h
      obtain ⟨h6, h⟩ := ba2 h
      obtain ⟨h7, h8⟩ := ba2 h
      have hc : cx.hot = false := by simpa using h1
      obtain ⟨calm, room, hx⟩ := gd.cold hc
      obtain ⟨g1, g2⟩ := gd.glo h4
      have ex := of_decide_eq_true h2
      rw [ex] at g1 g2
      rw [ex]
      obtain ⟨_, _, o3⟩ := gd.gl.own c (by simpa using h3)
      have xv0 : cx.xv = none := by rw [gd.xv, hx]; rfl
      refine s_try hx gd.gl.xmm gd.stk gd.frm gd.nd (by rw [gd.N]; exact of_decide_eq_true h5) (by unfold Env.kindOf; rw [gd.nm]; exact of_decide_eq_true h6) ⟨g1, g2, .inl o3⟩ gd.tk (fun W pn xe tk po => ih.Ss (k := k) (X := X.tr pn xe) (M := ⟨W, none⟩) ⟨⟨gd.N, gd.nd, gd.nm, gd.kd, gd.st, gd.un, fun _ => ⟨calm, room, rfl⟩, (fun z => by rw [hc] at z; cases z), tk, xv0, (fun e h => by cases h), gd.gl⟩, po, gd.stk, gd.frm⟩ h7) fun a oe cls d pn hz hf => ?_
      exact ih.Ss (k := k) (X := X.suite a ((a, oe) :: pn)) (M := ⟨fun _ _ _ _ => False, some ⟨i, a, cls, d⟩⟩) (cx := { cx with hot := true, xv := some i })
        ⟨⟨gd.N, gd.nd, gd.nm, gd.kd, gd.st, gd.un, (fun z => by cases z), (fun _ => ⟨hot_suite hz hf, ⟨room.dp, room.un⟩⟩), takesN0, rfl, (fun e he => by cases he; exact ⟨X, oe, pn, rfl, hz, hf⟩), gd.gl⟩, PassesOwn.never, gd.stk, gd.frm⟩ h8
    · cases h
  | stf f c =>
    simp only [chkSt] at h
    split at h
    · rename_i x p a p2 e pos
      obtain ⟨h1, h⟩ := ba2 h
      obtain ⟨h2, h⟩ := ba2 h
      obtain ⟨h3, h⟩ := ba2 h
      obtain ⟨h4, h5⟩ := ba2 h
      have hc : cx.hot = false := by simpa using h1
      obtain ⟨calm, room, hx⟩ := gd.cold hc
      obtain ⟨l1, l2, l3, l4⟩ := gd.loc h3
      rw [of_decide_eq_true h2]
      exact s_stf hx l1 l2 l3 l4 (fun c hc => gd.gl.at_ c f hc) ((snd_all n).E gd.toGood h5) (swap_no (by simpa using h4))
    · cases h
theorem snd_Ss (ih : SndS n) (gd : GoodS cx G k X M) {c : SC} {ss : List Stmt} (h : chkSs (n + 1) cx c ss = true) : PSs X ss (tSt X.K M (ex G c)) := by
  cases c with
  | skip =>
    simp only [chkSs] at h
    rw [List.isEmpty_iff.mp h]
    exact s_nil
  | seq a r =>
    simp only [chkSs] at h
    split at h
    · obtain ⟨h1, h2⟩ := ba2 h
      have hc : cx.hot = false := by simpa using h1
      exact s_frz (gd.cold hc).2.2 (ih.Ss gd h2)
    · split at h
      · obtain ⟨h1, h2⟩ := ba2 h
        exact s_cons (ih.St gd h1) (ih.Ss gd h2)
      · cases h
  | _ => simp only [chkSs] at h; cases h
theorem sndS_all : ∀ n, SndS n
  | 0 => { St := fun _ _ _ h => absurd (show false = true from h) (by decide), Ss := fun _ _ _ h => absurd (show false = true from h) (by decide) }
  | n + 1 => { St := fun gd _ _ h => snd_St (sndS_all n) gd h, Ss := fun gd _ _ h => snd_Ss (sndS_all n) gd h }
end
/-! ### a def -/
def DefC.ok (tb : Tab) (scope : Scope) (ps : List Str) (d : DefC) (body : List Stmt) : Bool :=
  decide (scope.kind = .function) && (!scope.isCoroutine && (!scope.isGenerator && (decide d.N.Nodup && (decide (d.N.take ps.length = ps) && (decide (ps.length = d.a) && ((ps.all fun x => match scope.names.lookup x with | some .local => true | some .cell => true | _ => false) &&
    ((scope.names.all fun y => match y.2 with | .free => false | _ => true) && chkSs 400 ⟨d.N, scope.names, scope.names, false, none, tb⟩ d.code body)))))))
theorem own_start {K : PySem.W.Frag} {S H : Hp} {ds : List D} {vs : List V} {T B : Hp} (s : Sub S H) (r : RpL K S ds vs) (m : Nat) (hT : T = H) (hB : B = S) :
    ∃ C : CM, Stt K ⟨T, B⟩ S (vs.map some ++ List.replicate m none) H C ∧ GR C (ds.map (fun d => some (d, 0)) ++ List.replicate m none) (vs.map some ++ List.replicate m none) := by
  subst hT hB
  have hl := r.length
  let C : CM := fun i => match ds[i]?, vs[i]? with
    | some d, some v => some (d, 0, v)
    | _, _ => none
  have at_ : ∀ i d n v, C i = some (d, n, v) → n = 0 ∧ ds[i]? = some d ∧ vs[i]? = some v := fun i d n v e => by
    have e : (match ds[i]?, vs[i]? with | some d, some v => some (d, 0, v) | _, _ => none) = some (d, n, v) := e
    cases h1 : ds[i]? with
    | none => rw [h1] at e; cases e
    | some d' =>
      cases h2 : vs[i]? with
      | none => rw [h1, h2] at e; cases e
      | some v' => rw [h1, h2] at e; cases e; exact ⟨rfl, rfl, rfl⟩
  refine ⟨C, ⟨s, .rfl, fun a _ h => .inl h, ⟨fun _ => [], fun i d n v e => ?_, fun _ _ => rfl, fun _ => List.nodup_nil, fun _ _ _ h _ => (nomatch h), fun _ _ h => (nomatch h), fun _ _ h => (nomatch h)⟩, fun i d n v e hi => ?_, ?_⟩, ?_, fun i hi => ?_⟩
  · obtain ⟨e1, e2, e3⟩ := at_ i d n v e
    subst e1
    obtain ⟨v', e4, rv⟩ := r.get e2
    rw [e3] at e4
    cases e4
    exact .of0 rv
  · obtain ⟨_, _, e3⟩ := at_ i d n v e
    have : i < (vs.map some).length := by rw [List.length_map]; exact some_lt e3
    rw [List.getElem?_append_left this, List.getElem?_map, e3]
    rfl
  · refine ⟨ds.length, fun j hj => ?_⟩
    show (match ds[j]?, vs[j]? with | some d, some v => some (d, 0, v) | _, _ => none) = none
    rw [List.getElem?_eq_none hj]
  · simp [hl]
  · show _ = some ((match ds[i]?, vs[i]? with | some d, some v => some (d, 0, v) | _, _ => none : Option (D × Nat × V)).map fun c => (c.1, c.2.1))
    by_cases h1 : i < ds.length
    · have h2 : i < vs.length := by omega
      rw [List.getElem?_append_left (by rw [List.length_map]; exact h1), List.getElem?_map, List.getElem?_eq_getElem h1, List.getElem?_eq_getElem h2]
      rfl
    · rw [List.getElem?_append_right (by rw [List.length_map]; omega), List.length_map]
      rw [List.getElem?_eq_none (by omega : ds.length ≤ i)]
      have : i - ds.length < m := by
        rw [List.length_append, List.length_map, List.length_replicate] at hi
        omega
      rw [List.getElem?_replicate, if_pos this]
      rfl
/-- the run keeps the promise -/
theorem def_run {K : PySem.W.Frag} {G : Glb} {d : DefC} {vs : List V} {H : Hp} {Q : VK} {E : XK} (h : spF K (runDef G d.a d.N.length d.code) vs H Q E) : tSt K ⟨fun cls dx _ H' => E cls dx H', none⟩ (ex G d.code) { nx := fun _ H' => Q .non H', rt := Q } (L2.start d.N vs) H := by
  obtain ⟨S0, ds, sS, r, hh⟩ := h
  have la : ds.length = d.a := by
    unfold runDef at hh
    by_cases la : ds.length = d.a
    · exact la
    · rw [if_neg la] at hh; exact hh.elim
  have hl := r.length
  obtain ⟨C, st, gr⟩ := own_start sS r (d.N.length - d.a) rfl rfl
  have est : L2.start d.N vs = vs.map some ++ List.replicate (d.N.length - d.a) none := by
    unfold L2.start
    rw [← hl, la]
  rw [est]
  refine ⟨⟨H, S0⟩, S0, C, _, ⟨st, gr, trivial⟩, ?_⟩
  have fr : ∀ {S' : Hp} {σ' : L2.St} {H' : Hp} {C' : CM}, Sub S0 S' → Stt K ⟨H, S0⟩ S' σ' H' C' → ∀ a, S' a ≠ none → S0 a = none → H a = none ∨ ∃ l, S' a = some (.tup l) := fun {S' σ' H' C'} s1 st' a h1 h2 => by
    cases e : H a with
    | none => exact .inl rfl
    | some o => exact .inr ((st'.lim a (by rw [show (⟨H, S0⟩ : Gh).T a = H a from rfl, e]; simp) h1).resolve_left fun z => z h2)
  unfold runDef at hh
  rw [if_pos la] at hh
  cases eo : ex G d.code (ds.map (fun d => some (d, 0)) ++ List.replicate (d.N.length - d.a) none) with
  | nx Γ =>
    rw [eo] at hh
    intro σ' S' H' C' s1 st'
    exact hh .non S' H' [] ⟨st'.pre, s1, st'.sub, fr s1 st'.toStt, .of0 (by simp only [Rp]), List.nodup_nil, fun _ z => nomatch z⟩
  | ret dd nn =>
    rw [eo] at hh
    intro v S' σ' H' C' j s1 st' ej
    obtain ⟨fp, o⟩ := st'.own
    exact hh v S' H' (fp j) ⟨st'.pre, s1, st'.sub, fr s1 st', o.at_ j _ _ _ ej, o.nd j, fun a ha => ⟨(o.out j a ha).2, (o.out j a ha).1⟩⟩
  | brk Γ => rw [eo] at hh; exact hh.elim
  | cnt Γ => rw [eo] at hh; exact hh.elim
  | exc c ns es Γ =>
    rw [eo] at hh
    intro S' σ' H' C' dx ws s1 st' gr' hl r' xd
    exact hh S' H' dx ws st'.pre s1 st'.sub (fr s1 st') hl r' xd
  | fail => rw [eo] at hh; exact hh.elim
theorem def_ok {P : Program} {w : World} {K : PySem.W.Frag} {mg : Str → Option Value} {base : Heap} {x qual : Str} {params : Arguments} {body : List Stmt} {scope : Scope} {dvs : List V} {kws : List (Str × V)} {f : Addr} {fd : FuncData} {tb : Tab} {G : Glb} {k : Nat} {ps : List Str} {d : DefC}
    (F : FunD K x qual params body scope dvs kws f fd) (gl : GOk tb G k P w K mg base) (hd : d.ok tb scope ps body = true) : FnOk P w K mg base (L2N.CX P w) (k + 1) f fd ps (spF K (runDef G d.a d.N.length d.code)) := by
  unfold DefC.ok at hd
  obtain ⟨h1, h⟩ := ba2 hd
  obtain ⟨h2, h⟩ := ba2 h
  obtain ⟨h3, h⟩ := ba2 h
  obtain ⟨h4, h⟩ := ba2 h
  obtain ⟨h5, h⟩ := ba2 h
  obtain ⟨h6, h⟩ := ba2 h
  obtain ⟨h7, h⟩ := ba2 h
  obtain ⟨h8, h9⟩ := ba2 h
  have kd := of_decide_eq_true h1
  have nd := of_decide_eq_true h4
  have pre := of_decide_eq_true h5
  have pl := of_decide_eq_true h6
  have lens : ∀ {vs : List V} {H : Hp} {Q : VK} {E : XK}, spF K (runDef G d.a d.N.length d.code) vs H Q E → ∃ S ds, Sub S H ∧ RpL K S ds vs ∧ ds.length = d.a := fun {vs H Q E} h => by
    obtain ⟨S, ds, s, r, h⟩ := h
    refine ⟨S, ds, s, r, ?_⟩
    unfold runDef at h
    by_cases la : ds.length = d.a
    · exact la
    · rw [if_neg la] at h; exact h.elim
  have S : FnScope d.N ps scope := by
    refine ⟨kd, by simpa using h2, by simpa using h3, nd, pre, fun y hy => ?_, fun y hy e => ?_⟩
    · have := List.all_eq_true.mp h7 y hy
      split at this
      · exact .inl (by assumption)
      · exact .inr (by assumption)
      · cases this
    · have := List.all_eq_true.mp h8 y hy
      rw [e] at this
      cases this
  refine F.ok S (fun vs H Q E h => ?_) fun cdv A outer s H vs Q E hr h => ?_
  · obtain ⟨S, ds, _, r, e⟩ := lens h
    rw [← r.length, e, pl]
  · refine ⟨tSt K ⟨fun cls dx _ H' => E cls dx H', none⟩ (ex G d.code), ?_, ?_⟩
    · exact (sndS_all 400).Ss (k := k) (X := cxOf (L2N.CX P w) P w K mg base d.N qual scope f cdv A outer s H E) (M := ⟨fun cls dx _ H' => E cls dx H', none⟩) (cx := ⟨d.N, scope.names, scope.names, false, none, tb⟩)
        ⟨⟨rfl, nd, rfl, kd, fun x hx => ⟨hx, .inl rfl⟩, by have := hr.un; show (A.deeper _).units + 65 < cLine; omega, fun _ => ⟨rfl, hr, rfl⟩, (fun z => by cases z), L2N.takes_of (X := cxOf (L2N.CX P w) P w K mg base d.N qual scope f cdv A outer s H E) rfl rfl rfl rfl, rfl, (fun e he => by cases he), gl⟩, passes_of (X := cxOf (L2N.CX P w) P w K mg base d.N qual scope f cdv A outer s H E) (K := fun e s'' => L2N.CX P w outer H s E e s'') rfl, rfl, rfl⟩ h9
    · exact def_run h
/-- .. where an exception is handled -/
def DefC.okH (tb : Tab) (scope : Scope) (ps : List Str) (d : DefC) (body : List Stmt) : Bool :=
  decide (scope.kind = .function) && (!scope.isCoroutine && (!scope.isGenerator && (decide d.N.Nodup && (decide (d.N.take ps.length = ps) && (decide (ps.length = d.a) && ((ps.all fun x => match scope.names.lookup x with | some .local => true | some .cell => true | _ => false) &&
    ((scope.names.all fun y => match y.2 with | .free => false | _ => true) && chkSs 400 ⟨d.N, scope.names, scope.names, true, none, tb⟩ d.code body)))))))
theorem def_okH {P : Program} {w : World} {K : PySem.W.Frag} {mg : Str → Option Value} {base : Heap} {x qual : Str} {params : Arguments} {body : List Stmt} {scope : Scope} {dvs : List V} {kws : List (Str × V)} {f : Addr} {fd : FuncData} {tb : Tab} {G : Glb} {k : Nat} {ps : List Str} {d : DefC}
    (F : FunD K x qual params body scope dvs kws f fd) (gl : GOk tb G k P w K mg base) (hd : d.okH tb scope ps body = true) : L2H.FnH P w K mg base (L2N.CX P w) (k + 1) f fd ps (spF K (runDef G d.a d.N.length d.code)) := by
  unfold DefC.okH at hd
  obtain ⟨h1, h⟩ := ba2 hd
  obtain ⟨h2, h⟩ := ba2 h
  obtain ⟨h3, h⟩ := ba2 h
  obtain ⟨h4, h⟩ := ba2 h
  obtain ⟨h5, h⟩ := ba2 h
  obtain ⟨h6, h⟩ := ba2 h
  obtain ⟨h7, h⟩ := ba2 h
  obtain ⟨h8, h9⟩ := ba2 h
  have kd := of_decide_eq_true h1
  have nd := of_decide_eq_true h4
  have pre := of_decide_eq_true h5
  have pl := of_decide_eq_true h6
  have lens : ∀ {vs : List V} {H : Hp} {Q : VK} {E : XK}, spF K (runDef G d.a d.N.length d.code) vs H Q E → ∃ S ds, Sub S H ∧ RpL K S ds vs ∧ ds.length = d.a := fun {vs H Q E} h => by
    obtain ⟨S, ds, s, r, h⟩ := h
    refine ⟨S, ds, s, r, ?_⟩
    unfold runDef at h
    by_cases la : ds.length = d.a
    · exact la
    · rw [if_neg la] at h; exact h.elim
  have S : FnScope d.N ps scope := by
    refine ⟨kd, by simpa using h2, by simpa using h3, nd, pre, fun y hy => ?_, fun y hy e => ?_⟩
    · have := List.all_eq_true.mp h7 y hy
      split at this
      · exact .inl (by assumption)
      · exact .inr (by assumption)
      · cases this
    · have := List.all_eq_true.mp h8 y hy
      rw [e] at this
      cases this
  obtain ⟨oc, od, dV, kV, doc, pm, an, cdv, ct, osl, rfl, lk, hcd, _, _⟩ := F.ex
  refine L2H.fn_ofH lk hcd S (fun vs H Q E h => ?_) fun A outer s H vs Q E p hot hr h => ?_
  · obtain ⟨S, ds, _, r, e⟩ := lens h
    rw [← r.length, e, pl]
  · refine ⟨tSt K ⟨fun cls dx _ H' => E cls dx H', none⟩ (ex G d.code), ?_, ?_⟩
    · exact (sndS_all 400).Ss (k := k) (X := L2H.cxH (L2N.CX P w) P w K mg base d.N qual scope f cdv A outer s H E p) (M := ⟨fun cls dx _ H' => E cls dx H', none⟩) (cx := ⟨d.N, scope.names, scope.names, true, none, tb⟩)
        ⟨⟨rfl, nd, rfl, kd, fun x hx => ⟨hx, .inl rfl⟩, by have := hr.un; show (A.deeper _).units + 65 < cLine; omega, (fun z => by cases z), (fun _ => ⟨⟨p, hot, List.mem_singleton.mpr rfl⟩, hr⟩), L2N.takes_of (X := L2H.cxH (L2N.CX P w) P w K mg base d.N qual scope f cdv A outer s H E p) rfl rfl rfl rfl, rfl, (fun e he => by cases he), gl⟩, passes_of (X := L2H.cxH (L2N.CX P w) P w K mg base d.N qual scope f cdv A outer s H E p) (K := fun e s'' => L2N.CX P w outer H s E e s'') rfl, rfl, rfl⟩ h9
    · exact def_run h
end Ev
/-! Ev, part Xa: an own __init__. -/
namespace Ev
open PySem PySem.Spec L2
theorem own_startI {K : PySem.W.Frag} {S H1 : Hp} {ds : List D} {ws : List V} {me dx : Addr} {c : String} (s : Sub S H1) (r : RpL K S ds ws) (h1 : H1 me = none) (h2 : H1 dx = none) (ne : dx ≠ me) (m : Nat) :
    ∃ C : CM, Stt K ⟨H1, S⟩ S (some (.ref me) :: (ws.map some ++ List.replicate m none)) (upd (upd H1 dx (.own me)) me (.ins (He.ga K c) dx [])) C ∧ GR C (some (.slf c me [] [], 1) :: (ds.map (fun d => some (d, 0)) ++ List.replicate m none)) (some (.ref me) :: (ws.map some ++ List.replicate m none)) := by
  obtain ⟨C0, st, gr⟩ := own_start s r m rfl rfl
  have sub2 : Sub H1 (upd (upd H1 dx (.own me)) me (.ins (He.ga K c) dx [])) := (subUpd h2).tr (subUpd (by rw [upd_ne (Ne.symm ne)]; exact h1))
  obtain ⟨fp0, o⟩ := st.own
  have hS : S me = none := none_of_sub s h1
  have hme : ∀ j, me ∉ fp0 j := fun j h => by
    obtain ⟨u, e⟩ := o.inH j me h
    rw [h1] at e; cases e
  let C : CM := fun j => match j with
    | 0 => some (.slf c me [] [], 1, .ref me)
    | j + 1 => C0 j
  let fp : Nat → List Addr := fun j => match j with
    | 0 => [me]
    | j + 1 => fp0 j
  refine ⟨C, ⟨s.tr sub2, sub2, st.lim, ⟨fp, fun i d n v e => ?_, fun i e => ?_, fun i => ?_, fun i j a ha hb => ?_, fun i a ha => ?_, fun i a ha => ?_⟩, fun i d n v e hi => ?_, ?_⟩, ?_, fun i hi => ?_⟩
  · cases i with
    | zero =>
      have e : some (D.slf c me [] [], 1, V.ref me) = some (d, n, v) := e
      cases e
      unfold Own
      exact ⟨rfl, rfl, dx, [], upd_same, rfl, Nat.zero_le _, by simp only [RpL]⟩
    | succ i => exact (o.at_ i d n v e).mono .rfl n d v _ fun a _ u => sub2 a u
  · cases i with
    | zero => cases e
    | succ i => exact o.no i e
  · cases i with
    | zero => show [me].Nodup; simp
    | succ i => exact o.nd i
  · cases i with
    | zero =>
      have ea : a = me := by simpa using (show a ∈ [me] from ha)
      subst ea
      cases j with
      | zero => rfl
      | succ j => exact absurd hb (hme j)
    | succ i =>
      cases j with
      | zero =>
        have ea : a = me := by simpa using (show a ∈ [me] from hb)
        subst ea
        exact absurd ha (hme i)
      | succ j => rw [o.dis i j a ha hb]
  · cases i with
    | zero =>
      have ea : a = me := by simpa using (show a ∈ [me] from ha)
      subst ea
      exact ⟨hS, h1⟩
    | succ i => exact o.out i a ha
  · cases i with
    | zero =>
      have ea : a = me := by simpa using (show a ∈ [me] from ha)
      subst ea
      exact ⟨_, upd_same⟩
    | succ i =>
      obtain ⟨u, e⟩ := o.inH i a ha
      exact ⟨u, sub2 _ _ e⟩
  · cases i with
    | zero =>
      have e : some (D.slf c me [] [], 1, V.ref me) = some (d, n, v) := e
      cases e
      rfl
    | succ i =>
      rw [List.getElem?_cons_succ]
      exact st.slot i d n v e (by rw [List.length_cons] at hi; omega)
  · obtain ⟨b, hb⟩ := st.fin
    refine ⟨b + 1, fun j hj => ?_⟩
    cases j with
    | zero => omega
    | succ j => exact hb j (by omega)
  · rw [List.length_cons, List.length_cons, gr.1]
  · cases i with
    | zero => rfl
    | succ i =>
      rw [List.getElem?_cons_succ]
      exact gr.2 i (by rw [List.length_cons] at hi; omega)
def DefC.okI (tb : Tab) (scope : Scope) (ps : List Str) (d : DefC) (body : List Stmt) : Bool :=
  decide (scope.kind = .function) && (!scope.isCoroutine && (!scope.isGenerator && (decide d.N.Nodup && (decide (d.N.take ps.length = ps) && (decide (ps.length = d.a + 1) && ((ps.all fun x => match scope.names.lookup x with | some .local => true | some .cell => true | _ => false) &&
    ((scope.names.all fun y => match y.2 with | .free => false | _ => true) && chkSs 400 ⟨d.N, scope.names, scope.names, false, none, tb⟩ d.code body)))))))
theorem runMk_0 {G : Glb} {cls : String} {me a N : Nat} {c : SC} {ds : List D} {r : D × Nat} (h : runMk G cls me a N c ds = .ok r) : r.2 = 0 := by
  unfold runMk at h
  split at h
  · split at h
    · split at h
      · split at h
        · cases h; rfl
        · cases h
      · cases h
    · cases h
    · cases h
  · cases h
theorem mk_ok {P : Program} {w : World} {K : PySem.W.Frag} {mg : Str → Option Value} {base : Heap} {x qual : Str} {params : Arguments} {body : List Stmt} {scope : Scope} {dvs : List V} {kws : List (Str × V)} {f : Addr} {fd : FuncData} {tb : Tab} {G : Glb} {k : Nat} {ps : List Str} {d : DefC} {cls : String} {φ : List D → Res (D × Nat)}
    (F : FunD K x qual params body scope dvs kws f fd) (gl : GOk tb G k P w K mg base) (hd : d.okI tb scope ps body = true) (par : ∀ me l, runMk G cls me d.a d.N.length d.code l = φ l) : FnOk P w K mg base (L2N.CX P w) (k + 1) f fd ps (spI K cls φ) := by
  unfold DefC.okI at hd
  obtain ⟨h1, h⟩ := ba2 hd
  obtain ⟨h2, h⟩ := ba2 h
  obtain ⟨h3, h⟩ := ba2 h
  obtain ⟨h4, h⟩ := ba2 h
  obtain ⟨h5, h⟩ := ba2 h
  obtain ⟨h6, h⟩ := ba2 h
  obtain ⟨h7, h⟩ := ba2 h
  obtain ⟨h8, h9⟩ := ba2 h
  have kd := of_decide_eq_true h1
  have nd := of_decide_eq_true h4
  have pre := of_decide_eq_true h5
  have pl := of_decide_eq_true h6
  have lens : ∀ {ds : List D}, (match φ ds with | .fail => False | _ => True) → ds.length = d.a := fun {ds} h => by
    rw [← par 0 ds] at h
    unfold runMk at h
    by_cases la : ds.length = d.a
    · exact la
    · rw [if_neg la] at h; exact h.elim
  have lens2 : ∀ {vs : List V} {H : Hp} {Q : VK} {E : XK}, spI K cls φ vs H Q E → vs.length = d.a + 1 := fun {vs H Q E} h => by
    obtain ⟨S, ds, H1, a, dx, ws, ev1, eH, _, _, _, _, r, h⟩ := h
    have := lens (ds := ds) (by cases eo : φ ds <;> first | trivial | (rw [eo] at h; exact h.elim))
    rw [ev1, List.length_cons, ← r.length, this]
  have S : FnScope d.N ps scope := by
    refine ⟨kd, by simpa using h2, by simpa using h3, nd, pre, fun y hy => ?_, fun y hy e => ?_⟩
    · have := List.all_eq_true.mp h7 y hy
      split at this
      · exact .inl (by assumption)
      · exact .inr (by assumption)
      · cases this
    · have := List.all_eq_true.mp h8 y hy
      rw [e] at this
      cases this
  refine F.ok S (fun vs H Q E h => by rw [lens2 h, pl]) fun cdv A outer s H vs Q E hr h => ?_
  refine ⟨tSt K ⟨fun cls dx _ H' => E cls dx H', none⟩ (ex G d.code), ?_, ?_⟩
  · exact (sndS_all 400).Ss (k := k) (X := cxOf (L2N.CX P w) P w K mg base d.N qual scope f cdv A outer s H E) (M := ⟨fun cls dx _ H' => E cls dx H', none⟩) (cx := ⟨d.N, scope.names, scope.names, false, none, tb⟩)
      ⟨⟨rfl, nd, rfl, kd, fun x hx => ⟨hx, .inl rfl⟩, by have := hr.un; show (A.deeper _).units + 65 < cLine; omega, fun _ => ⟨rfl, hr, rfl⟩, (fun z => by cases z), L2N.takes_of (X := cxOf (L2N.CX P w) P w K mg base d.N qual scope f cdv A outer s H E) rfl rfl rfl rfl, rfl, (fun e he => by cases he), gl⟩, passes_of (X := cxOf (L2N.CX P w) P w K mg base d.N qual scope f cdv A outer s H E) (K := fun e s'' => L2N.CX P w outer H s E e s'') rfl, rfl, rfl⟩ h9
  · have lv := lens2 h
    obtain ⟨S0, ds, H1, me, dx, ws, ev1, eH, hm, hdx, ne, sS, r, hh⟩ := h
    have la := lens (ds := ds) (by cases eo : φ ds <;> first | trivial | (rw [eo] at hh; exact hh.elim))
    have hl := r.length
    obtain ⟨C, st, gr⟩ := own_startI (c := cls) sS r hm hdx ne (d.N.length - (d.a + 1))
    subst ev1 eH
    have est : L2.start d.N (.ref me :: ws) = some (.ref me) :: (ws.map some ++ List.replicate (d.N.length - (d.a + 1)) none) := by
      unfold L2.start
      rw [lv]
      rfl
    rw [est]
    refine ⟨⟨H1, S0⟩, S0, C, _, ⟨st, gr, trivial⟩, ?_⟩
    have fr : ∀ {S' : Hp} {σ' : L2.St} {H' : Hp} {C' : CM}, Sub S0 S' → Stt K ⟨H1, S0⟩ S' σ' H' C' → ∀ a, S' a ≠ none → S0 a = none → H1 a = none ∨ ∃ l, S' a = some (.tup l) := fun {S' σ' H' C'} s1 st' a h1 h2 => by
      cases e : H1 a with
      | none => exact .inl rfl
      | some o => exact .inr ((st'.lim a (by rw [show (⟨H1, S0⟩ : Gh).T a = H1 a from rfl, e]; simp) h1).resolve_left fun z => z h2)
    have hp := par me ds
    unfold runMk at hp
    rw [if_pos la] at hp
    have eΓ : (some (.slf cls me [] [], 1) :: ds.map (fun d => some (d, 0)) ++ List.replicate (d.N.length - (d.a + 1)) none : Env) = some (.slf cls me [] [], 1) :: (ds.map (fun d => some (d, 0)) ++ List.replicate (d.N.length - (d.a + 1)) none) := rfl
    rw [eΓ] at hp
    cases eo : ex G d.code (some (.slf cls me [] [], 1) :: (ds.map (fun d => some (d, 0)) ++ List.replicate (d.N.length - (d.a + 1)) none)) with
    | nx Γ =>
      rw [eo] at hp
      dsimp only at hp
      intro σ' S' H' C' s1 st'
      split at hp
      · rename_i cn b ns es e0
        have e0' : Γ[0]? = some (some (.slf cn b ns es, 1)) := by
          cases Γ with
          | nil => cases e0
          | cons a Γ => exact e0
        split at hp
        · rename_i hb
          obtain ⟨e1, e2⟩ := hb
          subst e1 e2
          rw [← hp] at hh
          obtain ⟨v, hc, hli⟩ := st'.gr.at_ e0'
          obtain ⟨S2, sS2, rp, st2⟩ := st'.toStt.freeze hc
          simp only [Rp] at rp
          obtain ⟨ev2, dx2, vs2, q2, z1, z2, r2⟩ := rp
          exact hh S2 H' st2.pre (s1.tr sS2) st2.sub (fr (s1.tr sS2) st2) (by simp only [Rp]; exact ⟨b, dx2, vs2, rfl, q2, z1, z2, r2⟩)
        · rw [← hp] at hh; exact hh.elim
      · rw [← hp] at hh; exact hh.elim
    | ret dd nn => rw [eo] at hp; rw [← hp] at hh; exact hh.elim
    | brk Γ => rw [eo] at hp; rw [← hp] at hh; exact hh.elim
    | cnt Γ => rw [eo] at hp; rw [← hp] at hh; exact hh.elim
    | exc c ns es Γ =>
      rw [eo] at hp
      rw [← hp] at hh
      intro S' σ' H' C' dx ws s1 st' gr' hl r' xd
      exact hh S' H' dx ws st'.pre s1 st'.sub (fr s1 st') hl r' xd
    | fail => rw [eo] at hp; rw [← hp] at hh; exact hh.elim
end Ev
/-! Ev, part Y: exceptions' __init__, facts of a law's head, the law's end. -/
namespace Ev
open PySem PySem.Spec L2
/-! ### self.f = x, .. of an exception -/
def tIn (K : PySem.W.Frag) : Nat → List String → TS
  | _, [] => tNext
  | j, f :: fs => tSeq (tOst K f (tVar 0) (tVar j)) (tIn K (j + 1) fs)
def chkIn (N : List Str) (nm : List (Str × NameKind)) : Nat → List String → List Stmt → Bool
  | _, [], ss => ss.isEmpty
  | j, f :: fs, ss => match ss with
    | .Assign [.Attribute (.Name s _) a _] (.Name x _) _ :: r => decide (a = Str.ofString f) && ((⟨N, nm, nm, false, none, {}⟩ : Cfg).loc 0 s && ((⟨N, nm, nm, false, none, {}⟩ : Cfg).loc j x && chkIn N nm (j + 1) fs r))
    | _ => false
section
variable {X : Cx}
theorem vis_of {N : List Str} {nm : List (Str × NameKind)} (hN : X.N = N) (hn : X.env.scope.names = nm) {i : Nat} {x : Str} (h : (⟨N, nm, nm, false, none, {}⟩ : Cfg).loc i x = true) : X.N[i]? = some x ∧ Vis X.env.scope x ∧ (x == ("__debug__" : Str)) = false ∧ (x == ("__classdict__" : Str)) = false := by
  obtain ⟨h1, h2⟩ := ba2 h
  obtain ⟨h2, h3⟩ := ba2 h2
  obtain ⟨h3, h4⟩ := ba2 h3
  refine ⟨by rw [hN]; exact of_decide_eq_true h1, ?_, by simpa using h3, by simpa using h4⟩
  unfold Vis
  rw [hn]
  split at h2
  · rename_i e; exact .inl e
  · rename_i e; exact .inr (.inl e)
  · rename_i e; exact .inr (.inr e)
  · cases h2
theorem in_ok {N : List Str} {nm : List (Str × NameKind)} (hN : X.N = N) (hn : X.env.scope.names = nm) : ∀ {fs : List String} {j : Nat} {ss : List Stmt}, chkIn N nm j fs ss = true → PSs X ss (tIn X.K j fs)
  | [], j, ss, h => by
    unfold chkIn at h
    rw [List.isEmpty_iff.mp h]
    exact pss_nil
  | f :: fs, j, ss, h => by
    unfold chkIn at h
    split at h
    · obtain ⟨h1, h⟩ := ba2 h
      obtain ⟨h2, h⟩ := ba2 h
      obtain ⟨h3, h4⟩ := ba2 h
      obtain ⟨a1, a2, a3, a4⟩ := vis_of hN hn h2
      obtain ⟨b1, b2, b3, b4⟩ := vis_of hN hn h3
      rw [of_decide_eq_true h1]
      exact pss_cons (ps_ost (pe_var a1 a2 a3 a4) (pe_var b1 b2 b3 b4) rfl) (in_ok hN hn h4)
    · cases h
end
theorem upd_id {H : Hp} {a : Addr} {o : HO} (h : H a = some o) : upd H a o = H := by
  funext b
  by_cases e : b = a
  · subst e; rw [upd_same, h]
  · rw [upd_ne e]
theorem in_more {K : PySem.W.Frag} {C : Addr} (T : OexC K C) {a d : Addr} (had : a ≠ d) {E : Ends} {σ : L2.St} (h0 : σ[0]? = some (some (.ref a))) : ∀ {fs : List String} {ws : List V} {j : Nat} {H : Hp} {acc : List (Str × V)},
    fs.length = ws.length → (∀ f ∈ fs, PySem.W.findIn K (.ref C) (Str.ofString f) = some none) → (∀ i v, ws[i]? = some v → σ[j + i]? = some (some v)) → acc.length + fs.length ≤ 800 → H a = some (exo a C (some d)) → H d = some (exd d acc) →
    E.nx σ (upd H d (exd d (rows fs ws ++ acc))) → tIn K j fs E σ H
  | [], [], j, H, acc, _, _, _, _, ha, hd, q => by
    have e : upd H d (exd d (rows [] [] ++ acc)) = H := upd_id hd
    rw [e] at q
    exact q
  | [], _ :: _, _, _, _, hl, _, _, _, _, _, _ => by cases hl
  | _ :: _, [], _, _, _, hl, _, _, _, _, _, _ => by cases hl
  | f :: fs, w :: ws, j, H, acc, hl, hno, hs, hz, ha, hd, q => by
    refine ⟨w, hs 0 w rfl, .ref a, h0, a, C, rfl, T, hno f List.mem_cons_self, .inr ⟨d, acc, ha, hd, by simp only [List.length_cons] at hz; omega, ?_⟩⟩
    refine in_more T had h0 (acc := (Str.ofString f, w) :: acc) (by simpa using hl) (fun f hf => hno f (List.mem_cons_of_mem _ hf)) (fun i v e => ?_) (by simp only [List.length_cons] at hz ⊢; omega) (by rw [upd_ne had]; exact ha) upd_same ?_
    · have := hs (i + 1) v (by simpa using e)
      rwa [show j + 1 + i = j + (i + 1) by omega]
    · rw [upd_upd]
      have e : rows fs ws ++ (Str.ofString f, w) :: acc = rows (f :: fs) (w :: ws) ++ acc := by simp [rows]
      rw [e]
      exact q
def initOk (scope : Scope) (ps : List Str) (fs : List String) (body : List Stmt) : Bool :=
  decide (scope.kind = .function) && (!scope.isCoroutine && (!scope.isGenerator && (decide ps.Nodup && (decide (ps.length = fs.length + 1) && (decide (1 ≤ fs.length) && (decide (fs.length ≤ 700) && ((ps.all fun x => match scope.names.lookup x with | some .local => true | some .cell => true | _ => false) &&
    ((scope.names.all fun y => match y.2 with | .free => false | _ => true) && chkIn ps scope.names 1 fs body))))))))
theorem init_ok {P : Program} {w : World} {K : PySem.W.Frag} {mg : Str → Option Value} {base : Heap} {x qual : Str} {params : Arguments} {body : List Stmt} {scope : Scope} {dvs : List V} {kws : List (Str × V)} {f : Addr} {fd : FuncData} {k : Nat} {ps : List Str} {fs : List String} {C : Addr}
    (F : FunD K x qual params body scope dvs kws f fd) (T : OexC K C) (hno : ∀ f ∈ fs, PySem.W.findIn K (.ref C) (Str.ofString f) = some none) (hd : initOk scope ps fs body = true) : FnOk P w K mg base (L2N.CX P w) (k + 1) f fd ps (spX C fs) := by
  unfold initOk at hd
  obtain ⟨h1, h⟩ := ba2 hd
  obtain ⟨h2, h⟩ := ba2 h
  obtain ⟨h3, h⟩ := ba2 h
  obtain ⟨h4, h⟩ := ba2 h
  obtain ⟨h5, h⟩ := ba2 h
  obtain ⟨h6, h⟩ := ba2 h
  obtain ⟨h66, h⟩ := ba2 h
  obtain ⟨h7, h⟩ := ba2 h
  obtain ⟨h8, h9⟩ := ba2 h
  have pl := of_decide_eq_true h5
  have f1 := of_decide_eq_true h6
  have f7 := of_decide_eq_true h66
  have S : FnScope ps ps scope := by
    refine ⟨of_decide_eq_true h1, by simpa using h2, by simpa using h3, of_decide_eq_true h4, List.take_length, fun y hy => ?_, fun y hy e => ?_⟩
    · have := List.all_eq_true.mp h7 y hy
      split at this
      · exact .inl (by assumption)
      · exact .inr (by assumption)
      · cases this
    · have := List.all_eq_true.mp h8 y hy
      rw [e] at this
      cases this
  refine F.ok S (fun vs H Q E h => ?_) fun cdv A outer s H vs Q E hr h => ⟨tIn K 1 fs, in_ok (X := cxOf (L2N.CX P w) P w K mg base ps qual scope f cdv A outer s H E) rfl rfl h9, ?_⟩
  · obtain ⟨a, ws, e, hl, _⟩ := h
    rw [e, List.length_cons, hl, pl]
  · obtain ⟨a, ws, ev, hl, ha, q⟩ := h
    subst ev
    have est : L2.start ps (.ref a :: ws) = (V.ref a :: ws).map some := by
      unfold L2.start
      rw [List.length_cons, hl, pl, Nat.sub_self]
      simp
    rw [est]
    cases fs with
    | nil => simp at f1
    | cons f fs =>
      cases ws with
      | nil => cases hl
      | cons w0 ws =>
        refine ⟨w0, rfl, .ref a, rfl, a, C, rfl, T, hno f List.mem_cons_self, .inl ⟨ha, fun dx hdx hne => ?_⟩⟩
        refine in_more T (Ne.symm hne) (d := dx) (acc := [(Str.ofString f, w0)]) rfl (fs := fs) (ws := ws) (by simpa using hl.symm) (fun f hf => hno f (List.mem_cons_of_mem _ hf)) (fun i v e => ?_) (by simp only [List.length_cons, List.length_nil] at f7 ⊢; omega) upd_same (by rw [upd_ne hne, upd_same]) ?_
        · rw [show 1 + 1 + i = i + 2 by omega]
          simp [e]
        · have e : upd (upd (upd H dx (exd dx [(Str.ofString f, w0)])) a (exo a C (some dx))) dx (exd dx (rows fs ws ++ [(Str.ofString f, w0)])) = upd (upd H dx (exd dx (rows (f :: fs) (w0 :: ws)))) a (exo a C (some dx)) := by
            funext b
            by_cases e1 : b = dx
            · subst e1
              rw [upd_same, upd_ne hne, upd_same]
              rfl
            · rw [upd_ne e1]
              by_cases e2 : b = a
              · subst e2; rw [upd_same, upd_same]
              · rw [upd_ne e2, upd_ne e2, upd_ne e1, upd_ne e1]
          rw [e]
          exact q dx hdx hne
/-! ### facts -/
def eqF {α : Type} [DecidableEq α] (a b : α) : Bool := decide (a = b)
def insB (K : PySem.W.Frag) (c : String) : Bool := (He.Fa.cls c).ok K && (decide (PySem.W.findIn K (.ref (He.ga K c)) "__class__" = some (some (.builtin "object.__class__"))) && decide (PySem.W.mroIn K (He.ga K c) (.type "object") = some true))
def xcB (K : PySem.W.Frag) (c : String) : Bool := (PySem.W.clsIn K (He.ga K c)).isSome && (decide (PySem.W.findIn K (.ref (He.ga K c)) "__getattribute__" = some (some (.builtin "BaseException.__getattribute__"))) && (decide (PySem.W.findIn K (.ref (He.ga K c)) "__getattr__" = some none) &&
  (decide (PySem.W.subIn K (.ref (He.ga K c)) (.type "BaseException") = some true) && (decide (PySem.W.findIn K (.ref (He.ga K c)) "__class__" = some (some (.builtin "object.__class__"))) && decide (PySem.W.mroIn K (He.ga K c) (.type "object") = some true)))))
def isiB (G : Glb) (K : PySem.W.Frag) : Bool :=
  G.cls.all (insB K) && (G.xcs.all (xcB K) && (((G.cls ++ G.xcs).all fun c => (G.cls ++ G.xcs).all fun t => decide (PySem.W.kitOne K (.ref (He.ga K c)) (.ref (He.ga K t)) = some (G.sb c t))) && (((G.cls ++ G.xcs).all fun c => T6.all fun t => decide (PySem.W.kitOne K (.ref (He.ga K c)) (.type t) = some (G.sb c t))) &&
    ((B7.all fun b => (G.cls ++ G.xcs).all fun t => decide (PySem.W.kitOne K (.type b) (.ref (He.ga K t)) = some false)) && (((G.cls ++ G.xcs).all fun t => !T6.contains t) &&
      (decide (PySem.W.specialIn K (.builtin "object.__class__") "__get__" = some (some (.builtin "getset_descriptor.__get__"))) && decide (PySem.W.takesIn K (.builtin "object.__class__") = some true)))))))
theorem isi_of {G : Glb} {K : PySem.W.Frag} (h : isiB G K = true) : IsiOk K G := by
  unfold isiB at h
  obtain ⟨h1, h⟩ := ba2 h
  obtain ⟨h2, h⟩ := ba2 h
  obtain ⟨h3, h⟩ := ba2 h
  obtain ⟨h4, h⟩ := ba2 h
  obtain ⟨h5, h⟩ := ba2 h
  obtain ⟨h6, h⟩ := ba2 h
  obtain ⟨h7, h8⟩ := ba2 h
  refine ⟨fun c hc => ?_, fun c hc => ?_, fun c hc t ht => ?_, fun c hc t ht => ?_, fun b hb t ht => ?_, fun t ht => ?_, of_decide_eq_true h7, of_decide_eq_true h8⟩
  · obtain ⟨a1, a2⟩ := ba2 (List.all_eq_true.mp h1 c hc)
    obtain ⟨a2, a3⟩ := ba2 a2
    exact ⟨He.cls_ok a1, of_decide_eq_true a2, of_decide_eq_true a3⟩
  · obtain ⟨a1, a⟩ := ba2 (List.all_eq_true.mp h2 c hc)
    obtain ⟨a2, a⟩ := ba2 a
    obtain ⟨a3, a⟩ := ba2 a
    obtain ⟨a4, a⟩ := ba2 a
    obtain ⟨a5, a6⟩ := ba2 a
    exact ⟨a1, of_decide_eq_true a2, of_decide_eq_true a3, of_decide_eq_true a4, of_decide_eq_true a5, of_decide_eq_true a6⟩
  · exact of_decide_eq_true (List.all_eq_true.mp (List.all_eq_true.mp h3 c hc) t ht)
  · exact of_decide_eq_true (List.all_eq_true.mp (List.all_eq_true.mp h4 c hc) t ht)
  · exact of_decide_eq_true (List.all_eq_true.mp (List.all_eq_true.mp h5 b hb) t ht)
  · simpa using List.all_eq_true.mp h6 t ht
def opsB (G : Glb) (K : PySem.W.Frag) (c : String) : Bool := PySem.W.selfFirst K (He.ga K c) && ((B7.all fun b => PySem.W.notFirst K (He.ga K c) (.type b)) && ((G.cls.all fun t => PySem.W.notFirst K (He.ga K c) (.ref (He.ga K t))) &&
  (decide (PySem.W.findIn K (.ref (He.ga K c)) "__ne__" = some (some (.builtin "object.__ne__"))) && decide (PySem.W.mroIn K (He.ga K c) (.type "object") = some true))))
theorem ops_of {G : Glb} {K : PySem.W.Frag} {c : String} (h : opsB G K c = true) : OpsC K G c := by
  unfold opsB at h
  obtain ⟨h1, h⟩ := ba2 h
  obtain ⟨h2, h⟩ := ba2 h
  obtain ⟨h3, h⟩ := ba2 h
  obtain ⟨h4, h5⟩ := ba2 h
  refine ⟨h1, fun d k => ?_, of_decide_eq_true h4, of_decide_eq_true h5⟩
  have b := List.all_eq_true.mp h2
  cases d with
  | ins c ns ds => exact List.all_eq_true.mp h3 c (by simpa [knows] using k)
  | exn c ns ds => simp [knows] at k
  | slf c a ns ds => simp [knows] at k
  | non => exact b "NoneType" (by decide)
  | bl _ => exact b "bool" (by decide)
  | int _ => exact b "int" (by decide)
  | str _ => exact b "str" (by decide)
  | tup _ => exact b "tuple" (by decide)
  | rot _ => exact b "tuple" (by decide)
  | lst _ => exact b "list" (by decide)
  | ro _ => exact b "list" (by decide)
  | dic _ _ _ => exact b "dict" (by decide)
def oexB (K : PySem.W.Frag) (C : Addr) : Bool := (match K.lookup C with
  | some ⟨.type "type", _, .cls cd, sl⟩ => (match cd.mro, sl.toList with
    | .ref C' :: bm, [_, _, _, _, some (.builtin n), _] => decide (C' = C) && (decide (n = "ValueError.__new__") && (!cd.hasDel && (cd.hasDict && PySem.HandSPX.refsVE bm)))
    | _, _ => false)
  | _ => false) && (decide (PySem.W.findIn K (.ref C) "__setattr__" = some (some (.builtin "object.__setattr__"))) && (decide (PySem.W.subIn K (.ref C) (.type "BaseException") = some true) && (decide (PySem.W.typeIn K (.ref C) = some (.type "type")) && PySem.W.keepIn K (.ref C))))
theorem oex_of {K : PySem.W.Frag} {C : Addr} (h : oexB K C = true) : OexC K C := by
  unfold oexB at h
  obtain ⟨h1, h⟩ := ba2 h
  obtain ⟨h2, h⟩ := ba2 h
  obtain ⟨h3, h⟩ := ba2 h
  obtain ⟨h4, h5⟩ := ba2 h
  refine ⟨?_, of_decide_eq_true h2, of_decide_eq_true h3, of_decide_eq_true h4, h5⟩
  split at h1
  · rename_i dd cd sl ho
    split at h1
    · rename_i C' bm k0 k1 k2 k3 n k5 hm hs
      obtain ⟨b1, b⟩ := ba2 h1
      obtain ⟨b2, b⟩ := ba2 b
      obtain ⟨b3, b⟩ := ba2 b
      obtain ⟨b4, b5⟩ := ba2 b
      have e1 := of_decide_eq_true b1
      have e2 := of_decide_eq_true b2
      subst e1 e2
      obtain ⟨nm, bs, mro, ns, qn, hdd, sn, sub, ab, col, del⟩ := cd
      dsimp only at hm b3 b4
      subst hm
      have e3 : del = false := by simpa using b3
      subst e3 b4
      have hsl : sl = #[k0, k1, k2, k3, some (.builtin "ValueError.__new__"), k5] := by
        obtain ⟨l⟩ := sl
        simp only at hs
        rw [hs]
      subst hsl
      exact ⟨nm, qn, ns, bs, bm, sn, sub, ab, col, dd, k0, k1, k2, k3, k5, ho, b5⟩
    · cases h1
  · cases h1
/-- an exception class with its __init__ at method place -/
def mkB (K : PySem.W.Frag) (c : String) (fs : List String) : Bool := oexB K (He.ga K c) && (decide (PySem.W.findIn K (.ref (He.ga K c)) "__init__" = some (some (.ref (He.ma K (He.ga K c) "__init__")))) && (decide (PySem.W.typeIn K (.ref (He.ma K (He.ga K c) "__init__")) = some (.type "function")) && ((fs.all fun f => decide (PySem.W.findIn K (.ref (He.ga K c)) (Str.ofString f) = some none)) && (He.Fa.glo c).ok K)))
def xatB (K : PySem.W.Frag) (c f : String) : Bool := xfB K (He.ga K c) && decide (PySem.W.findIn K (.ref (He.ga K c)) f = some none)
structure LawT where
  G : Glb
  tb : Tab
  gls : List String
  atA : List (String × String) := []
  atX : List (String × String) := []
  mks : List String := []
  mts : List (String × String) := []
  kdds : List He.DefD := []
/-- the keyword-only default x of the def at f, if it is an object -/
def kwAt (f : Str × Option Str) (x : Str) (K : PySem.W.Frag) : Addr := match K.lookup (He.fAd K f) with
  | some ⟨_, _, .func fd, _⟩ => (match fd.kwdefaults with
    | .ref d => (match PySem.W.nsIn K d x with
      | some (some (.ref a)) => a
      | _ => 0)
    | _ => 0)
  | _ => 0
/-- the empty tuple -/
def etB (K : PySem.W.Frag) (a : Addr) : Bool := match K.lookup a with
  | some ⟨.type c, _, .seq its _, _⟩ => decide (c = "tuple") && decide (its.size = 0)
  | _ => false
def kwE (K : PySem.W.Frag) (d : He.DefD) : Bool := d.kwd.all fun q => match q.2 with
  | .adr p => etB K (p K)
  | _ => true
theorem etB_ok {K : PySem.W.Frag} {S : Hp} {a : Addr} (h : etB K a = true) : Rp K S (.rot []) (.ref a) := by
  unfold etB at h
  split at h
  · rename_i c dd its n osl e
    obtain ⟨h1, h2⟩ := ba2 h
    simp only [Rp]
    refine ⟨a, [], rfl, .inr ⟨_, its, n, e, ?_, rfl, ?_, ?_⟩, by simp, .nil⟩
    · exact congrArg Value.type (of_decide_eq_true h1)
    · rw [of_decide_eq_true h2]; exact Nat.zero_le _
    · have : its.toList = [] := List.eq_nil_of_length_eq_zero (by rw [Array.length_toList]; exact of_decide_eq_true h2)
      rw [this]; exact .nil
  · cases h
def LawT.ex (T : LawT) (K : PySem.W.Frag) : Bool :=
  (T.gls.all fun x => (He.Fa.glo x).ok K) && ((blts.all fun x => (He.Fa.free x).ok K) && ((T.tb.xmk.all fun p => mkB K p.1 p.2) && ((T.tb.own.all fun t => (He.Fa.glo t).ok K) && ((T.atA.all fun p => insB K p.1 && (He.Fa.noat p.1 p.2).ok K) && ((T.atX.all fun p => xatB K p.1 p.2) && (isiB T.G K &&
    ((T.G.xcs.all fun c => T.G.xcs.all fun t => decide (PySem.W.exmOne K (.ref (He.ga K c)) (.ref (He.ga K t)) = some (T.G.sb c t))) && ((T.mks.all fun c => (He.Fa.mkr c).ok K && (He.Fa.glo c).ok K) &&
      ((T.mts.all fun p => (He.Fa.cls p.1).ok K && (He.Fa.meth p.1 p.2).ok K) && (T.tb.ops.all (opsB T.G K) && T.kdds.all (kwE K)))))))))))
/-! ### the Hook -/
abbrev AlV : Type := He.AlD × Bool
def obsV (T : LawT) (n : Nat) (fn : List He.DefD) (g : Addr → Option Obj) : AlV := (fun K => (He.obsD [] fn K, T.ex K)) (He.frG g (He.asD g n))
def hookV (T : LawT) (n : Nat) (fn : List He.DefD) : PySem.W.Hook where
  α := AlV
  obs := fun s => obsV T n fn s.heap.get?
  val := fun _ => (He.valD fn, true)
  says := fun _ h => ∃ K : PySem.W.Frag, K.In h ∧ He.SaysD [] fn K ∧ T.ex K = true
  of := fun _ _ e => ⟨_, He.frG_in, congrArg Prod.fst e, congrArg Prod.snd e⟩
  keeps := fun _ _ _ ⟨K, hK, c⟩ k => ⟨K, PySem.W.Frag.In.keeps hK k, c⟩
theorem obsV_eq {T : LawT} {n : Nat} {fn : List He.DefD} {g : Addr → Option Obj} {s : Shared} (h : ∀ a, g a = s.heap.get? a) : obsV T n fn g = (hookV T n fn).obs s := by
  have e : g = s.heap.get? := funext h
  rw [e]
  rfl
end Ev
/-! Ev, part Z: all defs of a law; the law's end. -/
namespace Ev
open PySem PySem.Spec L2
/-- the keyword-only defaults that fill up -/
def msK (dd : He.DefD) (pm : List KA) : List (Str × He.Dv) := pm.filterMap fun a => a.at_.bind fun j => dd.kwd[j]?
/-- how the def binds what it is called with -/
def BdT (dd : He.DefD) (ps : List Str) : Ent → Prop
  | .kw _ cl n ks _ pm => match dd.kwd with
    | [] => ∀ (kV doc pmv : Value) (an : Option Addr) (cdv ct : Value) (us ws : List Value), us.length = (if cl then n + 1 else n) → ws.length = ks.length → bindArgs (PySem.W.fnOf dd.name dd.qual dd.params dd.body dd.scope .none kV doc pmv an cdv ct) ⟨us, ks.zip ws⟩ = pure (ps.zip (gOf cl pm us [] ws))
    | _ :: _ => ∀ (A : Addr) (doc pmv : Value) (an : Option Addr) (cdv ct : Value) (us mv ws : List Value), us.length = (if cl then n + 1 else n) → mv.length = (msK dd pm).length → ws.length = ks.length → KwChain A (((msK dd pm).map (·.1)).zip mv) (bindArgs (PySem.W.fnOf dd.name dd.qual dd.params dd.body dd.scope .none (.ref A) doc pmv an cdv ct) ⟨us, ks.zip ws⟩) (ps.zip (gOf cl pm us mv ws))
  | .fb _ _ => True
  | .mb _ _ => True
  | _ => ∀ (kV doc pm : Value) (an : Option Addr) (cdv ct : Value) (us : List Value), us.length = ps.length → bindArgs (PySem.W.fnOf dd.name dd.qual dd.params dd.body dd.scope .none kV doc pm an cdv ct) ⟨us, []⟩ = pure (ps.zip us)
structure Entry where
  ps : List Str
  d : DefC
  dd : He.DefD
  bd : BdT dd ps d.kd
/-- the default is the datum -/
def dvB : He.Dv → KA → Bool
  | .int i, .int _ j => decide (i = j)
  | .non, .non _ => true
  | .bl b, .bl _ c => b == c
  | .adr _, .unit _ => true
  | _, _ => false
def dvC (kwd : List (Str × He.Dv)) (a : KA) : Bool := match a.at_ with
  | none => true
  | some j => match kwd[j]? with
    | some q => dvB q.2 a
    | none => false
def isBK : Ent → Bool
  | .fb _ _ => true | .mb _ _ => true | .kw _ _ _ _ _ _ => true
  | _ => false
structure XEntry where
  c : String
  fs : List String
  ps : List Str
  dd : He.DefD
  bd : ∀ (kV doc pm : Value) (an : Option Addr) (cdv ct : Value) (us : List Value), us.length = ps.length → bindArgs (PySem.W.fnOf dd.name dd.qual dd.params dd.body dd.scope .none kV doc pm an cdv ct) ⟨us, []⟩ = pure (ps.zip us)
def chkEntry (T : LawT) (before : List Ent) (e : Entry) : Bool := e.dd.dfl.isEmpty && ((e.dd.kwd.isEmpty || isBK e.d.kd) && match e.d.kd with
  | .fb x ps => decide (ps = e.ps) && (e.d.ok { T.tb with fns := before } e.dd.scope e.ps e.dd.body && (decide (e.dd.at_ = (Str.ofString x, none)) && T.gls.contains x))
  | .mb c ps => decide (ps = e.ps) && (e.d.okI { T.tb with fns := before } e.dd.scope e.ps e.dd.body && (decide (e.dd.at_ = (Str.ofString c, some (Str.ofString "__init__"))) && T.mks.contains c))
  | .kw x cl n ks b pm => decide (before[b]? = some (if cl then .mb x e.ps else .fb x e.ps)) && (decide (e.dd.at_ = (Str.ofString x, if cl then some (Str.ofString "__init__") else none)) && pm.all (dvC e.dd.kwd))
  | .fn x => e.d.ok { T.tb with fns := before } e.dd.scope e.ps e.dd.body && (decide (e.dd.at_ = (Str.ofString x, none)) && T.gls.contains x)
  | .stub x => decide (e.dd.at_ = (Str.ofString x, none)) && T.gls.contains x
  | .hot x => e.d.okH { T.tb with fns := before } e.dd.scope e.ps e.dd.body && (decide (e.dd.at_ = (Str.ofString x, none)) && T.gls.contains x)
  | .mk c => e.d.okI { T.tb with fns := before } e.dd.scope e.ps e.dd.body && (decide (e.dd.at_ = (Str.ofString c, some (Str.ofString "__init__"))) && T.mks.contains c)
  | .mt c m => e.d.ok { T.tb with fns := before } e.dd.scope e.ps e.dd.body && (decide (e.dd.at_ = (Str.ofString c, some (Str.ofString m))) && T.mts.contains (c, m)))
def chkAll (T : LawT) : List Ent → List Entry → Bool
  | _, [] => true
  | before, e :: es => chkEntry T before e && chkAll T (before ++ [e.d.kd]) es
def chkX (T : LawT) (e : XEntry) : Bool := initOk e.dd.scope e.ps e.fs e.dd.body && (decide (e.dd.at_ = (Str.ofString e.c, some (Str.ofString "__init__"))) && (e.dd.dfl.isEmpty && e.dd.kwd.isEmpty))
def tabB (T : LawT) (xs : List XEntry) : Bool := decide (T.tb.xmk = xs.map fun e => (e.c, e.fs)) && (xs.all (chkX T) && ((T.tb.own.all fun t => !T6.contains t && (T.G.cls ++ T.G.xcs).contains t) && xs.all fun e => !e.fs.isEmpty))
section
variable {P : Program} {w : World} {K : PySem.W.Frag} {mg : Str → Option Value} {base : Heap} {T : LawT} {fn : List He.DefD}
theorem fact_def (c : He.SaysD [] fn K) {d : He.DefD} (h : d ∈ fn) : ∃ fd, FunD K d.name d.qual d.params d.body d.scope (d.dvs K) (d.kws K) (He.fAd K d.at_) fd := by
  obtain ⟨i, hi⟩ := List.mem_iff_getElem?.mp h
  exact c.def_ i hi
theorem FnFact.mono {j k : Nat} {x : String} {dv : List D} {ψ : List D → Res (D × Nat)} (F : FnFact P w K mg base j x dv ψ) (h : j ≤ k) : FnFact P w K mg base k x dv ψ := by
  obtain ⟨f, fd, ps, ds, dvs, φ, a, b, c, d, e, g, o⟩ := F.is
  exact ⟨f, fd, ps, ds, dvs, φ, a, b, c, d, e, g, o.mono h⟩
structure ExF (T : LawT) (K : PySem.W.Frag) (mg : Str → Option Value) : Prop where
  gls : ∀ x ∈ T.gls, mg x = some (.ref (He.ga K x))
  bl : ∀ x ∈ blts, mg x = none
  mke : ∀ c fs, (c, fs) ∈ T.tb.xmk → mkB K c fs = true ∧ mg c = some (.ref (He.ga K c))
  own : ∀ t ∈ T.tb.own, mg t = some (.ref (He.ga K t))
  at_ : ∀ c f, (c, f) ∈ T.atA → AttOk K c f
  xt : ∀ c f, (c, f) ∈ T.atX → XatOk K c f
  isi : IsiOk K T.G
  xmm : Xm K T.G
  mks : ∀ c ∈ T.mks, Mk K (He.ga K c) (He.ma K (He.ga K c) "__init__") ∧ mg c = some (.ref (He.ga K c))
  mts : ∀ c m, (c, m) ∈ T.mts → Cls K (He.ga K c) ∧ Meth K (He.ga K c) (Str.ofString m) (He.ma K (He.ga K c) (Str.ofString m))
  ops : ∀ c ∈ T.tb.ops, OpsC K T.G c
  kd : ∀ d ∈ T.kdds, kwE K d = true
theorem ex_facts {h : Heap} (X : K.In h) (G : h.Ns mainGlobals mg) (e : T.ex K = true) : ExF T K mg := by
  unfold LawT.ex at e
  obtain ⟨h1, e⟩ := ba2 e
  obtain ⟨h2, e⟩ := ba2 e
  obtain ⟨h3, e⟩ := ba2 e
  obtain ⟨h4, e⟩ := ba2 e
  obtain ⟨h5, e⟩ := ba2 e
  obtain ⟨h6, e⟩ := ba2 e
  obtain ⟨h7, e⟩ := ba2 e
  obtain ⟨h8, e⟩ := ba2 e
  obtain ⟨h9, e⟩ := ba2 e
  obtain ⟨h10, h11⟩ := ba2 e
  obtain ⟨h11, h12⟩ := ba2 h11
  refine ⟨fun x hx => He.glo_ok X G (List.all_eq_true.mp h1 x hx), fun x hx => He.free_ok X G (List.all_eq_true.mp h2 x hx), fun c fs hc => ?_, fun t ht => He.glo_ok X G (List.all_eq_true.mp h4 t ht), fun c f hc => ?_, fun c f hc => ?_, isi_of h7, fun c hc t ht => of_decide_eq_true (List.all_eq_true.mp (List.all_eq_true.mp h8 c hc) t ht), fun c hc => ?_, fun c m hc => ?_, fun c hc => ops_of (List.all_eq_true.mp h11 c hc), List.all_eq_true.mp h12⟩
  · have q := List.all_eq_true.mp h3 (c, fs) hc
    refine ⟨q, He.glo_ok X G ?_⟩
    unfold mkB at q
    exact (ba2 (ba2 (ba2 (ba2 q).2).2).2).2
  · obtain ⟨q1, q2⟩ := ba2 (List.all_eq_true.mp h5 (c, f) hc)
    obtain ⟨q1, _⟩ := ba2 q1
    exact ⟨He.cls_ok q1, He.noat_ok q2⟩
  · obtain ⟨q1, q2⟩ := ba2 (List.all_eq_true.mp h6 (c, f) hc)
    exact ⟨xfB_ok q1, of_decide_eq_true q2⟩
  · obtain ⟨q1, q2⟩ := ba2 (List.all_eq_true.mp h9 c hc)
    exact ⟨He.mkr_ok q1, He.glo_ok X G q2⟩
  · obtain ⟨q1, q2⟩ := ba2 (List.all_eq_true.mp h10 (c, m) hc)
    exact ⟨He.cls_ok q1, He.meth_ok q2⟩
/-- the exception classes' makers -/
theorem mk_all {xs : List XEntry} (E : ExF T K mg) (c : He.SaysD [] fn K) (ht : tabB T xs = true) (hin : ∀ e ∈ xs, e.dd ∈ fn) : ∀ x fs, (x, fs) ∈ T.tb.xmk → fs ≠ [] ∧ MkX P w K mg base 1 x fs := by
  intro x fs hx
  obtain ⟨t1, t⟩ := ba2 ht
  obtain ⟨t2, t⟩ := ba2 t
  obtain ⟨t3, t4⟩ := ba2 t
  obtain ⟨mk, hm⟩ := E.mke x fs hx
  rw [of_decide_eq_true t1] at hx
  obtain ⟨e, he, ee⟩ := List.mem_map.mp hx
  cases ee
  have q := List.all_eq_true.mp t2 e he
  have q4 := List.all_eq_true.mp t4 e he
  unfold chkX at q
  obtain ⟨q1, q⟩ := ba2 q
  obtain ⟨q2, q⟩ := ba2 q
  obtain ⟨q3, q5⟩ := ba2 q
  obtain ⟨fd, F⟩ := fact_def c (hin e he)
  have ea := of_decide_eq_true q2
  unfold mkB at mk
  obtain ⟨m1, mk⟩ := ba2 mk
  obtain ⟨m2, mk⟩ := ba2 mk
  obtain ⟨m3, mk⟩ := ba2 mk
  obtain ⟨m4, m5⟩ := ba2 mk
  have T1 := oex_of m1
  have hno : ∀ f ∈ e.fs, PySem.W.findIn K (.ref (He.ga K e.c)) (Str.ofString f) = some none := fun f hf => of_decide_eq_true (List.all_eq_true.mp m4 f hf)
  have ead : He.fAd K e.dd.at_ = He.ma K (He.ga K e.c) "__init__" := by rw [ea]; rfl
  rw [ead] at F
  have F1 := init_ok (P := P) (w := w) (mg := mg) (base := base) (k := 0) F T1 hno q1
  have dv : e.dd.dvs K = [] := by unfold He.DefD.dvs; rw [List.isEmpty_iff.mp q3]; rfl
  rw [dv] at F
  exact ⟨by simpa using q4, _, fd, e.ps, T1, of_decide_eq_true m2, of_decide_eq_true m3, F1, F.bindsN e.bd, hm⟩
theorem MtFact.mono {j k : Nat} {c m : String} {φ : List D → Res (D × Nat)} (F : MtFact P w K mg base j c m φ) (h : j ≤ k) : MtFact P w K mg base k c m φ := by
  obtain ⟨f, fd, ps, a, b, d, o⟩ := F.is
  exact ⟨f, fd, ps, a, b, d, o.mono h⟩
structure FbFact (P : Program) (w : World) (K : PySem.W.Frag) (mg : Str → Option Value) (base : Heap) (k : Nat) (x : String) (ps : List Str) (ψ : List D → Res (D × Nat)) : Prop where
  is : ∃ fd oc od osl, K.lookup (He.ga K x) = some ⟨oc, od, .func fd, osl⟩ ∧ mg x = some (.ref (He.ga K x)) ∧ FnOk P w K mg base (L2N.CX P w) k (He.ga K x) fd ps (spF K ψ)
structure MbFact (P : Program) (w : World) (K : PySem.W.Frag) (mg : Str → Option Value) (base : Heap) (k : Nat) (c : String) (ps : List Str) (ψ : List D → Res (D × Nat)) : Prop where
  is : ∃ fd oc od osl, K.lookup (He.ma K (He.ga K c) "__init__") = some ⟨oc, od, .func fd, osl⟩ ∧ Mk K (He.ga K c) (He.ma K (He.ga K c) "__init__") ∧ mg c = some (.ref (He.ga K c)) ∧ (∀ l r, ψ l = .ok r → r.2 = 0) ∧ FnOk P w K mg base (L2N.CX P w) k (He.ma K (He.ga K c) "__init__") fd ps (spI K c ψ)
theorem FbFact.mono {j k : Nat} {x : String} {ps : List Str} {ψ : List D → Res (D × Nat)} (F : FbFact P w K mg base j x ps ψ) (h : j ≤ k) : FbFact P w K mg base k x ps ψ := by
  obtain ⟨fd, oc, od, osl, a, b, c⟩ := F.is
  exact ⟨fd, oc, od, osl, a, b, c.mono h⟩
theorem MbFact.mono {j k : Nat} {x : String} {ps : List Str} {ψ : List D → Res (D × Nat)} (F : MbFact P w K mg base j x ps ψ) (h : j ≤ k) : MbFact P w K mg base k x ps ψ := by
  obtain ⟨fd, oc, od, osl, a, b, c, d, e⟩ := F.is
  exact ⟨fd, oc, od, osl, a, b, c, d, e.mono h⟩
def EntFact (P : Program) (w : World) (K : PySem.W.Frag) (mg : Str → Option Value) (base : Heap) (k : Nat) : Ent → (List D → Res (D × Nat)) → Prop
  | .fn x, ψ => FnFact P w K mg base k x [] ψ
  | .stub x, ψ => FnFact P w K mg base k x [] ψ
  | .hot x, ψ => HotFact P w K mg base k x ψ
  | .mk c, ψ => ∃ j, j + 1 ≤ k ∧ MkFact P w K mg base j c ψ
  | .mt c m, ψ => ∃ j, j + 1 ≤ k ∧ MtFact P w K mg base j c m ψ
  | .fb x ps, ψ => FbFact P w K mg base k x ps ψ
  | .mb c ps, ψ => ∃ j, j + 1 ≤ k ∧ MbFact P w K mg base j c ps ψ
  | .kw x cl n ks _ _, ψ => ∃ j, j + 1 ≤ k ∧ (if cl then KmFact P w K mg base j x n ks ψ else KfFact P w K mg base j x n ks ψ)
theorem EntFact.mono {j k : Nat} {ψ : List D → Res (D × Nat)} : ∀ {e : Ent}, EntFact P w K mg base j e ψ → j ≤ k → EntFact P w K mg base k e ψ
  | .fn x, h, l => FnFact.mono h l
  | .stub x, h, l => FnFact.mono h l
  | .hot x, h, l => HotFact.mono h l
  | .mk c, ⟨i, a, b⟩, l => ⟨i, Nat.le_trans a l, b⟩
  | .mt c m, ⟨i, a, b⟩, l => ⟨i, Nat.le_trans a l, b⟩
  | .fb x ps, h, l => FbFact.mono h l
  | .mb c ps, ⟨i, a, b⟩, l => ⟨i, Nat.le_trans a l, b⟩
  | .kw _ _ _ _ _ _, ⟨i, a, b⟩, l => ⟨i, Nat.le_trans a l, b⟩
structure Sofar (P : Program) (w : World) (K : PySem.W.Frag) (mg : Str → Option Value) (base : Heap) (names : List Ent) (acc : List (List D → Res (D × Nat))) (k : Nat) : Prop where
  len : names.length = acc.length
  ok : ∀ (j : Nat) x ψ, names[j]? = some x → acc[j]? = some ψ → EntFact P w K mg base k x ψ
theorem gok (E : ExF T K mg) {xs : List XEntry} (c : He.SaysD [] fn K) (ht : tabB T xs = true) (hin : ∀ e ∈ xs, e.dd ∈ fn) (hA : ∀ x f, T.G.okA x f = true → (x, f) ∈ T.atA) (hX : ∀ x f, T.G.okX x f = true → (x, f) ∈ T.atX) {names : List Ent} {acc : List (List D → Res (D × Nat))} {k : Nat} (hk : 2 ≤ k) (S : Sofar P w K mg base names acc k) :
    GOk { T.tb with fns := names } { T.G with fns := acc } k P w K mg base where
  fn := fun i x hx => by
    rcases hx with hx | hx
    · have hi : i < acc.length := by rw [← S.len]; exact some_lt hx
      exact ⟨[], acc[i], List.getElem?_eq_getElem hi, S.ok i _ _ hx (List.getElem?_eq_getElem hi)⟩
    · have hi : i < acc.length := by rw [← S.len]; exact some_lt hx
      exact ⟨[], acc[i], List.getElem?_eq_getElem hi, S.ok i _ _ hx (List.getElem?_eq_getElem hi)⟩
  hotf := fun i x hx => by
    have hi : i < acc.length := by rw [← S.len]; exact some_lt hx
    exact ⟨acc[i], List.getElem?_eq_getElem hi, S.ok i _ _ hx (List.getElem?_eq_getElem hi)⟩
  mkc := fun i x hx => by
    have hi : i < acc.length := by rw [← S.len]; exact some_lt hx
    obtain ⟨j, a, b⟩ := S.ok i _ _ hx (List.getElem?_eq_getElem hi)
    exact ⟨acc[i], j, List.getElem?_eq_getElem hi, a, b⟩
  mtc := fun i x m hx => by
    have hi : i < acc.length := by rw [← S.len]; exact some_lt hx
    obtain ⟨j, a, b⟩ := S.ok i _ _ hx (List.getElem?_eq_getElem hi)
    exact ⟨acc[i], j, List.getElem?_eq_getElem hi, a, b⟩
  kwf := fun i x cl n ks b pm hx => by
    have hi : i < acc.length := by rw [← S.len]; exact some_lt hx
    obtain ⟨j, a, b⟩ := S.ok i _ _ hx (List.getElem?_eq_getElem hi)
    exact ⟨acc[i], j, List.getElem?_eq_getElem hi, a, b⟩
  ops := fun c hc => ⟨(E.ops c hc).sf, (E.ops c hc).nf, (E.ops c hc).ne, (E.ops c hc).mr⟩
  xm := fun x fs hx => by
    obtain ⟨a, b⟩ := mk_all (P := P) (w := w) (base := base) E c ht hin x fs hx
    exact ⟨a, 1, hk, b⟩
  own := fun t htt => by
    obtain ⟨t1, t'⟩ := ba2 ht
    obtain ⟨t2, t'⟩ := ba2 t'
    obtain ⟨t3, t4⟩ := ba2 t'
    obtain ⟨q1, q2⟩ := ba2 (List.all_eq_true.mp t3 t htt)
    exact ⟨by simpa using q1, by simpa using q2, E.own t htt⟩
  bl := E.bl
  at_ := fun x f h => E.at_ x f (hA x f h)
  xt := fun x f h => E.xt x f (hX x f h)
  isi := ⟨E.isi.own, E.isi.exc, E.isi.oo, E.isi.ob, E.isi.bo, E.isi.nt, E.isi.hn, E.isi.ht⟩
  xmm := E.xmm
theorem stub_ok {f : Addr} {fd : FuncData} {ps : List Str} {k : Nat} : FnOk P w K mg base (L2N.CX P w) k f fd ps (spF K fun _ => .fail) :=
  ⟨fun vs H Q E h => by obtain ⟨_, _, _, _, h⟩ := h; exact h.elim, fun A outer s H args us vs Q E hr e0 hb r h => by obtain ⟨_, _, _, _, h⟩ := h; exact h.elim⟩
theorem ms_rp {S : Hp} {dd : He.DefD} (hk : kwE K dd = true) : ∀ {pm : List KA}, pm.all (dvC dd.kwd) = true → RpL K S (dfs pm) ((msK dd pm).map fun q => q.2.v K)
  | [], _ => .nil
  | a :: pm, h => by
    rw [List.all_cons] at h
    obtain ⟨h1, h2⟩ := ba2 h
    have ih := ms_rp (S := S) hk h2
    have step : ∀ j d, a.at_ = some j → a.dat = some d → (∀ q, dd.kwd[j]? = some q → dvB q.2 a = true → Rp K S d (q.2.v K)) → RpL K S (dfs (a :: pm)) ((msK dd (a :: pm)).map fun q => q.2.v K) := fun j d ea ed hq => by
      unfold dvC at h1
      rw [ea] at h1
      dsimp only at h1
      cases e : dd.kwd[j]? with
      | none => rw [e] at h1; cases h1
      | some q =>
        rw [e] at h1
        have e1 : dfs (a :: pm) = d :: dfs pm := by unfold dfs; rw [List.filterMap_cons, ed]
        have e2 : msK dd (a :: pm) = q :: msK dd pm := by
          unfold msK
          rw [List.filterMap_cons, ea]
          dsimp only [Option.bind_some]
          rw [e]
        rw [e1, e2, List.map_cons]
        exact .cons (hq q e h1) ih
    have inK : ∀ (j : Nat) (q : Str × He.Dv) (p : PySem.W.Frag → Addr), dd.kwd[j]? = some q → q.2 = .adr p → etB K (p K) = true := fun j q p e e2 => by
      have := List.all_eq_true.mp hk q (List.mem_of_getElem? e)
      rw [e2] at this
      exact this
    cases a with
    | arg k => exact ih
    | int j i =>
      refine step j _ rfl rfl fun q e hd => ?_
      obtain ⟨x, dv⟩ := q
      cases dv with
      | int i' =>
        have : i' = i := of_decide_eq_true hd
        subst this
        simp only [Rp]; rfl
      | _ => cases hd
    | unit j =>
      refine step j _ rfl rfl fun q e hd => ?_
      obtain ⟨x, dv⟩ := q
      cases dv with
      | adr p => exact etB_ok (inK j _ p e rfl)
      | _ => cases hd
    | non j =>
      refine step j _ rfl rfl fun q e hd => ?_
      obtain ⟨x, dv⟩ := q
      cases dv with
      | non => simp only [Rp]; rfl
      | _ => cases hd
    | bl j b =>
      refine step j _ rfl rfl fun q e hd => ?_
      obtain ⟨x, dv⟩ := q
      cases dv with
      | bl c =>
        have hd : (c == b) = true := hd
        have : c = b := by simpa using hd
        subst this
        simp only [Rp]; rfl
      | _ => cases hd
/-- a way to call a def -/
theorem kb_ok {dd : He.DefD} {ps ks : List Str} {x : String} {cl : Bool} {n b : Nat} {pm : List KA} {f : Addr} {fd : FuncData} (F : FunD K dd.name dd.qual dd.params dd.body dd.scope [] (dd.kws K) f fd) (hb : BdT dd ps (.kw x cl n ks b pm)) :
    ∃ g, KBn K fd ps (if cl then n + 1 else n) ks g (fun vs zs => gOf cl pm vs ((msK dd pm).map fun q => q.2.v K) zs) := by
  unfold BdT at hb
  cases e : dd.kwd with
  | nil =>
    rw [e] at hb
    dsimp only at hb
    have em : msK dd pm = [] := by
      unfold msK
      rw [e]
      simp
    obtain ⟨oc, od, dV, kV, doc, pmv, an, cdv, ct, osl, rfl, lk, hcd, hD, hK⟩ := F.ex
    rcases hD with ⟨_, rfl⟩ | ⟨z, _⟩
    · refine ⟨fun us ws => gOf cl pm us [] ws, fun s us ws X l1 l2 => .of_eq (hb kV doc pmv an cdv ct us ws l1 l2), fun r1 r2 => ?_⟩
      rw [em]
      exact gOf_rel r1 .nil r2
    · exact absurd rfl z
  | cons q qs =>
    rw [e] at hb
    dsimp only at hb
    have hk : dd.kws K ≠ [] := by unfold He.DefD.kws; rw [e]; simp
    have hm : ∀ p ∈ (msK dd pm).map (fun q => (q.1, q.2.v K)), p ∈ dd.kws K := fun p hp => by
      obtain ⟨q', hq', eq'⟩ := List.mem_map.mp hp
      unfold msK at hq'
      obtain ⟨a, _, ha⟩ := List.mem_filterMap.mp hq'
      obtain ⟨j, _, hj⟩ := Option.bind_eq_some_iff.mp ha
      unfold He.DefD.kws
      rw [← eq']
      exact List.mem_map.mpr ⟨q', List.mem_of_getElem? hj, rfl⟩
    obtain ⟨mv, hkb⟩ := F.kbinds0 (if cl then n + 1 else n) ks ((msK dd pm).map fun q => (q.1, q.2.v K)) (fun {α} us mv ws => gOf cl pm us mv ws) hk hm (fun r1 r2 r3 => gOf_rel r1 r2 r3) fun A doc pmv an cdv ct us mv ws l1 l2 l3 => by
      have := hb A doc pmv an cdv ct us mv ws l1 (by rw [l2, List.length_map]) l3
      rw [List.map_map]
      exact this
    rw [List.map_map] at hkb
    exact ⟨_, hkb⟩
theorem fd_same {f : Addr} {fd fd' : FuncData} {x qual : Str} {params : Arguments} {body : List Stmt} {scope : Scope} {dvs : List V} {kws : List (Str × V)} {oc od osl} (F : FunD K x qual params body scope dvs kws f fd) (h : K.lookup f = some ⟨oc, od, .func fd', osl⟩) : fd' = fd := by
  obtain ⟨oc2, od2, dV, kV, doc, pm, an, cdv, ct, osl2, e, lk, _⟩ := F.ex
  rw [h] at lk
  cases lk
  rfl
/-- one place of the table -/
theorem one_ok (E : ExF T K mg) {xs : List XEntry} (c : He.SaysD [] fn K) (ht : tabB T xs = true) (hin : ∀ e ∈ xs, e.dd ∈ fn) (hA : ∀ x f, T.G.okA x f = true → (x, f) ∈ T.atA) (hX : ∀ x f, T.G.okX x f = true → (x, f) ∈ T.atX) {names : List Ent} {acc : List (List D → Res (D × Nat))} {k : Nat} (hk : 2 ≤ k) (S : Sofar P w K mg base names acc k) {e : Entry} (he : e.dd ∈ fn)
    (hp : ParI T.G e.d) (hkdd : e.dd ∈ T.kdds) (h1 : chkEntry T names e = true) : EntFact P w K mg base (k + 2) e.d.kd (runKd { T.G with fns := acc } e.d) := by
  unfold chkEntry at h1
  obtain ⟨a3, a⟩ := ba2 h1
  obtain ⟨a4, a⟩ := ba2 a
  obtain ⟨fd, F⟩ := fact_def c he
  have dv : e.dd.dvs K = [] := by unfold He.DefD.dvs; rw [List.isEmpty_iff.mp a3]; rfl
  rw [dv] at F
  have G1 := gok E c ht hin hA hX hk S
  unfold runKd
  have hbd := e.bd
  cases hkd : e.d.kd with
  | fn x =>
    rw [hkd] at a hbd
    obtain ⟨a1, a⟩ := ba2 a
    obtain ⟨a2, a5⟩ := ba2 a
    have ead : He.fAd K e.dd.at_ = He.ga K x := by rw [of_decide_eq_true a2]; rfl
    rw [ead] at F
    have F1 := def_ok (P := P) (w := w) (mg := mg) (base := base) F G1 a1
    exact ⟨He.ga K x, fd, e.ps, [], [], _, E.gls x (by simpa using a5), F.kp, F.bindsN hbd, .nil, fun S => .nil, fun l => by rw [List.append_nil], F1.mono (Nat.le_succ _)⟩
  | stub x =>
    rw [hkd] at a hbd
    obtain ⟨a2, a5⟩ := ba2 a
    have ead : He.fAd K e.dd.at_ = He.ga K x := by rw [of_decide_eq_true a2]; rfl
    rw [ead] at F
    exact ⟨He.ga K x, fd, e.ps, [], [], _, E.gls x (by simpa using a5), F.kp, F.bindsN hbd, .nil, fun S => .nil, fun l => rfl, stub_ok⟩
  | hot x =>
    rw [hkd] at a hbd
    obtain ⟨a1, a⟩ := ba2 a
    obtain ⟨a2, a5⟩ := ba2 a
    have ead : He.fAd K e.dd.at_ = He.ga K x := by rw [of_decide_eq_true a2]; rfl
    rw [ead] at F
    have F1 := def_okH (P := P) (w := w) (mg := mg) (base := base) F G1 a1
    exact ⟨He.ga K x, fd, e.ps, E.gls x (by simpa using a5), F.kp, F.bindsN hbd, FnH.mono F1 (Nat.le_succ _)⟩
  | mk x =>
    rw [hkd] at a hbd
    obtain ⟨a1, a⟩ := ba2 a
    obtain ⟨a2, a5⟩ := ba2 a
    have ead : He.fAd K e.dd.at_ = He.ma K (He.ga K x) "__init__" := by rw [of_decide_eq_true a2]; rfl
    rw [ead] at F
    obtain ⟨m1, m2⟩ := E.mks x (by simpa using a5)
    have F1 := mk_ok (P := P) (w := w) (mg := mg) (base := base) (cls := x) F G1 a1 (hp x (.inl hkd) acc)
    exact ⟨k + 1, Nat.le_refl _, _, fd, e.ps, m1, m2, F.bindsN hbd, fun l r => runMk_0, F1⟩
  | mt x m =>
    rw [hkd] at a hbd
    obtain ⟨a1, a⟩ := ba2 a
    obtain ⟨a2, a5⟩ := ba2 a
    have ead : He.fAd K e.dd.at_ = He.ma K (He.ga K x) (Str.ofString m) := by rw [of_decide_eq_true a2]; rfl
    rw [ead] at F
    obtain ⟨m1, m2⟩ := E.mts x m (by simpa using a5)
    have F1 := def_ok (P := P) (w := w) (mg := mg) (base := base) F G1 a1
    exact ⟨k + 1, Nat.le_refl _, _, fd, e.ps, m1, m2, F.bindsN hbd, F1⟩
  | fb x ps =>
    rw [hkd] at a
    obtain ⟨a0, a⟩ := ba2 a
    obtain ⟨a1, a⟩ := ba2 a
    obtain ⟨a2, a5⟩ := ba2 a
    have ead : He.fAd K e.dd.at_ = He.ga K x := by rw [of_decide_eq_true a2]; rfl
    rw [ead] at F
    have F1 := def_ok (P := P) (w := w) (mg := mg) (base := base) F G1 a1
    obtain ⟨oc, od, dV, kV, doc, pm, an, cdv, ct, osl, ef, lk, _⟩ := F.ex
    rw [of_decide_eq_true a0]
    exact ⟨fd, oc, od, osl, lk, E.gls x (by simpa using a5), F1.mono (Nat.le_succ _)⟩
  | mb x ps =>
    rw [hkd] at a
    obtain ⟨a0, a⟩ := ba2 a
    obtain ⟨a1, a⟩ := ba2 a
    obtain ⟨a2, a5⟩ := ba2 a
    have ead : He.fAd K e.dd.at_ = He.ma K (He.ga K x) "__init__" := by rw [of_decide_eq_true a2]; rfl
    rw [ead] at F
    obtain ⟨m1, m2⟩ := E.mks x (by simpa using a5)
    have F1 := mk_ok (P := P) (w := w) (mg := mg) (base := base) (cls := x) F G1 a1 (hp x (.inr ⟨ps, hkd⟩) acc)
    obtain ⟨oc, od, dV, kV, doc, pm, an, cdv, ct, osl, ef, lk, _⟩ := F.ex
    rw [of_decide_eq_true a0]
    exact ⟨k + 1, Nat.le_refl _, fd, oc, od, osl, lk, m1, m2, fun l r => runMk_0, F1⟩
  | kw x cl n ks b pm =>
    rw [hkd] at a hbd
    obtain ⟨a0, a⟩ := ba2 a
    obtain ⟨a1, a2⟩ := ba2 a
    have eb := of_decide_eq_true a0
    have ea := of_decide_eq_true a1
    obtain ⟨g, hkb⟩ := kb_ok F hbd
    have rms := fun S => ms_rp (S := S) (E.kd e.dd hkdd) a2
    have hi : b < acc.length := by rw [← S.len]; exact some_lt eb
    have eacc := List.getElem?_eq_getElem hi
    have SB := S.ok b _ _ eb eacc
    cases cl with
    | false =>
      have SB : FbFact P w K mg base k x e.ps acc[b] := SB
      obtain ⟨fd', oc, od, osl, lk, hm, hF⟩ := SB.is
      have ead : He.fAd K e.dd.at_ = He.ga K x := by rw [ea]; rfl
      rw [ead] at F
      have efd := fd_same F lk
      subst efd
      refine ⟨k, by omega, ?_⟩
      show KfFact P w K mg base k x n ks _
      refine ⟨He.ga K x, fd', e.ps, g, _, acc[b], hm, F.kp, hkb, fun S ds zs vs ws r1 r2 l1 l2 => ⟨goK (ds ++ zs) pm (dfs pm), goK_rp (r1.append r2) (rms S), ?_⟩, hF⟩
      have hl : (ds ++ zs).length = n + ks.length := by rw [List.length_append, r1.length, r2.length, l1, l2]
      simp only [hl, if_true, eacc]
      rfl
    | true =>
      obtain ⟨j, hj, SB⟩ := SB
      have SB : MbFact P w K mg base j x e.ps acc[b] := SB
      obtain ⟨fd', oc, od, osl, lk, m1, hm, h0, hF⟩ := SB.is
      have ead : He.fAd K e.dd.at_ = He.ma K (He.ga K x) "__init__" := by rw [ea]; rfl
      rw [ead] at F
      have efd := fd_same F lk
      subst efd
      refine ⟨j, by omega, ?_⟩
      show KmFact P w K mg base j x n ks _
      refine ⟨He.ma K (He.ga K x) "__init__", fd', e.ps, g, _, acc[b], m1, hm, hkb, fun S a ds zs vs ws r1 r2 l1 l2 => ⟨goK (ds ++ zs) pm (dfs pm), _, rfl, goK_rp (r1.append r2) (rms S), ?_⟩, h0, hF⟩
      have hl : (ds ++ zs).length = n + ks.length := by rw [List.length_append, r1.length, r2.length, l1, l2]
      simp only [hl, if_true, eacc]
      rfl
theorem all_ok (E : ExF T K mg) {xs : List XEntry} (c : He.SaysD [] fn K) (ht : tabB T xs = true) (hin : ∀ e ∈ xs, e.dd ∈ fn) (hA : ∀ x f, T.G.okA x f = true → (x, f) ∈ T.atA) (hX : ∀ x f, T.G.okX x f = true → (x, f) ∈ T.atX) :
    ∀ (es : List Entry) (names : List Ent) (acc : List (List D → Res (D × Nat))) (k : Nat), 2 ≤ k → (∀ e ∈ es, e.dd ∈ fn) → (∀ e ∈ es, ParI T.G e.d) → (∀ e ∈ es, e.dd ∈ T.kdds) → chkAll T names es = true → Sofar P w K mg base names acc k → Sofar P w K mg base (names ++ es.map (·.d.kd)) (build T.G (es.map (·.d)) acc) (k + 2 * es.length)
  | [], names, acc, k, _, _, _, _, _, S => by simpa [build] using S
  | e :: es, names, acc, k, hk, hi, hp, hq, h, S => by
    unfold chkAll at h
    obtain ⟨h1, h2⟩ := ba2 h
    have F1 := one_ok E c ht hin hA hX hk S (hi e List.mem_cons_self) (hp e List.mem_cons_self) (hq e List.mem_cons_self) h1
    have S' : Sofar P w K mg base (names ++ [e.d.kd]) (acc ++ [runKd { T.G with fns := acc } e.d]) (k + 2) := by
      refine ⟨by rw [List.length_append, List.length_append, S.len]; rfl, fun j x ψ hx hψ => ?_⟩
      by_cases hj : j < names.length
      · rw [List.getElem?_append_left hj] at hx
        rw [List.getElem?_append_left (by rw [← S.len]; exact hj)] at hψ
        exact (S.ok j x ψ hx hψ).mono (Nat.le_add_right k 2)
      · have l1 := some_lt hx
        rw [List.length_append, List.length_singleton] at l1
        have ej : j = names.length := by omega
        rw [ej, List.getElem?_append_right (Nat.le_refl _), Nat.sub_self] at hx
        rw [ej, S.len, List.getElem?_append_right (Nat.le_refl _), Nat.sub_self] at hψ
        cases hx
        cases hψ
        exact F1
    have r := all_ok E c ht hin hA hX es _ _ (k + 2) (by omega) (fun e he => hi e (List.mem_cons_of_mem _ he)) (fun e he => hp e (List.mem_cons_of_mem _ he)) (fun e he => hq e (List.mem_cons_of_mem _ he)) h2 S'
    rw [List.map_cons, List.map_cons, List.length_cons]
    have e1 : names ++ e.d.kd :: es.map (·.d.kd) = names ++ [e.d.kd] ++ es.map (·.d.kd) := by simp
    rw [e1]
    have e2 : k + 2 * (es.length + 1) = k + 2 + 2 * es.length := by omega
    rw [e2]
    exact r
/-- the law's own def -/
theorem law_ok {h : Heap} {f : Addr} (X : K.In h) (Gn : h.Ns mainGlobals mg) (hf : mg "law" = some (.ref f)) {xs : List XEntry} {es : List Entry} {la : Entry} (c : He.SaysD [] fn K) (he : T.ex K = true) (ht : tabB T xs = true) (hin : ∀ e ∈ xs, e.dd ∈ fn) (hie : ∀ e ∈ es, e.dd ∈ fn) (hil : la.dd ∈ fn) (hA : ∀ x f, T.G.okA x f = true → (x, f) ∈ T.atA) (hX : ∀ x f, T.G.okX x f = true → (x, f) ∈ T.atX)
    (hp : ∀ e ∈ es, ParI T.G e.d) (hq : ∀ e ∈ es, e.dd ∈ T.kdds) (hc : chkAll T [] es = true) (hl : chkEntry T (es.map (·.d.kd)) la = true) (hx : la.d.kd = .fn "law") (hps : la.ps = [("script" : Str)]) :
    ∃ fd : FuncData, (∀ (s : Shared) (v : Value), BindsTo s fd ⟨[v], []⟩ [("script", v)]) ∧ ∀ base : Heap, K.In base → base.Ns mainGlobals mg → FnOk P w K mg base (L2N.CX P w) (2 + 2 * es.length + 1) f fd [("script" : Str)] (spF K (runDef { T.G with fns := build T.G (es.map (·.d)) [] } la.d.a la.d.N.length la.d.code)) := by
  have E := ex_facts (mg := mg) X Gn he
  unfold chkEntry at hl
  obtain ⟨a3, a⟩ := ba2 hl
  obtain ⟨a4, a⟩ := ba2 a
  rw [hx] at a
  obtain ⟨a1, a⟩ := ba2 a
  obtain ⟨a2, a5⟩ := ba2 a
  obtain ⟨fd, F⟩ := fact_def c hil
  have dv : la.dd.dvs K = [] := by unfold He.DefD.dvs; rw [List.isEmpty_iff.mp a3]; rfl
  have ead : He.fAd K la.dd.at_ = He.ga K "law" := by rw [of_decide_eq_true a2]; rfl
  rw [ead, dv] at F
  have ef : He.ga K "law" = f := by
    have := E.gls "law" (by simpa using a5)
    have e := this.symm.trans hf
    cases e
    rfl
  rw [ef] at F
  refine ⟨fd, fun s v => ?_, fun base kb nb => ?_⟩
  · have hbd := la.bd
    rw [hx] at hbd
    have b := F.bindsA (ps := la.ps) hbd s [v] (by rw [hps]; rfl)
    rw [hps] at b
    exact b
  · have S0 : Sofar P w K mg base [] [] 2 := ⟨rfl, fun j x ψ h _ => by simp at h⟩
    have S := all_ok (P := P) (w := w) (base := base) E c ht hin hA hX es [] [] 2 (Nat.le_refl _) hie hp hq hc S0
    rw [List.nil_append] at S
    have F1 := def_ok (P := P) (w := w) (mg := mg) (base := base) F (gok E c ht hin hA hX (by omega) S) a1
    rw [hps] at F1
    exact F1
/-- what the law's def answers -/
theorem sp_end {φ : List D → Res (D × Nat)} {H : Hp} {a : Addr} {ns : List Int} (hl : ns.length ≤ cap) (hS : SqL K H a (ns.map V.int)) (h : φ [.ro (ns.map .int)] = .ok (.bl true, 0)) : spF K φ [.ref a] H (fun v _ => v = .bl true) fun _ _ _ => False := by
  refine ⟨H, [.ro (ns.map .int)], .rfl, .cons ?_ .nil, ?_⟩
  · simp only [Rp]
    refine ⟨a, ns.map V.int, rfl, hS, by rw [List.length_map]; exact hl, rpl_ints ns⟩
  · rw [h]
    intro v S' H' fq n
    exact rp_bl n.ow.zero.2
/-- what may be let out, at some world -/
def cxW : CXT := fun o H s E e s' => ∃ P w, L2N.CX P w o H s E e s'
theorem fn_exw {k : Nat} {f : Addr} {fd : FuncData} {ps : List Str} {sp : Sp} (F : FnOk P w K mg base (L2N.CX P w) k f fd ps sp) : FnOk P w K mg base cxW k f fd ps sp :=
  ⟨F.len, fun A outer s H args us vs Q E hr e0 hb r h => codeAny_mono (F.run A outer s H args us vs Q E hr e0 hb r h) fun r s' q => by
    cases r with
    | ok fl => cases fl <;> exact q
    | error e => exact ⟨P, w, q⟩⟩
theorem cxW_end : ∀ (H : Hp) (s : Shared) (e : Value) (s' : Shared), cxW [] H s (fun _ _ _ => False) e s' → False := fun H s e s' h => by
  obtain ⟨_, _, _, _, _, _, _, _, _, _, _, _, _, _, z⟩ := h
  exact z
end
end Ev
namespace Lk08
open PySem PySem.Spec L2 Ev
def c__law_digits : DefC := ⟨[("cell" : Str), ("sizes" : Str), ("row" : Str), ("rest" : Str), ("limit" : Str), ("seed" : Str), ("k" : Str), ("twice" : Str)], 2, .seq (.asg (.nm 2) false (.lst 0 [])) (.seq (.asg (.nm 3) true (.bi .int [.var 0])) (.seq (.ife (.cmp .ge (.var 3) (.val (.bin .pow (.val (.lit (.int 10))) (.val (.lit (.int 18)))))) (.seq (.asg (.nm 3) true (.bin .sub (.var 3) (.val (.bin .pow (.val (.lit (.int 10))) (.val (.lit (.int 18))))))) (.seq (.for (.nm 4) (.seq (.var 1)) (.seq (.app 2 [] 0 (.bin .mod (.val (.bi .int [.var 3])) (.var 4))) (.seq (.asg (.nm 3) true (.bin .fdiv (.val (.bi .int [.var 3])) (.var 4))) (.skip)))) (.seq (.reto 2) (.skip)))) (.skip)) (.seq (.asg (.nm 5) true (.bin .mod (.val (.bi .int [.var 3])) (.val (.lit (.int 2147483629))))) (.seq (.for (.nm 6) (.rng [.bi .len [.var 1]]) (.seq (.asg (.nm 5) true (.bin .mod (.val (.bi .int [.val (.bin .add (.val (.bin .add (.val (.bin .mul (.var 5) (.val (.lit (.int 48271))))) (.val (.bin .mul (.val (.lit (.int 974711))) (.var 6))))) (.val (.lit (.int 12345))))])) (.val (.lit (.int 2147483647))))) (.seq (.asg (.nm 7) true (.bin .mod (.val (.bi .int [.val (.bin .mul (.var 5) (.val (.bin .add (.val (.bin .fdiv (.var 5) (.val (.lit (.int 65537))))) (.val (.lit (.int 3))))))])) (.val (.lit (.int 2147483629))))) (.seq (.app 2 [] 0 (.bin .mod (.val (.bin .fdiv (.var 7) (.val (.lit (.int 19))))) (.idx (.var 1) (.var 6)))) (.skip))))) (.seq (.reto 2) (.skip)))))), .fn "_law_digits"⟩
def c__law_entries : DefC := ⟨[("row" : Str), ("copies" : Str), ("entries" : Str), ("copy" : Str), ("digit" : Str), ("left" : Str), ("other" : Str), ("sign" : Str), ("k" : Str)], 2, .seq (.asg (.nm 2) false (.comp 0 (.nm 8) (.rng [.var 1]) [] (.lit (.non)))) (.seq (.for (.nm 3) (.rng [.var 1]) (.seq (.asg (.nm 4) true (.bi .int [.idx (.var 0) (.var 3)])) (.seq (.asg (.nm 5) true (.comp 0 (.nm 6) (.rng [.bin .add (.var 3) (.val (.lit (.int 1))), .var 1]) [.cmp .is_ (.idx (.var 2) (.var 6)) (.val (.lit (.non)))] (.var 6))) (.seq (.ife (.and (.cmp .is_ (.idx (.var 2) (.var 3)) (.val (.lit (.non)))) (.and (.cmp .gt (.val (.bi .len [.var 5])) (.val (.lit (.int 0)))) (.cmp .lt (.val (.bin .mod (.var 4) (.val (.lit (.int 5))))) (.val (.lit (.int 3)))))) (.seq (.asg (.nm 6) true (.idx (.var 5) (.bin .mod (.val (.bin .fdiv (.var 4) (.val (.lit (.int 5))))) (.val (.bi .len [.var 5]))))) (.seq (.asg (.nm 7) true (.idx (.val (.lst 0 [.lit (.int 1), .lit (.int 1), .neg (.lit (.int 1))])) (.bin .fdiv (.var 4) (.val (.lit (.int 20)))))) (.seq (.sti 2 [.var 3] 0 (.tup [.var 6, .var 7])) (.seq (.sti 2 [.var 6] 0 (.tup [.var 3, .var 7])) (.skip))))) (.skip)) (.seq (.ife (.cmp .is_ (.idx (.var 2) (.var 3)) (.val (.lit (.non)))) (.seq (.sti 2 [.var 3] 0 (.tup [.var 3, .idx (.val (.lst 0 [.lit (.int 1), .neg (.lit (.int 1))])) (.bin .mod (.val (.bin .fdiv (.var 4) (.val (.lit (.int 5))))) (.val (.lit (.int 2))))])) (.skip)) (.skip)) (.skip)))))) (.seq (.reto 2) (.skip))), .fn "_law_entries"⟩
def c__law_sides : DefC := ⟨[("cell" : Str), ("copies" : Str), ("kinds" : Str), ("row" : Str), ("kind" : Str)], 3, .seq (.asg (.nm 3) true (.call 0 [.var 0, .bin .mul (.val (.lst 0 [.lit (.int 60)])) (.val (.bin .mul (.var 1) (.var 2)))])) (.seq (.ret (.comp 0 (.nm 4) (.rng [.var 2]) [] (.call 1 [.slc (.var 3) [.bin .mul (.var 4) (.var 1)] [.bin .add (.val (.bin .mul (.var 4) (.var 1))) (.var 1)], .var 1]))) (.skip)), .fn "_law_sides"⟩
def c_is_good_entry : DefC := ⟨[("entries" : Str), ("copy" : Str), ("other" : Str), ("sign" : Str)], 2, .seq (.asg (.tp [.nm 2, .nm 3]) true (.idx (.var 0) (.var 1))) (.seq (.ife (.or (.not (.chn .le .lt (.val (.lit (.int 0))) (.var 2) (.val (.bi .len [.var 0])))) (.cmp .nin (.var 3) (.val (.tup [.lit (.int 1), .neg (.lit (.int 1))])))) (.seq (.ret (.lit (.bl false))) (.skip)) (.skip)) (.seq (.ret (.tst (.cmp .eq (.idx (.var 0) (.var 2)) (.val (.tup [.var 1, .var 3]))))) (.skip))), .fn "is_good_entry"⟩
def c_checked_sides : DefC := ⟨[("sides" : Str), ("kind" : Str), ("entries" : Str), ("copy" : Str)], 1, .seq (.ife (.or (.cmp .eq (.val (.bi .len [.var 0])) (.val (.lit (.int 0)))) (.cmp .eq (.val (.bi .len [.idx (.var 0) (.lit (.int 0))])) (.val (.lit (.int 0))))) (.seq (.rse "BadPlan" ["kind", "copy"] [.lit (.int 0), .lit (.non)]) (.skip)) (.skip)) (.seq (.for (.tp [.nm 1, .nm 2]) (.enm (.var 0)) (.seq (.ife (.cmp .ne (.val (.bi .len [.var 2])) (.val (.bi .len [.idx (.var 0) (.lit (.int 0))]))) (.seq (.rse "BadPlan" ["kind", "copy"] [.var 1, .lit (.non)]) (.skip)) (.skip)) (.skip))) (.seq (.for (.tp [.nm 1, .nm 2]) (.enm (.var 0)) (.seq (.for (.nm 3) (.rng [.bi .len [.var 2]]) (.seq (.ife (.not (.tru (.val (.call 3 [.var 2, .var 3])))) (.seq (.rse "BadPlan" ["kind", "copy"] [.var 1, .var 3]) (.skip)) (.skip)) (.skip))) (.skip))) (.seq (.ret (.var 0)) (.skip)))), .fn "checked_sides"⟩
def c_frozen_r0 : DefC := ⟨[("value" : Str), ("item" : Str)], 1, .skip, .stub "frozen"⟩
def c_frozen_r1 : DefC := ⟨[("value" : Str), ("item" : Str)], 1, .seq (.ife (.isi (.var 0) ["list", "tuple"]) (.seq (.ret (.bi .tuple [.val (.comp 0 (.nm 1) (.seq (.var 0)) [] (.call 5 [.var 1]))])) (.skip)) (.skip)) (.seq (.ret (.var 0)) (.skip)), .fn "frozen"⟩
def c_frozen_r2 : DefC := ⟨[("value" : Str), ("item" : Str)], 1, .seq (.ife (.isi (.var 0) ["list", "tuple"]) (.seq (.ret (.bi .tuple [.val (.comp 0 (.nm 1) (.seq (.var 0)) [] (.call 6 [.var 1]))])) (.skip)) (.skip)) (.seq (.ret (.var 0)) (.skip)), .fn "frozen"⟩
def c_frozen_r3 : DefC := ⟨[("value" : Str), ("item" : Str)], 1, .seq (.ife (.isi (.var 0) ["list", "tuple"]) (.seq (.ret (.bi .tuple [.val (.comp 0 (.nm 1) (.seq (.var 0)) [] (.call 7 [.var 1]))])) (.skip)) (.skip)) (.seq (.ret (.var 0)) (.skip)), .fn "frozen"⟩
def c_frozen_r4 : DefC := ⟨[("value" : Str), ("item" : Str)], 1, .seq (.ife (.isi (.var 0) ["list", "tuple"]) (.seq (.ret (.bi .tuple [.val (.comp 0 (.nm 1) (.seq (.var 0)) [] (.call 8 [.var 1]))])) (.skip)) (.skip)) (.seq (.ret (.var 0)) (.skip)), .fn "frozen"⟩
def c_frozen_r5 : DefC := ⟨[("value" : Str), ("item" : Str)], 1, .seq (.ife (.isi (.var 0) ["list", "tuple"]) (.seq (.ret (.bi .tuple [.val (.comp 0 (.nm 1) (.seq (.var 0)) [] (.call 9 [.var 1]))])) (.skip)) (.skip)) (.seq (.ret (.var 0)) (.skip)), .fn "frozen"⟩
def c_Plan_init : DefC := ⟨[("self" : Str), ("sides" : Str)], 1, .seq (.stf "sides" (.call 4 [.call 10 [.var 1]])) (.seq (.stf "kinds" (.bi .len [.att (.var 0) "sides"])) (.seq (.stf "copies" (.bi .len [.idx (.att (.var 0) "sides") (.lit (.int 0))])) (.skip))), .mk "Plan"⟩
def c__law_spoilt : DefC := ⟨[("sides" : Str), ("row" : Str), ("fresh" : Str), ("kind" : Str), ("copy" : Str), ("many" : Str), ("entries" : Str), ("entry" : Str)], 2, .seq (.asg (.nm 2) false (.comp 1 (.nm 6) (.seq (.var 0)) [] (.comp 0 (.nm 7) (.seq (.var 6)) [] (.bi .list [.var 7])))) (.seq (.asg (.nm 3) true (.bin .mod (.idx (.var 1) (.lit (.int 0))) (.val (.bi .len [.var 2])))) (.seq (.asg (.nm 4) true (.bin .mod (.idx (.var 1) (.lit (.int 1))) (.val (.bi .len [.idx (.var 2) (.lit (.int 0))])))) (.seq (.asg (.nm 5) true (.bi .len [.idx (.var 2) (.lit (.int 0))])) (.seq (.ife (.cmp .eq (.idx (.var 1) (.lit (.int 2))) (.val (.lit (.int 6)))) (.seq (.sti 2 [.var 3] 0 (.bin .add (.idx (.var 2) (.var 3)) (.val (.lst 0 [.lst 0 [.var 5, .lit (.int 1)]])))) (.skip)) (.seq (.ife (.cmp .eq (.idx (.var 1) (.lit (.int 2))) (.val (.lit (.int 7)))) (.seq (.sti 2 [.var 3] 0 (.slc (.idx (.var 2) (.var 3)) [] [.bin .sub (.var 5) (.val (.lit (.int 1)))])) (.skip)) (.seq (.ife (.cmp .eq (.idx (.var 1) (.lit (.int 2))) (.val (.lit (.int 8)))) (.seq (.sti 2 [.var 3, .var 4] 0 (.lst 0 [.bin .sub (.idx (.idx (.idx (.var 2) (.var 3)) (.var 4)) (.lit (.int 0))) (.var 5), .idx (.idx (.idx (.var 2) (.var 3)) (.var 4)) (.lit (.int 1))])) (.skip)) (.seq (.sti 2 [.var 3, .var 4] 0 (.idx (.val (.lst 0 [.lst 0 [.var 5, .lit (.int 1)], .lst 0 [.var 4, .lit (.int 2)], .lst 0 [.neg (.lit (.int 1)), .lit (.int 1)], .lst 0 [.bin .mod (.val (.bi .int [.val (.bin .add (.var 4) (.val (.lit (.int 1))))])) (.var 5), .lit (.int 1)], .lst 0 [.var 4, .lit (.int 0)], .lst 0 [.idx (.idx (.idx (.var 2) (.var 3)) (.var 4)) (.lit (.int 0)), .neg (.idx (.idx (.idx (.var 2) (.var 3)) (.var 4)) (.lit (.int 1)))]])) (.idx (.var 1) (.lit (.int 2))))) (.skip))) (.skip))) (.skip))) (.seq (.reto 2) (.skip)))))), .fn "_law_spoilt"⟩
def c__law_cell : DefC := ⟨[("script" : Str), ("k" : Str), ("seed" : Str), ("cell" : Str)], 2, .seq (.ife (.cmp .lt (.var 1) (.val (.bi .len [.var 0]))) (.seq (.ret (.bi .int [.idx (.var 0) (.var 1)])) (.skip)) (.skip)) (.seq (.asg (.nm 2) true (.lit (.int 17))) (.seq (.for (.nm 3) (.seq (.var 0)) (.seq (.asg (.nm 2) true (.bin .mod (.val (.bi .int [.val (.bin .add (.val (.bin .mul (.var 2) (.val (.lit (.int 31))))) (.val (.bin .mod (.val (.bi .int [.var 3])) (.val (.lit (.int 1000003))))))])) (.val (.lit (.int 1000003))))) (.skip))) (.seq (.ret (.bin .mod (.val (.bi .int [.val (.bin .mul (.val (.bin .mul (.val (.bin .add (.var 2) (.val (.lit (.int 7))))) (.val (.bin .add (.var 1) (.val (.lit (.int 3))))))) (.val (.lit (.int 69621))))])) (.val (.lit (.int 2147483647))))) (.skip)))), .fn "_law_cell"⟩
def c_Plan_across : DefC := ⟨[("self" : Str), ("copy" : Str), ("kind" : Str)], 3, .seq (.ife (.not (.chn .le .lt (.val (.lit (.int 0))) (.var 1) (.att (.var 0) "copies"))) (.seq (.rse "NoCopy" ["copy"] [.var 1]) (.skip)) (.skip)) (.seq (.ife (.not (.chn .le .lt (.val (.lit (.int 0))) (.var 2) (.att (.var 0) "kinds"))) (.seq (.rse "NoKind" ["kind"] [.var 2]) (.skip)) (.skip)) (.seq (.ret (.idx (.idx (.att (.var 0) "sides") (.var 2)) (.var 1))) (.skip))), .mt "Plan" "across"⟩
def c_entries_matrix : DefC := ⟨[("entries" : Str), ("many" : Str), ("row" : Str), ("column" : Str)], 1, .seq (.asg (.nm 1) true (.bi .len [.var 0])) (.seq (.ret (.bi .tuple [.val (.comp 0 (.nm 2) (.rng [.var 1]) [] (.bi .tuple [.val (.comp 0 (.nm 3) (.rng [.var 1]) [] (.ifx (.cmp .eq (.idx (.idx (.var 0) (.var 2)) (.lit (.int 0))) (.var 3)) (.idx (.idx (.var 0) (.var 2)) (.lit (.int 1))) (.lit (.int 0))))]))])) (.skip)), .fn "entries_matrix"⟩
def c_Plan_matrix : DefC := ⟨[("self" : Str), ("kind" : Str)], 2, .seq (.ife (.not (.chn .le .lt (.val (.lit (.int 0))) (.var 1) (.att (.var 0) "kinds"))) (.seq (.rse "NoKind" ["kind"] [.var 1]) (.skip)) (.skip)) (.seq (.ret (.call 15 [.idx (.att (.var 0) "sides") (.var 1)])) (.skip)), .mt "Plan" "matrix"⟩
def c__law_no : DefC := ⟨[("which" : Str), ("plan" : Str), ("copy" : Str), ("kind" : Str), ("e" : Str)], 4, .seq (.try (.seq (.ife (.cmp .eq (.var 0) (.val (.lit (.int 0)))) (.seq (.exp (.mth "Plan" "across" 14 (.var 1) [.var 2, .var 3])) (.skip)) (.seq (.exp (.mth "Plan" "matrix" 16 (.var 1) [.var 3])) (.skip))) (.skip)) "BenchError" 4 (.seq (.ife (.and (.isx 4 ["NoCopy"]) (.not (.isx 4 ["NoKind"]))) (.seq (.ret (.tup [.lit (.str "copy"), .exf 4 "copy"])) (.skip)) (.skip)) (.seq (.ife (.and (.isx 4 ["NoKind"]) (.not (.isx 4 ["BadRoute"]))) (.seq (.ret (.tup [.lit (.str "kind"), .exf 4 "kind"])) (.skip)) (.skip)) (.skip)))) (.seq (.ret (.tup [])) (.skip)), .fn "_law_no"⟩
def c__law_tuples : DefC := ⟨[("sides" : Str), ("entries" : Str), ("entry" : Str)], 1, .seq (.ret (.bi .tuple [.val (.comp 0 (.nm 1) (.seq (.var 0)) [] (.bi .tuple [.val (.comp 0 (.nm 2) (.seq (.var 1)) [] (.tup [.idx (.var 2) (.lit (.int 0)), .idx (.var 2) (.lit (.int 1))]))]))])) (.skip), .fn "_law_tuples"⟩
def c_Plan___len__ : DefC := ⟨[("self" : Str)], 1, .seq (.ret (.bi .len [.idx (.att (.var 0) "sides") (.lit (.int 0))])) (.skip), .mt "Plan" "__len__"⟩
def c__law_told : DefC := ⟨[("sides" : Str), ("e" : Str)], 1, .seq (.try (.seq (.exp (.call 11 [.var 0])) (.skip)) "BenchError" 1 (.seq (.ife (.and (.isx 1 ["BadPlan"]) (.not (.isx 1 ["NoCopy"]))) (.seq (.ret (.tup [.exf 1 "kind", .exf 1 "copy"])) (.skip)) (.skip)) (.seq (.ret (.lit (.non))) (.skip)))) (.seq (.ret (.tup [])) (.skip)), .fn "_law_told"⟩
def c__law_fault : DefC := ⟨[("sides" : Str), ("kind" : Str), ("copy" : Str), ("other" : Str), ("sign" : Str)], 1, .seq (.ife (.or (.cmp .eq (.val (.bi .len [.var 0])) (.val (.lit (.int 0)))) (.cmp .eq (.val (.bi .len [.idx (.var 0) (.lit (.int 0))])) (.val (.lit (.int 0))))) (.seq (.ret (.tup [.lit (.int 0), .lit (.non)])) (.skip)) (.skip)) (.seq (.for (.nm 1) (.rng [.bi .len [.var 0]]) (.seq (.ife (.cmp .ne (.val (.bi .len [.idx (.var 0) (.var 1)])) (.val (.bi .len [.idx (.var 0) (.lit (.int 0))]))) (.seq (.ret (.tup [.var 1, .lit (.non)])) (.skip)) (.skip)) (.skip))) (.seq (.for (.nm 1) (.rng [.bi .len [.var 0]]) (.seq (.for (.nm 2) (.rng [.bi .len [.idx (.var 0) (.lit (.int 0))]]) (.seq (.asg (.tp [.nm 3, .nm 4]) true (.idx (.idx (.var 0) (.var 1)) (.var 2))) (.seq (.ife (.or (.not (.chn .le .lt (.val (.lit (.int 0))) (.var 3) (.val (.bi .len [.idx (.var 0) (.lit (.int 0))])))) (.cmp .ne (.val (.bi .abs [.var 4])) (.val (.lit (.int 1))))) (.seq (.ret (.tup [.var 1, .var 2])) (.skip)) (.skip)) (.seq (.ife (.or (.cmp .ne (.idx (.idx (.idx (.var 0) (.var 1)) (.var 3)) (.lit (.int 0))) (.var 2)) (.cmp .ne (.idx (.idx (.idx (.var 0) (.var 1)) (.var 3)) (.lit (.int 1))) (.var 4))) (.seq (.ret (.tup [.var 1, .var 2])) (.skip)) (.skip)) (.skip))))) (.skip))) (.seq (.ret (.tup [])) (.skip)))), .fn "_law_fault"⟩
def c__law_side : DefC := ⟨[("entries" : Str), ("many" : Str), ("rows" : Str), ("copy" : Str)], 1, .seq (.asg (.nm 1) true (.bi .len [.var 0])) (.seq (.asg (.nm 2) false (.comp 1 (.nm 3) (.rng [.var 1]) [] (.comp 0 (.nm 3) (.rng [.var 1]) [] (.lit (.int 0))))) (.seq (.for (.nm 3) (.rng [.var 1]) (.seq (.sti 2 [.idx (.idx (.var 0) (.var 3)) (.lit (.int 0)), .var 3] 0 (.idx (.idx (.var 0) (.var 3)) (.lit (.int 1)))) (.skip))) (.seq (.reto 2) (.skip)))), .fn "_law_side"⟩
def c_law : DefC := ⟨[("script" : Str), ("row" : Str), ("sides" : Str), ("many" : Str), ("given" : Str), ("plan" : Str), ("kind" : Str), ("copy" : Str), ("spoilt" : Str), ("entries" : Str), ("entry" : Str), ("line" : Str)], 1, .seq (.asg (.nm 1) true (.call 0 [.call 13 [.var 0, .lit (.int 0)], .lst 0 [.lit (.int 7), .lit (.int 4), .lit (.int 4), .lit (.int 16), .lit (.int 9), .lit (.int 4), .lit (.int 16), .lit (.int 9), .lit (.int 3), .lit (.int 4)]])) (.seq (.asg (.nm 2) true (.call 2 [.call 13 [.var 0, .lit (.int 1)], .idx (.val (.lst 0 [.lit (.int 3), .lit (.int 4), .lit (.int 2), .lit (.int 5), .lit (.int 1), .lit (.int 9), .lit (.int 15)])) (.idx (.var 1) (.lit (.int 0))), .bin .add (.val (.lit (.int 1))) (.idx (.var 1) (.lit (.int 1)))])) (.seq (.asg (.nm 3) true (.bi .len [.idx (.var 2) (.lit (.int 0))])) (.seq (.asg (.nm 4) false (.comp 2 (.nm 9) (.seq (.var 2)) [] (.comp 1 (.nm 10) (.seq (.var 9)) [] (.bi .list [.var 10])))) (.seq (.asg (.nm 5) true (.lend 4 (.call 11 [.var 4]))) (.seq (.ife (.cmp .ne (.var 4) (.val (.comp 0 (.nm 9) (.seq (.var 2)) [] (.comp 0 (.nm 10) (.seq (.var 9)) [] (.bi .list [.var 10]))))) (.seq (.ret (.lit (.bl false))) (.skip)) (.skip)) (.seq (.sti 4 [.lit (.int 0), .lit (.int 0), .lit (.int 1)] 0 (.lit (.int 5))) (.seq (.app 4 [.lit (.int 0)] 1 (.lst 0 [.lit (.int 0), .lit (.int 1)])) (.seq (.ife (.or (.cmp .ne (.att (.var 5) "sides") (.val (.call 18 [.var 2]))) (.or (.cmp .ne (.att (.var 5) "copies") (.var 3)) (.or (.cmp .ne (.att (.var 5) "kinds") (.val (.bi .len [.var 2]))) (.cmp .ne (.val (.mth "Plan" "__len__" 19 (.var 5) [])) (.var 3))))) (.seq (.ret (.lit (.bl false))) (.skip)) (.skip)) (.seq (.for (.nm 6) (.rng [.bi .len [.var 2]]) (.seq (.ife (.cmp .ne (.val (.mth "Plan" "matrix" 16 (.var 5) [.var 6])) (.val (.bi .tuple [.val (.comp 0 (.nm 11) (.made (.call 22 [.idx (.var 2) (.var 6)])) [] (.bi .tuple [.var 11]))]))) (.seq (.ret (.lit (.bl false))) (.skip)) (.skip)) (.seq (.for (.nm 7) (.rng [.var 3]) (.seq (.ife (.cmp .ne (.val (.mth "Plan" "across" 14 (.var 5) [.var 7, .var 6])) (.val (.tup [.idx (.idx (.idx (.var 2) (.var 6)) (.var 7)) (.lit (.int 0)), .idx (.idx (.idx (.var 2) (.var 6)) (.var 7)) (.lit (.int 1))]))) (.seq (.ret (.lit (.bl false))) (.skip)) (.skip)) (.skip))) (.skip)))) (.seq (.asg (.nm 8) true (.call 12 [.var 2, .slc (.var 1) [.lit (.int 2)] [.lit (.int 5)]])) (.seq (.ife (.and (.cmp .eq (.idx (.var 1) (.lit (.int 8))) (.val (.lit (.int 0)))) (.and (.cmp .ne (.idx (.var 1) (.lit (.int 4))) (.val (.lit (.int 6)))) (.cmp .ne (.idx (.var 1) (.lit (.int 4))) (.val (.lit (.int 7)))))) (.seq (.asg (.nm 8) true (.call 12 [.var 8, .slc (.var 1) [.lit (.int 5)] [.lit (.int 8)]])) (.skip)) (.skip)) (.seq (.ife (.or (.cmp .ne (.val (.call 20 [.var 8])) (.val (.call 21 [.var 8]))) (.cmp .ne (.val (.call 20 [.call 18 [.var 2]])) (.val (.tup [])))) (.seq (.ret (.lit (.bl false))) (.skip)) (.skip)) (.seq (.ife (.or (.cmp .ne (.val (.call 20 [.lst 0 []])) (.val (.tup [.lit (.int 0), .lit (.non)]))) (.or (.cmp .ne (.val (.call 20 [.lst 0 [.lst 0 [], .lst 0 [.tup [.lit (.int 0), .lit (.int 1)]]]])) (.val (.tup [.lit (.int 0), .lit (.non)]))) (.cmp .ne (.val (.call 20 [.tup []])) (.val (.tup [.lit (.int 0), .lit (.non)]))))) (.seq (.ret (.lit (.bl false))) (.skip)) (.skip)) (.seq (.ife (.or (.cmp .ne (.val (.call 17 [.lit (.int 0), .var 5, .bin .add (.var 3) (.idx (.var 1) (.lit (.int 9))), .bi .len [.var 2]])) (.val (.tup [.lit (.str "copy"), .bin .add (.var 3) (.idx (.var 1) (.lit (.int 9)))]))) (.cmp .ne (.val (.call 17 [.lit (.int 0), .var 5, .neg (.lit (.int 1)), .lit (.int 0)])) (.val (.tup [.lit (.str "copy"), .neg (.lit (.int 1))])))) (.seq (.ret (.lit (.bl false))) (.skip)) (.skip)) (.seq (.ife (.or (.cmp .ne (.val (.call 17 [.lit (.int 0), .var 5, .lit (.int 0), .neg (.lit (.int 1))])) (.val (.tup [.lit (.str "kind"), .neg (.lit (.int 1))]))) (.cmp .ne (.val (.call 17 [.lit (.int 1), .var 5, .lit (.int 0), .bin .sub (.val (.neg (.lit (.int 1)))) (.idx (.var 1) (.lit (.int 9)))])) (.val (.tup [.lit (.str "kind"), .bin .sub (.val (.neg (.lit (.int 1)))) (.idx (.var 1) (.lit (.int 9)))])))) (.seq (.ret (.lit (.bl false))) (.skip)) (.skip)) (.seq (.ife (.cmp .ne (.val (.call 17 [.lit (.int 0), .var 5, .bin .sub (.var 3) (.val (.lit (.int 1))), .bin .add (.val (.bi .len [.var 2])) (.idx (.var 1) (.lit (.int 9)))])) (.val (.tup [.lit (.str "kind"), .bin .add (.val (.bi .len [.var 2])) (.idx (.var 1) (.lit (.int 9)))]))) (.seq (.ret (.lit (.bl false))) (.skip)) (.skip)) (.seq (.ret (.tst (.and (.cmp .eq (.val (.call 17 [.lit (.int 1), .var 5, .lit (.int 0), .bi .len [.var 2]])) (.val (.tup [.lit (.str "kind"), .bi .len [.var 2]]))) (.cmp .eq (.att (.var 5) "sides") (.val (.call 18 [.var 2])))))) (.skip)))))))))))))))))), .fn "law"⟩
def sbs : List (String × String) := [("BadPlan", "BadPlan"), ("BadPlan", "BenchError"), ("BadRoute", "BadRoute"), ("BadRoute", "BenchError"), ("BenchError", "BenchError"), ("NoCopy", "BenchError"), ("NoCopy", "NoCopy"), ("NoKind", "BenchError"), ("NoKind", "NoKind"), ("Plan", "Plan")]
def atXs : List (String × String) := [("BadPlan", "kind"), ("BadPlan", "copy"), ("NoCopy", "copy"), ("NoKind", "kind")]
def atAs : List (String × String) := [("Plan", "copies"), ("Plan", "kinds"), ("Plan", "sides")]
def GG : Glb := { sb := fun c t => sbs.contains (c, t), cls := ["Plan"], xcs := ["BadPlan", "BadRoute", "BenchError", "NoCopy", "NoKind"], okX := fun c f => atXs.contains (c, f), okA := fun c f => atAs.contains (c, f) }
def codes : List DefC := [c__law_digits, c__law_entries, c__law_sides, c_is_good_entry, c_checked_sides, c_frozen_r0, c_frozen_r1, c_frozen_r2, c_frozen_r3, c_frozen_r4, c_frozen_r5, c_Plan_init, c__law_spoilt, c__law_cell, c_Plan_across, c_entries_matrix, c_Plan_matrix, c__law_no, c__law_tuples, c_Plan___len__, c__law_told, c__law_fault, c__law_side]
/-- the law's pure run -/
def phi : List D → Res (D × Nat) := runDef { GG with fns := build GG codes [] } c_law.a c_law.N.length c_law.code
/-- each own __init__ does the same wherever the instance stands -/
def Par : Prop := ∀ d ∈ codes, ParI GG d
def f__law_digits : List D → Res (D × Nat) := runKd { GG with fns := [] } c__law_digits
def f__law_entries : List D → Res (D × Nat) := runKd { GG with fns := [f__law_digits] } c__law_entries
def f__law_sides : List D → Res (D × Nat) := runKd { GG with fns := [f__law_digits, f__law_entries] } c__law_sides
def f_is_good_entry : List D → Res (D × Nat) := runKd { GG with fns := [f__law_digits, f__law_entries, f__law_sides] } c_is_good_entry
def f_checked_sides : List D → Res (D × Nat) := runKd { GG with fns := [f__law_digits, f__law_entries, f__law_sides, f_is_good_entry] } c_checked_sides
def f_frozen_r0 : List D → Res (D × Nat) := runKd { GG with fns := [f__law_digits, f__law_entries, f__law_sides, f_is_good_entry, f_checked_sides] } c_frozen_r0
def f_frozen_r1 : List D → Res (D × Nat) := runKd { GG with fns := [f__law_digits, f__law_entries, f__law_sides, f_is_good_entry, f_checked_sides, f_frozen_r0] } c_frozen_r1
def f_frozen_r2 : List D → Res (D × Nat) := runKd { GG with fns := [f__law_digits, f__law_entries, f__law_sides, f_is_good_entry, f_checked_sides, f_frozen_r0, f_frozen_r1] } c_frozen_r2
def f_frozen_r3 : List D → Res (D × Nat) := runKd { GG with fns := [f__law_digits, f__law_entries, f__law_sides, f_is_good_entry, f_checked_sides, f_frozen_r0, f_frozen_r1, f_frozen_r2] } c_frozen_r3
def f_frozen_r4 : List D → Res (D × Nat) := runKd { GG with fns := [f__law_digits, f__law_entries, f__law_sides, f_is_good_entry, f_checked_sides, f_frozen_r0, f_frozen_r1, f_frozen_r2, f_frozen_r3] } c_frozen_r4
def f_frozen_r5 : List D → Res (D × Nat) := runKd { GG with fns := [f__law_digits, f__law_entries, f__law_sides, f_is_good_entry, f_checked_sides, f_frozen_r0, f_frozen_r1, f_frozen_r2, f_frozen_r3, f_frozen_r4] } c_frozen_r5
def f_Plan_init : List D → Res (D × Nat) := runKd { GG with fns := [f__law_digits, f__law_entries, f__law_sides, f_is_good_entry, f_checked_sides, f_frozen_r0, f_frozen_r1, f_frozen_r2, f_frozen_r3, f_frozen_r4, f_frozen_r5] } c_Plan_init
def f__law_spoilt : List D → Res (D × Nat) := runKd { GG with fns := [f__law_digits, f__law_entries, f__law_sides, f_is_good_entry, f_checked_sides, f_frozen_r0, f_frozen_r1, f_frozen_r2, f_frozen_r3, f_frozen_r4, f_frozen_r5, f_Plan_init] } c__law_spoilt
def f__law_cell : List D → Res (D × Nat) := runKd { GG with fns := [f__law_digits, f__law_entries, f__law_sides, f_is_good_entry, f_checked_sides, f_frozen_r0, f_frozen_r1, f_frozen_r2, f_frozen_r3, f_frozen_r4, f_frozen_r5, f_Plan_init, f__law_spoilt] } c__law_cell
def f_Plan_across : List D → Res (D × Nat) := runKd { GG with fns := [f__law_digits, f__law_entries, f__law_sides, f_is_good_entry, f_checked_sides, f_frozen_r0, f_frozen_r1, f_frozen_r2, f_frozen_r3, f_frozen_r4, f_frozen_r5, f_Plan_init, f__law_spoilt, f__law_cell] } c_Plan_across
def f_entries_matrix : List D → Res (D × Nat) := runKd { GG with fns := [f__law_digits, f__law_entries, f__law_sides, f_is_good_entry, f_checked_sides, f_frozen_r0, f_frozen_r1, f_frozen_r2, f_frozen_r3, f_frozen_r4, f_frozen_r5, f_Plan_init, f__law_spoilt, f__law_cell, f_Plan_across] } c_entries_matrix
def f_Plan_matrix : List D → Res (D × Nat) := runKd { GG with fns := [f__law_digits, f__law_entries, f__law_sides, f_is_good_entry, f_checked_sides, f_frozen_r0, f_frozen_r1, f_frozen_r2, f_frozen_r3, f_frozen_r4, f_frozen_r5, f_Plan_init, f__law_spoilt, f__law_cell, f_Plan_across, f_entries_matrix] } c_Plan_matrix
def f__law_no : List D → Res (D × Nat) := runKd { GG with fns := [f__law_digits, f__law_entries, f__law_sides, f_is_good_entry, f_checked_sides, f_frozen_r0, f_frozen_r1, f_frozen_r2, f_frozen_r3, f_frozen_r4, f_frozen_r5, f_Plan_init, f__law_spoilt, f__law_cell, f_Plan_across, f_entries_matrix, f_Plan_matrix] } c__law_no
def f__law_tuples : List D → Res (D × Nat) := runKd { GG with fns := [f__law_digits, f__law_entries, f__law_sides, f_is_good_entry, f_checked_sides, f_frozen_r0, f_frozen_r1, f_frozen_r2, f_frozen_r3, f_frozen_r4, f_frozen_r5, f_Plan_init, f__law_spoilt, f__law_cell, f_Plan_across, f_entries_matrix, f_Plan_matrix, f__law_no] } c__law_tuples
def f_Plan___len__ : List D → Res (D × Nat) := runKd { GG with fns := [f__law_digits, f__law_entries, f__law_sides, f_is_good_entry, f_checked_sides, f_frozen_r0, f_frozen_r1, f_frozen_r2, f_frozen_r3, f_frozen_r4, f_frozen_r5, f_Plan_init, f__law_spoilt, f__law_cell, f_Plan_across, f_entries_matrix, f_Plan_matrix, f__law_no, f__law_tuples] } c_Plan___len__
def f__law_told : List D → Res (D × Nat) := runKd { GG with fns := [f__law_digits, f__law_entries, f__law_sides, f_is_good_entry, f_checked_sides, f_frozen_r0, f_frozen_r1, f_frozen_r2, f_frozen_r3, f_frozen_r4, f_frozen_r5, f_Plan_init, f__law_spoilt, f__law_cell, f_Plan_across, f_entries_matrix, f_Plan_matrix, f__law_no, f__law_tuples, f_Plan___len__] } c__law_told
def f__law_fault : List D → Res (D × Nat) := runKd { GG with fns := [f__law_digits, f__law_entries, f__law_sides, f_is_good_entry, f_checked_sides, f_frozen_r0, f_frozen_r1, f_frozen_r2, f_frozen_r3, f_frozen_r4, f_frozen_r5, f_Plan_init, f__law_spoilt, f__law_cell, f_Plan_across, f_entries_matrix, f_Plan_matrix, f__law_no, f__law_tuples, f_Plan___len__, f__law_told] } c__law_fault
def f__law_side : List D → Res (D × Nat) := runKd { GG with fns := [f__law_digits, f__law_entries, f__law_sides, f_is_good_entry, f_checked_sides, f_frozen_r0, f_frozen_r1, f_frozen_r2, f_frozen_r3, f_frozen_r4, f_frozen_r5, f_Plan_init, f__law_spoilt, f__law_cell, f_Plan_across, f_entries_matrix, f_Plan_matrix, f__law_no, f__law_tuples, f_Plan___len__, f__law_told, f__law_fault] } c__law_side
def f_law : List D → Res (D × Nat) := runKd { GG with fns := [f__law_digits, f__law_entries, f__law_sides, f_is_good_entry, f_checked_sides, f_frozen_r0, f_frozen_r1, f_frozen_r2, f_frozen_r3, f_frozen_r4, f_frozen_r5, f_Plan_init, f__law_spoilt, f__law_cell, f_Plan_across, f_entries_matrix, f_Plan_matrix, f__law_no, f__law_tuples, f_Plan___len__, f__law_told, f__law_fault, f__law_side] } c_law
theorem build_eq : build GG codes [] = [f__law_digits, f__law_entries, f__law_sides, f_is_good_entry, f_checked_sides, f_frozen_r0, f_frozen_r1, f_frozen_r2, f_frozen_r3, f_frozen_r4, f_frozen_r5, f_Plan_init, f__law_spoilt, f__law_cell, f_Plan_across, f_entries_matrix, f_Plan_matrix, f__law_no, f__law_tuples, f_Plan___len__, f__law_told, f__law_fault, f__law_side] := rfl
theorem phi_eq : phi = f_law := rfl
end Lk08
namespace Lk08
open PySem PySem.Spec L2 Ev
def top (i : Nat) : Stmt := PySem.Challenge.pw_tonesalike_k08_plan_checked.main.body.getD i (.Pass ⟨0, 0, 0, 0⟩)
def inr (s : Stmt) (i : Nat) : Stmt := match s with
  | .ClassDef _ _ _ b _ _ _ _ _ _ _ => b.getD i (.Pass ⟨0, 0, 0, 0⟩)
  | _ => s
def d__law_digits : He.DefD := ⟨("_law_digits", none), "_law_digits", "_law_digits", defArgs (top 19), defBody (top 19), defScope (top 19), [], []⟩
def e__law_digits : Ev.Entry := ⟨[("cell" : Str), ("sizes" : Str)], c__law_digits, d__law_digits, fun _ _ _ _ _ _ us hl => match us, hl with | [_, _], _ => rfl⟩
def d__law_entries : He.DefD := ⟨("_law_entries", none), "_law_entries", "_law_entries", defArgs (top 20), defBody (top 20), defScope (top 20), [], []⟩
def e__law_entries : Ev.Entry := ⟨[("row" : Str), ("copies" : Str)], c__law_entries, d__law_entries, fun _ _ _ _ _ _ us hl => match us, hl with | [_, _], _ => rfl⟩
def d__law_sides : He.DefD := ⟨("_law_sides", none), "_law_sides", "_law_sides", defArgs (top 21), defBody (top 21), defScope (top 21), [], []⟩
def e__law_sides : Ev.Entry := ⟨[("cell" : Str), ("copies" : Str), ("kinds" : Str)], c__law_sides, d__law_sides, fun _ _ _ _ _ _ us hl => match us, hl with | [_, _, _], _ => rfl⟩
def d_is_good_entry : He.DefD := ⟨("is_good_entry", none), "is_good_entry", "is_good_entry", defArgs (top 12), defBody (top 12), defScope (top 12), [], []⟩
def e_is_good_entry : Ev.Entry := ⟨[("entries" : Str), ("copy" : Str)], c_is_good_entry, d_is_good_entry, fun _ _ _ _ _ _ us hl => match us, hl with | [_, _], _ => rfl⟩
def d_checked_sides : He.DefD := ⟨("checked_sides", none), "checked_sides", "checked_sides", defArgs (top 13), defBody (top 13), defScope (top 13), [], []⟩
def e_checked_sides : Ev.Entry := ⟨[("sides" : Str)], c_checked_sides, d_checked_sides, fun _ _ _ _ _ _ us hl => match us, hl with | [_], _ => rfl⟩
def d_frozen_r0 : He.DefD := ⟨("frozen", none), "frozen", "frozen", defArgs (top 9), defBody (top 9), defScope (top 9), [], []⟩
def e_frozen_r0 : Ev.Entry := ⟨[("value" : Str)], c_frozen_r0, d_frozen_r0, fun _ _ _ _ _ _ us hl => match us, hl with | [_], _ => rfl⟩
def d_frozen_r1 : He.DefD := ⟨("frozen", none), "frozen", "frozen", defArgs (top 9), defBody (top 9), defScope (top 9), [], []⟩
def e_frozen_r1 : Ev.Entry := ⟨[("value" : Str)], c_frozen_r1, d_frozen_r1, fun _ _ _ _ _ _ us hl => match us, hl with | [_], _ => rfl⟩
def d_frozen_r2 : He.DefD := ⟨("frozen", none), "frozen", "frozen", defArgs (top 9), defBody (top 9), defScope (top 9), [], []⟩
def e_frozen_r2 : Ev.Entry := ⟨[("value" : Str)], c_frozen_r2, d_frozen_r2, fun _ _ _ _ _ _ us hl => match us, hl with | [_], _ => rfl⟩
def d_frozen_r3 : He.DefD := ⟨("frozen", none), "frozen", "frozen", defArgs (top 9), defBody (top 9), defScope (top 9), [], []⟩
def e_frozen_r3 : Ev.Entry := ⟨[("value" : Str)], c_frozen_r3, d_frozen_r3, fun _ _ _ _ _ _ us hl => match us, hl with | [_], _ => rfl⟩
def d_frozen_r4 : He.DefD := ⟨("frozen", none), "frozen", "frozen", defArgs (top 9), defBody (top 9), defScope (top 9), [], []⟩
def e_frozen_r4 : Ev.Entry := ⟨[("value" : Str)], c_frozen_r4, d_frozen_r4, fun _ _ _ _ _ _ us hl => match us, hl with | [_], _ => rfl⟩
def d_frozen_r5 : He.DefD := ⟨("frozen", none), "frozen", "frozen", defArgs (top 9), defBody (top 9), defScope (top 9), [], []⟩
def e_frozen_r5 : Ev.Entry := ⟨[("value" : Str)], c_frozen_r5, d_frozen_r5, fun _ _ _ _ _ _ us hl => match us, hl with | [_], _ => rfl⟩
def d_Plan_init : He.DefD := ⟨("Plan", some "__init__"), "__init__", "Plan.__init__", defArgs (inr (top 16) 0), defBody (inr (top 16) 0), defScope (inr (top 16) 0), [], []⟩
def e_Plan_init : Ev.Entry := ⟨[("self" : Str), ("sides" : Str)], c_Plan_init, d_Plan_init, fun _ _ _ _ _ _ us hl => match us, hl with | [_, _], _ => rfl⟩
def d__law_spoilt : He.DefD := ⟨("_law_spoilt", none), "_law_spoilt", "_law_spoilt", defArgs (top 26), defBody (top 26), defScope (top 26), [], []⟩
def e__law_spoilt : Ev.Entry := ⟨[("sides" : Str), ("row" : Str)], c__law_spoilt, d__law_spoilt, fun _ _ _ _ _ _ us hl => match us, hl with | [_, _], _ => rfl⟩
def d__law_cell : He.DefD := ⟨("_law_cell", none), "_law_cell", "_law_cell", defArgs (top 18), defBody (top 18), defScope (top 18), [], []⟩
def e__law_cell : Ev.Entry := ⟨[("script" : Str), ("k" : Str)], c__law_cell, d__law_cell, fun _ _ _ _ _ _ us hl => match us, hl with | [_, _], _ => rfl⟩
def d_Plan_across : He.DefD := ⟨("Plan", some "across"), "across", "Plan.across", defArgs (inr (top 16) 6), defBody (inr (top 16) 6), defScope (inr (top 16) 6), [], []⟩
def e_Plan_across : Ev.Entry := ⟨[("self" : Str), ("copy" : Str), ("kind" : Str)], c_Plan_across, d_Plan_across, fun _ _ _ _ _ _ us hl => match us, hl with | [_, _, _], _ => rfl⟩
def d_entries_matrix : He.DefD := ⟨("entries_matrix", none), "entries_matrix", "entries_matrix", defArgs (top 15), defBody (top 15), defScope (top 15), [], []⟩
def e_entries_matrix : Ev.Entry := ⟨[("entries" : Str)], c_entries_matrix, d_entries_matrix, fun _ _ _ _ _ _ us hl => match us, hl with | [_], _ => rfl⟩
def d_Plan_matrix : He.DefD := ⟨("Plan", some "matrix"), "matrix", "Plan.matrix", defArgs (inr (top 16) 7), defBody (inr (top 16) 7), defScope (inr (top 16) 7), [], []⟩
def e_Plan_matrix : Ev.Entry := ⟨[("self" : Str), ("kind" : Str)], c_Plan_matrix, d_Plan_matrix, fun _ _ _ _ _ _ us hl => match us, hl with | [_, _], _ => rfl⟩
def d__law_no : He.DefD := ⟨("_law_no", none), "_law_no", "_law_no", defArgs (top 27), defBody (top 27), defScope (top 27), [], []⟩
def e__law_no : Ev.Entry := ⟨[("which" : Str), ("plan" : Str), ("copy" : Str), ("kind" : Str)], c__law_no, d__law_no, fun _ _ _ _ _ _ us hl => match us, hl with | [_, _, _, _], _ => rfl⟩
def d__law_tuples : He.DefD := ⟨("_law_tuples", none), "_law_tuples", "_law_tuples", defArgs (top 22), defBody (top 22), defScope (top 22), [], []⟩
def e__law_tuples : Ev.Entry := ⟨[("sides" : Str)], c__law_tuples, d__law_tuples, fun _ _ _ _ _ _ us hl => match us, hl with | [_], _ => rfl⟩
def d_Plan___len__ : He.DefD := ⟨("Plan", some "__len__"), "__len__", "Plan.__len__", defArgs (inr (top 16) 2), defBody (inr (top 16) 2), defScope (inr (top 16) 2), [], []⟩
def e_Plan___len__ : Ev.Entry := ⟨[("self" : Str)], c_Plan___len__, d_Plan___len__, fun _ _ _ _ _ _ us hl => match us, hl with | [_], _ => rfl⟩
def d__law_told : He.DefD := ⟨("_law_told", none), "_law_told", "_law_told", defArgs (top 25), defBody (top 25), defScope (top 25), [], []⟩
def e__law_told : Ev.Entry := ⟨[("sides" : Str)], c__law_told, d__law_told, fun _ _ _ _ _ _ us hl => match us, hl with | [_], _ => rfl⟩
def d__law_fault : He.DefD := ⟨("_law_fault", none), "_law_fault", "_law_fault", defArgs (top 24), defBody (top 24), defScope (top 24), [], []⟩
def e__law_fault : Ev.Entry := ⟨[("sides" : Str)], c__law_fault, d__law_fault, fun _ _ _ _ _ _ us hl => match us, hl with | [_], _ => rfl⟩
def d__law_side : He.DefD := ⟨("_law_side", none), "_law_side", "_law_side", defArgs (top 23), defBody (top 23), defScope (top 23), [], []⟩
def e__law_side : Ev.Entry := ⟨[("entries" : Str)], c__law_side, d__law_side, fun _ _ _ _ _ _ us hl => match us, hl with | [_], _ => rfl⟩
def d_law : He.DefD := ⟨("law", none), "law", "law", defArgs (top 28), defBody (top 28), defScope (top 28), [], []⟩
def e_law : Ev.Entry := ⟨[("script" : Str)], c_law, d_law, fun _ _ _ _ _ _ us hl => match us, hl with | [_], _ => rfl⟩
def d_xBadPlan : He.DefD := ⟨("BadPlan", some "__init__"), "__init__", "BadPlan.__init__", defArgs (inr (top 3) 0), defBody (inr (top 3) 0), defScope (inr (top 3) 0), [], []⟩
def e_xBadPlan : Ev.XEntry := ⟨"BadPlan", ["kind", "copy"], [("self" : Str), ("kind" : Str), ("copy" : Str)], d_xBadPlan, fun _ _ _ _ _ _ us hl => match us, hl with | [_, _, _], _ => rfl⟩
def d_xNoCopy : He.DefD := ⟨("NoCopy", some "__init__"), "__init__", "NoCopy.__init__", defArgs (inr (top 4) 0), defBody (inr (top 4) 0), defScope (inr (top 4) 0), [], []⟩
def e_xNoCopy : Ev.XEntry := ⟨"NoCopy", ["copy"], [("self" : Str), ("copy" : Str)], d_xNoCopy, fun _ _ _ _ _ _ us hl => match us, hl with | [_, _], _ => rfl⟩
def d_xNoKind : He.DefD := ⟨("NoKind", some "__init__"), "__init__", "NoKind.__init__", defArgs (inr (top 5) 0), defBody (inr (top 5) 0), defScope (inr (top 5) 0), [], []⟩
def e_xNoKind : Ev.XEntry := ⟨"NoKind", ["kind"], [("self" : Str), ("kind" : Str)], d_xNoKind, fun _ _ _ _ _ _ us hl => match us, hl with | [_, _], _ => rfl⟩
def TT : LawT := { G := GG, tb := { xmk := [("BadPlan", ["kind", "copy"]), ("NoCopy", ["copy"]), ("NoKind", ["kind"])], own := ["BadPlan", "BadRoute", "BenchError", "NoCopy", "NoKind", "Plan"], ops := [] }, gls := ["_law_digits", "_law_entries", "_law_sides", "is_good_entry", "checked_sides", "frozen", "_law_spoilt", "_law_cell", "entries_matrix", "_law_no", "_law_tuples", "_law_told", "_law_fault", "_law_side", "law"], atX := atXs, atA := atAs, mks := ["Plan"], mts := [("Plan", "across"), ("Plan", "matrix"), ("Plan", "__len__")], kdds := [d__law_digits, d__law_entries, d__law_sides, d_is_good_entry, d_checked_sides, d_frozen_r0, d_frozen_r1, d_frozen_r2, d_frozen_r3, d_frozen_r4, d_frozen_r5, d_Plan_init, d__law_spoilt, d__law_cell, d_Plan_across, d_entries_matrix, d_Plan_matrix, d__law_no, d__law_tuples, d_Plan___len__, d__law_told, d__law_fault, d__law_side] }
def es : List Ev.Entry := [e__law_digits, e__law_entries, e__law_sides, e_is_good_entry, e_checked_sides, e_frozen_r0, e_frozen_r1, e_frozen_r2, e_frozen_r3, e_frozen_r4, e_frozen_r5, e_Plan_init, e__law_spoilt, e__law_cell, e_Plan_across, e_entries_matrix, e_Plan_matrix, e__law_no, e__law_tuples, e_Plan___len__, e__law_told, e__law_fault, e__law_side]
def xs : List Ev.XEntry := [e_xBadPlan, e_xNoCopy, e_xNoKind]
def fn : List He.DefD := es.map (·.dd) ++ (xs.map (·.dd) ++ [d_law])
theorem chk_all : chkAll TT [] es = true := by decide +kernel
theorem chk_law : chkEntry TT (es.map (·.d.kd)) e_law = true := by decide +kernel
theorem chk_tab : tabB TT xs = true := by decide +kernel
abbrev Rw : PySem.W.OpenRow := PySem.W.OpenLaw.row PySem.Challenge.rw_tonesalike_k08_plan_checked
abbrev hk : PySem.W.Hook := hookV TT 6 fn
def ob (s : PySem.W.SharedT) : AlV := obsV TT 6 fn (HandSHeadRun.getT s)
theorem ob_eq (s : PySem.W.SharedT) : ob s = hk.obs s.abs := obsV_eq (HandSHeadRun.getT_eq s)
theorem run (w : World) : HandSHeadRun.RunEq Rw (PySem.W.view Rw.prog [28]) hk ob 4000 [("_wall" : PySem.Str), ("BenchError" : PySem.Str), ("BadPlan" : PySem.Str), ("NoCopy" : PySem.Str), ("NoKind" : PySem.Str), ("KindsDiffer" : PySem.Str), ("BadRoute" : PySem.Str), ("frozen" : PySem.Str), ("same_kinds" : PySem.Str), ("is_good_entry" : PySem.Str), ("checked_sides" : PySem.Str), ("paired_entries" : PySem.Str), ("entries_matrix" : PySem.Str), ("Plan" : PySem.Str), ("_law_cell" : PySem.Str), ("_law_digits" : PySem.Str), ("_law_entries" : PySem.Str), ("_law_sides" : PySem.Str), ("_law_tuples" : PySem.Str), ("_law_side" : PySem.Str), ("_law_fault" : PySem.Str), ("_law_told" : PySem.Str), ("_law_spoilt" : PySem.Str), ("_law_no" : PySem.Str)] w := by
  intro os
  kernel_rfl
theorem facts (hpar : Par) {P : Program} {w : World} {K : PySem.W.Frag} {h : Heap} {mg : Str → Option Value} {f : Addr} (X : K.In h) (G : h.Ns mainGlobals mg) (hf : mg ("law" : Str) = some (.ref f)) (c : He.SaysD [] fn K) (he : TT.ex K = true) :
    ∃ fd : FuncData, (∀ (s : Shared) (v : Value), BindsTo s fd ⟨[v], []⟩ [("script", v)]) ∧ ∀ base : Heap, K.In base → base.Ns mainGlobals mg → FnOk P w K mg base cxW (2 + 2 * es.length + 1) f fd [("script" : Str)] (spF K phi) := by
  obtain ⟨fd, a, b⟩ := law_ok (P := P) (w := w) X G hf (xs := xs) (es := es) (la := e_law) c he chk_tab (fun e h => List.mem_append_right _ (List.mem_append_left _ (List.mem_map_of_mem h))) (fun e h => List.mem_append_left _ (List.mem_map_of_mem h)) (List.mem_append_right _ (List.mem_append_right _ List.mem_cons_self)) (fun x f h => by simpa [TT, GG] using h) (fun x f h => by simpa [TT, GG] using h) (fun e h => hpar e.d (by rw [show codes = es.map (·.d) from rfl]; exact List.mem_map_of_mem h)) (fun e h => by rw [show TT.kdds = es.map (·.dd) from rfl]; exact List.mem_map_of_mem h) chk_all chk_law rfl rfl
  exact ⟨fd, a, fun base h1 h2 => fn_exw (b base h1 h2)⟩
end Lk08
open PySem PySem.W PySem.Calls PyProof.Rows in
theorem PySem.Challenge.rw_tonesalike_k08_plan_checked_of (hpar : Lk08.Par) (pure_ok : ∀ ns : List Int, ns.length ≤ 63 → Lk08.phi [.ro (ns.map .int)] = .ok (.bl true, 0)) : PySem.Challenge.rw_tonesalike_k08_plan_checked.Holds := by
  w_on; o_law
  refine HandSHeadRun.head_any (r := OpenLaw.row PySem.Challenge.rw_tonesalike_k08_plan_checked) (q := view (OpenLaw.row PySem.Challenge.rw_tonesalike_k08_plan_checked).prog [28]) (H := Lk08.hk) (ob := Lk08.ob) (M := 4000) (loose := [("_wall" : PySem.Str), ("BenchError" : PySem.Str), ("BadPlan" : PySem.Str), ("NoCopy" : PySem.Str), ("NoKind" : PySem.Str), ("KindsDiffer" : PySem.Str), ("BadRoute" : PySem.Str), ("frozen" : PySem.Str), ("same_kinds" : PySem.Str), ("is_good_entry" : PySem.Str), ("checked_sides" : PySem.Str), ("paired_entries" : PySem.Str), ("entries_matrix" : PySem.Str), ("Plan" : PySem.Str), ("_law_cell" : PySem.Str), ("_law_digits" : PySem.Str), ("_law_entries" : PySem.Str), ("_law_sides" : PySem.Str), ("_law_tuples" : PySem.Str), ("_law_side" : PySem.Str), ("_law_fault" : PySem.Str), ("_law_told" : PySem.Str), ("_law_spoilt" : PySem.Str), ("_law_no" : PySem.Str)]) (d := HandSHeadRun.topDef (OpenLaw.row PySem.Challenge.rw_tonesalike_k08_plan_checked).prog 28) (kwd := []) Lk08.ob_eq
    (by kernel_rfl) (fun s => by kernel_rfl) Lk08.run (by kernel_rfl) (by kernel_rfl) (by kernel_rfl) (by rfl) (by first | assumption | decide +kernel) (by decide +kernel) ⟨rfl, rfl, rfl, rfl, rfl, by decide +kernel⟩ ?hw ?hc
  case hw => w_witness2
  case hc =>
    refine L2.walk_ofE (l := PySem.Challenge.rw_tonesalike_k08_plan_checked) (n := 63) (k := 2 + 2 * Lk08.es.length + 1) (x := "script") (CX := Ev.cxW) rfl (by decide) (by kernel_rfl) ⟨rfl, by decide, by decide⟩ ?F Ev.cxW_end
    intro w mg fa h Y G hmg0
    obtain ⟨K, KX, c, he⟩ := Y
    have hmg : mg ("law" : PySem.Str) = some (.ref fa) := by
      have e : (HandSHeadRun.topDef (OpenLaw.row PySem.Challenge.rw_tonesalike_k08_plan_checked).prog 28).name = ("law" : PySem.Str) := by kernel_rfl
      rw [← e]
      exact hmg0
    obtain ⟨fd, hb, hF⟩ := Lk08.facts hpar (P := (PySem.Challenge.rw_tonesalike_k08_plan_checked).prog) (w := w) KX G hmg c he
    exact ⟨K, fd, _, KX, hb, fun H a ns hl _ hS => Ev.sp_end (Nat.le_trans hl (by decide)) hS (pure_ok ns hl), hF⟩
/-! Pl: the pure run, row by row, without a binder on the right. -/
namespace Ev
open PySem PySem.Spec L2
def getV (Γ : Env) (i : Nat) : Res (D × Nat) := match Γ[i]? with
  | some (some c) => .ok c
  | _ => .fail
def getE (Γ : Env) (i : Nat) : Res (D × Nat) := match Γ[i]? with
  | some (some (d, 0)) => .ok (d, 0)
  | _ => .fail
/-! ways to go on -/
def bind2 {α β γ : Type} (F : α → β → Res γ) (a : Res α) (b : Res β) : Res γ := a.bind fun x => b.bind (F x)
def consR {α : Type} (a : Res α) (r : Res (List α)) : Res (List α) := a.bind fun x => r.bind fun l => .ok (x :: l)
def tupF (ds : List (D × Nat)) : Res (D × Nat) := .ok (.tup (ds.map (·.1)), 0)
def lstF (m : Nat) (ds : List (D × Nat)) : Res (D × Nat) := if m = 0 ∨ ds.all (fun c => c.2 == m) then .ok (.lst (ds.map (·.1)), m + 1) else .fail
def frz0 (c : D × Nat) : Res (D × Nat) := if c.2 = 0 then .ok c else .fail
def idxF (x y : D × Nat) : Res (D × Nat) := idxD x y.1
def slc3 (x : Res (D × Nat)) (l h : Res (List (D × Nat))) : Res (D × Nat) := x.bind fun x => l.bind fun l => (partOf l).bind fun l => h.bind fun h => (partOf h).bind fun h => slcD x l h
def tstF (b : Bool) : Res (D × Nat) := .ok (.bl b, 0)
def negF (x : D × Nat) : Res (D × Nat) := negD x.1
def callF (G : Glb) (i : Nat) (ds : List (D × Nat)) : Res (D × Nat) := match G.fns[i]? with
  | some φ => φ (ds.map (·.1))
  | none => .fail
def kcallF (G : Glb) (i : Nat) (ds zs : List (D × Nat)) : Res (D × Nat) := match G.fns[i]? with
  | some φ => φ (ds.map (·.1) ++ zs.map (·.1))
  | none => .fail
def ifxG (c : Res Bool) (G : Glb) (a b : EC) (Γ : Env) : Res (D × Nat) := c.bind fun c => if c then ev G a Γ else ev G b Γ
def andG (c : Res Bool) (G : Glb) (b : TC) (Γ : Env) : Res Bool := c.bind fun c => if c then ts G b Γ else .ok false
def orG (c : Res Bool) (G : Glb) (b : TC) (Γ : Env) : Res Bool := c.bind fun c => if c then .ok true else ts G b Γ
def chn2 (p : Cop) (y : D × Nat) (k : Bool) (z : Res (D × Nat)) : Res Bool := if k then z.bind fun z => cmpD p y z else .ok false
def chnG (o p : Cop) (G : Glb) (Γ : Env) (c : BC) (x y : D × Nat) : Res Bool := (cmpD o x y).bind fun k => chn2 p y k (vw G c Γ)
def notF (c : Bool) : Res Bool := .ok (!c)
def truD : D × Nat → Res Bool
  | (.bl b, _) => .ok b
  | _ => .fail
def isiF (G : Glb) (t : List String) (c : D × Nat) : Res Bool := if knows G.cls c.1 then .ok (t.any fun t => isT G.sb c.1 t) else .fail
def isxC (G : Glb) (t : List String) : D × Nat → Res Bool
  | (.exn c ns ds, _) => if G.xcs.contains c then .ok (t.any fun t => isT G.sb (.exn c ns ds) t) else .fail
  | _ => .fail
def attC (G : Glb) (f : String) : D × Nat → Res (D × Nat)
  | (.ins c ns ds, _) => if G.okA c f then (optR (fldD f ns ds)).bind fun d => .ok (d, 0) else .fail
  | (.slf c _ ns ds, _) => if G.okA c f then (optR (fldD f ns ds)).bind fun d => .ok (d, 0) else .fail
  | _ => .fail
def exfC (G : Glb) (f : String) : D × Nat → Res (D × Nat)
  | (.exn c ns ds, 0) => if G.okX c f then (optR (fldD f ns ds)).bind fun d => .ok (d, 0) else .fail
  | _ => .fail
/-- a method's call -/
def mthC (G : Glb) (c m : String) (i : Nat) (x : D) (ds : List (D × Nat)) : Res (D × Nat) := match G.fns[i]? with
  | some φ => if plainM m then φ (x :: ds.map (·.1)) else dunM c m (ds.map (·.1)) (φ (x :: ds.map (·.1)))
  | none => .fail
def mthF (G : Glb) (c m : String) (i : Nat) (r : Res (List (D × Nat))) (x : D × Nat) : Res (D × Nat) := if insOk c m x.1 then r.bind (mthC G c m i x.1) else .fail
def madeF (c : D × Nat) : Res (List D) := seqItems true (c.1, 0)
def rngF (ds : List (D × Nat)) : Res (List D) := rngItems (ds.map (·.1))
def zipF2 (l m : List D) : Res (List D) := .ok (zipItems l m)
def enmF (l : List D) : Res (List D) := .ok (enmItems l)
def revF (l : List D) : Res (List D) := .ok l.reverse
def compG (G : Glb) (t : TG) (ifs : List TC) (m : Nat) (e : EC) (Γ : Env) (l : List D) : Res (List D) := compAll (fun d Γ1 => asgT t (d, 0) Γ1) (fun Γ1 => tss G ifs Γ1) (fun Γ1 => one1 m (ev G e Γ1)) Γ l
def compS (G : Glb) (t : TG) (ifs : List TC) (m : Nat) (e : EC) (Γ : Env) (l : List D) : Res (D × Nat) := capL m (compG G t ifs m e Γ l)
def comp2G (G : Glb) (t : TG) (ifs : List TC) (t2 : TG) (s2 : SRC) (ifs2 : List TC) (m : Nat) (e : EC) (Γ : Env) (l : List D) : Res (List D) := compAll (fun d Γ1 => asgT t (d, 0) Γ1) (fun Γ1 => tss G ifs Γ1)
      (fun Γ1 => (nxR (src G true s2 Γ1)).bind fun items2 => compAll (fun d Γ2 => asgT t2 (d, 0) Γ2) (fun Γ2 => tss G ifs2 Γ2) (fun Γ2 => one1 m (ev G e Γ2)) (wipeG Γ1 t2.slots) items2) Γ l
def comp2S (G : Glb) (t : TG) (ifs : List TC) (t2 : TG) (s2 : SRC) (ifs2 : List TC) (m : Nat) (e : EC) (Γ : Env) (l : List D) : Res (D × Nat) := capL m (comp2G G t ifs t2 s2 ifs2 m e Γ l)
def thenG (o : Out) (G : Glb) (b : SC) : Out := o.bind fun Γ1 => ex G b Γ1
def iteG (r : Res Bool) (G : Glb) (a b : SC) (Γ : Env) : Out := r.out Γ fun c => if c then ex G a Γ else ex G b Γ
def forG (G : Glb) (t : TG) (b : SC) (Γ : Env) (l : List D) : Out := forRun (fun d Γ1 => asgT t (d, 0) Γ1) (fun Γ1 => ex G b Γ1) l Γ
def whlG (G : Glb) (t : TC) (b : SC) (n : Nat) (Γ : Env) : Out := whlRun (fun Γ1 => ts G t Γ1) (fun Γ1 => ex G b Γ1) n Γ
def hdlE (i : Nat) : Out → Out
  | .nx Γ2 => .nx (Γ2.set i none)
  | .ret d n => .ret d n
  | _ => .fail
def tryG (G : Glb) (c : String) (i : Nat) (h : SC) (o : Out) : Out := catch1 G c i (fun Γ1 => ex G h Γ1) o
def retO (c : D × Nat) : Out := .ret c.1 c.2
def asgO (t : TG) (fz : Bool) (Γ : Env) (c : D × Nat) : Out := (asgT t (if fz then (c.1, 0) else c) Γ).out Γ .nx
def skpO (Γ : Env) (_ : D × Nat) : Out := .nx Γ
def rseO (c : String) (fs : List String) (Γ : Env) (ds : List (D × Nat)) : Out := .exc c fs.reverse (ds.map (·.1)).reverse Γ
def retV (r : Res (D × Nat)) : Out := match r with
  | .ok c => .ret c.1 c.2
  | _ => .fail
def frzG (Γ : Env) (i : Nat) : Env := match Γ[i]? with
  | some (some (d, _)) => Γ.set i (some (d, 0))
  | _ => Γ
def app1 (l : List D) (n : Nat) (Γ : Env) (i : Nat) (y : D × Nat) : Out := if l.length < cap ∧ (n = 0 ∨ y.2 = n) then .nx (Γ.set i (some (.lst (l ++ [y.1]), n + 1))) else .fail
def appC (r : Res (D × Nat)) (Γ : Env) (i : Nat) (c : D × Nat) : Out := match c with
  | (.lst l, n + 1) => r.out Γ (app1 l n Γ i)
  | _ => .fail
def stiC (Γ : Env) (i : Nat) (c k y : D × Nat) : Out := if c.2 = 1 then optO (put1 c.1 k.1 y.1) fun d => .nx (Γ.set i (some (d, 1))) else optO (putN c k.1 y) fun d => .nx (Γ.set i (some (d, c.2)))
def out3 (F : D × Nat → D × Nat → D × Nat → Out) (Γ : Env) (a b c : Res (D × Nat)) : Out := a.out Γ fun x => c.out Γ fun z => b.out Γ fun y => F x y z
def augD (x : Int) (o : Bop) (Γ : Env) (i : Nat) (y : D × Nat) : Out := match y.1 with
  | .int j => (binI o x j).out Γ fun c => .nx (Γ.set i (some c))
  | _ => .fail
def augC (o : Bop) (r : Res (D × Nat)) (Γ : Env) (i : Nat) (c : D × Nat) : Out := match c with
  | (.int x, 0) => r.out Γ (augD x o Γ i)
  | _ => .fail
def popE (dst : Option Nat) (Γ : Env) (i : Nat) (r : (D × Nat) × D) : Out := match dst with
  | some j => .nx ((Γ.set i (some r.1)).set j (some (r.2, 0)))
  | none => .nx (Γ.set i (some r.1))
def popD (dst : Option Nat) (Γ : Env) (i : Nat) (c : D × Nat) (ks : List (D × Nat)) : Out := optO (popC c (ks.map (·.1))) (popE dst Γ i)
def popO (dst : Option Nat) (r : Res (List (D × Nat))) (Γ : Env) (i : Nat) (c : D × Nat) : Out := match c with
  | (.lst l, 1) => r.out Γ (popD dst Γ i (.lst l, 1))
  | _ => .fail
def popAE (l : List D) (o i : Nat) (Γ : Env) (r : (D × Nat) × D) : Out := if l.length < cap ∧ o ≠ i then .nx ((Γ.set i (some r.1)).set o (some (.lst (l ++ [r.2]), 1))) else .fail
def popAD (l m : List D) (o i : Nat) (Γ : Env) (ks : List (D × Nat)) : Out := optO (popC (.lst m, 1) (ks.map (·.1))) (popAE l o i Γ)
def popAC (ks : Res (List (D × Nat))) (o i : Nat) (Γ : Env) (a b : D × Nat) : Out := match a, b with
  | (.lst l, 1), (.lst m, 1) => ks.out Γ (popAD l m o i Γ)
  | _, _ => .fail
def popAO (ks : Res (List (D × Nat))) (o i : Nat) (Γ : Env) (a b : Res (D × Nat)) : Out := a.out Γ fun x => b.out Γ (popAC ks o i Γ x)
def insE (l : List D) (i : Nat) (Γ : Env) (k y : D × Nat) : Out := match k.1 with
  | .int j => if l.length < cap ∧ 0 ≤ j ∧ j < 2 ^ 63 then .nx (Γ.set i (some (.lst (l.take j.toNat ++ [y.1] ++ l.drop j.toNat), 1))) else .fail
  | _ => .fail
def insC (k e : Res (D × Nat)) (i : Nat) (Γ : Env) (c : D × Nat) : Out := match c with
  | (.lst l, 1) => k.out Γ fun x => e.out Γ (insE l i Γ x)
  | _ => .fail
def lendE (o : Option Env) (G : Glb) (e : EC) : Res (D × Nat) := match o with
  | some Γ1 => lendR (ev G e Γ1)
  | none => .fail
def lendT (o : Option Env) (G : Glb) (t : TC) : Res Bool := match o with
  | some Γ1 => lendB (ts G t Γ1)
  | none => .fail
def consE (x : Cell) (o : Option Env) : Option Env := o.map (x :: ·)
def dgetX (y : Res (D × Nat)) (d : Res (List (D × Nat))) (x : D × Nat) : Res (D × Nat) := if isDic x.1 then bind2 (dgetF x) y d else .fail
section
variable {α β γ : Type}
@[simp] theorem rb_ok {a : α} {f : α → Res β} : (Res.ok a).bind f = f a := rfl
@[simp] theorem rb_exc {c ns ds} {f : α → Res β} : (Res.exc c ns ds : Res α).bind f = .exc c ns ds := rfl
@[simp] theorem ro_ok {a : α} {Γ} {f : α → Out} : (Res.ok a).out Γ f = f a := rfl
@[simp] theorem ro_exc {c ns ds Γ} {f : α → Out} : (Res.exc c ns ds : Res α).out Γ f = .exc c ns ds Γ := rfl
@[simp] theorem bind2_ok {F : α → β → Res γ} {x y} : bind2 F (.ok x) (.ok y) = F x y := rfl
@[simp] theorem bind2_e1 {F : α → β → Res γ} {c ns ds y} : bind2 F (.exc c ns ds) y = .exc c ns ds := rfl
@[simp] theorem bind2_e2 {F : α → β → Res γ} {x c ns ds} : bind2 F (.ok x) (.exc c ns ds) = .exc c ns ds := rfl
@[simp] theorem consR_ok {x : α} {l : List α} : consR (.ok x) (.ok l) = .ok (x :: l) := rfl
@[simp] theorem consR_e1 {c ns ds} {l : Res (List α)} : consR (.exc c ns ds) l = .exc c ns ds := rfl
@[simp] theorem consR_e2 {x : α} {c ns ds} : consR (.ok x) (.exc c ns ds) = .exc c ns ds := rfl
@[simp] theorem tupF_ok {ds : List (D × Nat)} : tupF ds = .ok (.tup (ds.map (·.1)), 0) := rfl
@[simp] theorem lstF_0 {ds : List (D × Nat)} : lstF 0 ds = .ok (.lst (ds.map (·.1)), 1) := if_pos (.inl rfl)
@[simp] theorem frz0_ok {d : D} : frz0 (d, 0) = .ok (d, 0) := rfl
@[simp] theorem idxF_ok {x : D × Nat} {d : D} {n : Nat} : idxF x (d, n) = idxD x d := rfl
@[simp] theorem slc3_ok {x : D × Nat} {l h : List (D × Nat)} : slc3 (.ok x) (.ok l) (.ok h) = (partOf l).bind fun l => (partOf h).bind fun h => slcD x l h := rfl
@[simp] theorem tstF_ok {b : Bool} : tstF b = .ok (.bl b, 0) := rfl
@[simp] theorem negF_ok {x : D} {n : Nat} : negF (x, n) = negD x := rfl
@[simp] theorem notF_ok {b : Bool} : notF b = .ok (!b) := rfl
@[simp] theorem truD_bl {b : Bool} {n : Nat} : truD (.bl b, n) = .ok b := rfl
@[simp] theorem isiF_ok {G : Glb} {t : List String} {d : D} {n : Nat} : isiF G t (d, n) = if knows G.cls d then .ok (t.any fun t => isT G.sb d t) else .fail := rfl
@[simp] theorem isxC_ok {G : Glb} {t : List String} {c ns ds n} : isxC G t (.exn c ns ds, n) = if G.xcs.contains c then .ok (t.any fun t => G.sb c t) else .fail := rfl
@[simp] theorem attC_slf {G : Glb} {f : String} {c a ns ds} {n : Nat} : attC G f (.slf c a ns ds, n) = if G.okA c f then (optR (fldD f ns ds)).bind fun d => .ok (d, 0) else .fail := rfl
@[simp] theorem attC_ins {G : Glb} {f : String} {c ns ds} {n : Nat} : attC G f (.ins c ns ds, n) = if G.okA c f then (optR (fldD f ns ds)).bind fun d => .ok (d, 0) else .fail := rfl
@[simp] theorem exfC_ok {G : Glb} {f : String} {c ns ds} : exfC G f (.exn c ns ds, 0) = if G.okX c f then (optR (fldD f ns ds)).bind fun d => .ok (d, 0) else .fail := rfl
@[simp] theorem fldD_cons {f n : String} {ns : List String} {d : D} {ds : List D} : fldD f (n :: ns) (d :: ds) = if n = f then some d else fldD f ns ds := by rw [fldD]
@[simp] theorem madeF_ok {d : D} {n : Nat} : madeF (d, n) = seqItems true (d, 0) := rfl
@[simp] theorem rngF_ok {ds : List (D × Nat)} : rngF ds = rngItems (ds.map (·.1)) := rfl
@[simp] theorem zipF2_ok {l m : List D} : zipF2 l m = .ok (zipItems l m) := rfl
@[simp] theorem enmF_ok {l : List D} : enmF l = .ok (enmItems l) := rfl
@[simp] theorem revF_ok {l : List D} : revF l = .ok l.reverse := rfl
@[simp] theorem retO_ok {d : D} {n : Nat} : retO (d, n) = .ret d n := rfl
@[simp] theorem asgO_t {t : TG} {Γ : Env} {d : D} {n : Nat} : asgO t true Γ (d, n) = (asgT t (d, 0) Γ).out Γ .nx := rfl
@[simp] theorem asgO_f {t : TG} {Γ : Env} {c : D × Nat} : asgO t false Γ c = (asgT t c Γ).out Γ .nx := rfl
@[simp] theorem skpO_ok {Γ : Env} {c : D × Nat} : skpO Γ c = .nx Γ := rfl
@[simp] theorem rseO_ok {c : String} {fs : List String} {Γ : Env} {ds : List (D × Nat)} : rseO c fs Γ ds = .exc c fs.reverse (ds.map (·.1)).reverse Γ := rfl
@[simp] theorem retV_ok {c : D × Nat} : retV (.ok c) = .ret c.1 c.2 := rfl
@[simp] theorem chn2_t {p : Cop} {y z : D × Nat} : chn2 p y true (.ok z) = cmpD p y z := rfl
@[simp] theorem chn2_f {p : Cop} {y : D × Nat} {z : Res (D × Nat)} : chn2 p y false z = .ok false := rfl
@[simp] theorem optR_some {a : α} : optR (some a) = .ok a := rfl
@[simp] theorem optR_none : optR (none : Option α) = .fail := rfl
end
section
variable {G : Glb} {Γ : Env}
@[simp] theorem ifx_t {a b : EC} : ifxG (.ok true) G a b Γ = ev G a Γ := rfl
@[simp] theorem ifx_f {a b : EC} : ifxG (.ok false) G a b Γ = ev G b Γ := rfl
def ifR {α : Type} (c : Bool) (x y : Res α) : Res α := if c then x else y
@[simp low] theorem ifx_any {c : Bool} {a b : EC} : ifxG (.ok c) G a b Γ = ifR c (ev G a Γ) (ev G b Γ) := by cases c <;> rfl
@[simp] theorem ifR_int {c : Bool} {i j : Int} {n : Nat} : ifR c (.ok (D.int i, n)) (.ok (D.int j, n)) = .ok (.int (if c then i else j), n) := by cases c <;> rfl
@[simp] theorem and_t {b : TC} : andG (.ok true) G b Γ = ts G b Γ := rfl
@[simp] theorem and_f {b : TC} : andG (.ok false) G b Γ = .ok false := rfl
@[simp] theorem or_t {b : TC} : orG (.ok true) G b Γ = .ok true := rfl
@[simp] theorem or_f {b : TC} : orG (.ok false) G b Γ = ts G b Γ := rfl
@[simp] theorem then_nx {b : SC} : thenG (.nx Γ) G b = ex G b Γ := rfl
@[simp] theorem then_ret {d : D} {n : Nat} {b : SC} : thenG (.ret d n) G b = .ret d n := rfl
@[simp] theorem then_exc {c ns ds} {b : SC} : thenG (.exc c ns ds Γ) G b = .exc c ns ds Γ := rfl
@[simp] theorem then_fail {b : SC} : thenG .fail G b = .fail := rfl
@[simp] theorem then_brk {b : SC} : thenG (.brk Γ) G b = .brk Γ := rfl
@[simp] theorem then_cnt {b : SC} : thenG (.cnt Γ) G b = .cnt Γ := rfl
@[simp] theorem ite_t {a b : SC} : iteG (.ok true) G a b Γ = ex G a Γ := rfl
@[simp] theorem ite_f {a b : SC} : iteG (.ok false) G a b Γ = ex G b Γ := rfl
@[simp] theorem ite_exc {c ns ds} {a b : SC} : iteG (.exc c ns ds) G a b Γ = .exc c ns ds Γ := rfl
@[simp] theorem forG_nil {t : TG} {b : SC} : forG G t b Γ [] = .nx Γ := rfl
@[simp] theorem compG_nil {t : TG} {ifs : List TC} {m : Nat} {e : EC} : compG G t ifs m e Γ [] = .ok [] := rfl
@[simp] theorem compS_eq {t : TG} {ifs : List TC} {m : Nat} {e : EC} {l : List D} : compS G t ifs m e Γ l = capL m (compG G t ifs m e Γ l) := rfl
@[simp] theorem comp2S_eq {t t2 : TG} {s2 : SRC} {ifs ifs2 : List TC} {m : Nat} {e : EC} {l : List D} : comp2S G t ifs t2 s2 ifs2 m e Γ l = capL m (comp2G G t ifs t2 s2 ifs2 m e Γ l) := rfl
@[simp] theorem tryG_nx {c : String} {i : Nat} {k : SC} : tryG G c i k (.nx Γ) = .nx Γ := rfl
@[simp] theorem tryG_ret {c : String} {i : Nat} {k : SC} {d : D} {n : Nat} : tryG G c i k (.ret d n) = .ret d n := rfl
@[simp] theorem hdlE_nx {i : Nat} : hdlE i (.nx Γ) = .nx (Γ.set i none) := rfl
@[simp] theorem hdlE_ret {i : Nat} {d : D} {n : Nat} : hdlE i (.ret d n) = .ret d n := rfl
theorem tryG_in {c c' : String} {i : Nat} {k : SC} {ns ds} (h1 : (G.xcs.contains c' && G.xcs.contains c && decide (i < Γ.length)) = true) (h2 : G.sb c' c = true) : tryG G c i k (.exc c' ns ds Γ) = hdlE i (ex G k (Γ.set i (some (.exn c' ns ds, 0)))) := by
  show (if (G.xcs.contains c' && G.xcs.contains c && decide (i < Γ.length)) = false then Out.fail else if G.sb c' c then hdlE i (ex G k (Γ.set i (some (.exn c' ns ds, 0)))) else .exc c' ns ds Γ) = _
  rw [h1, h2]; rfl
@[simp] theorem dT {p : Prop} [Decidable p] (h : p) : decide p = true := decide_eq_true h
@[simp] theorem dF {p : Prop} [Decidable p] (h : ¬p) : decide p = false := decide_eq_false h
@[simp] theorem appC_l {l : List D} {y : D × Nat} {i : Nat} (h : (l.length : Int) < 16777216) : appC (.ok y) Γ i (.lst l, 1) = .nx (Γ.set i (some (.lst (l ++ [y.1]), 1))) := by
  show (if l.length < cap ∧ (0 = 0 ∨ y.2 = 0) then _ else _) = _
  rw [if_pos ⟨by unfold cap; omega, .inl rfl⟩]
@[simp] theorem out3_ok {F : D × Nat → D × Nat → D × Nat → Out} {a b c : D × Nat} : out3 F Γ (.ok a) (.ok b) (.ok c) = F a b c := rfl
@[simp] theorem stiC_ok {i : Nat} {c k y : D} {n m : Nat} : stiC Γ i (c, 1) (k, n) (y, m) = optO (put1 c k y) fun d => .nx (Γ.set i (some (d, 1))) := rfl
@[simp] theorem augC_ok {i n : Nat} {x j : Int} {o : Bop} : augC o (.ok (.int j, n)) Γ i (.int x, 0) = (binI o x j).out Γ fun c => .nx (Γ.set i (some c)) := rfl
@[simp] theorem binI_add {i j : Int} : binI .add i j = .ok (.int (i + j), 0) := rfl
@[simp] theorem binI_sub {i j : Int} : binI .sub i j = .ok (.int (i - j), 0) := rfl
@[simp] theorem popO_ok {dst : Option Nat} {ks : List (D × Nat)} {i : Nat} {l : List D} : popO dst (.ok ks) Γ i (.lst l, 1) = optO (popC (.lst l, 1) (ks.map (·.1))) (popE dst Γ i) := rfl
@[simp] theorem popAO_ok {o i : Nat} {ks : List (D × Nat)} {l m : List D} : popAO (.ok ks) o i Γ (.ok (.lst l, 1)) (.ok (.lst m, 1)) = optO (popC (.lst m, 1) (ks.map (·.1))) (popAE l o i Γ) := rfl
@[simp] theorem popAE_ok {o i : Nat} {l : List D} {r : (D × Nat) × D} (h : (l.length : Int) < 16777216) (ho : o ≠ i) : popAE l o i Γ r = .nx ((Γ.set i (some r.1)).set o (some (.lst (l ++ [r.2]), 1))) := if_pos ⟨by unfold cap; omega, ho⟩
@[simp] theorem insC_ok {i : Nat} {l : List D} {j : Int} {n : Nat} {y : D × Nat} (h : (l.length : Int) < 16777216) (h0 : 0 ≤ j) (h1 : j < 16777217) : insC (.ok (.int j, n)) (.ok y) i Γ (.lst l, 1) = .nx (Γ.set i (some (.lst (l.take j.toNat ++ [y.1] ++ l.drop j.toNat), 1))) := if_pos ⟨by unfold cap; omega, h0, by omega⟩
@[simp] theorem lendE_s {Γ1 : Env} {e : EC} : lendE (some Γ1) G e = lendR (ev G e Γ1) := rfl
@[simp] theorem lendT_s {Γ1 : Env} {e : TC} : lendT (some Γ1) G e = lendB (ts G e Γ1) := rfl
@[simp] theorem lendB_ok {b : Bool} : lendB (.ok b) = .ok b := rfl
@[simp] theorem lendR_ok {d : D} {n : Nat} (h : noLn n d = true) : lendR (.ok (d, n)) = .ok (d, n) := if_pos h
@[simp] theorem lendR_exc {c ns ds} (h : ds.all noL = true) : lendR (.exc c ns ds) = .exc c ns ds := if_pos h
@[simp] theorem lendB_exc {c ns ds} (h : ds.all noL = true) : lendB (.exc c ns ds) = .exc c ns ds := if_pos h
@[simp] theorem lent_0 {d : D} {n : Nat} (h : lstN n d = true) : lentG (some (d, n) :: Γ) 0 = some (some (d, 0) :: Γ) := if_pos h
@[simp] theorem consE_s {x : Cell} : consE x (some Γ) = some (x :: Γ) := rfl
@[simp] theorem lent_s {x : Cell} {i : Nat} : lentG (x :: Γ) (i + 1) = consE x (lentG Γ i) := by
  unfold lentG consE
  rw [List.getElem?_cons_succ]
  cases Γ[i]? with
  | none => rfl
  | some o => cases o with
    | none => rfl
    | some c =>
      obtain ⟨d, n⟩ := c
      dsimp only
      split <;> rfl
@[simp] theorem lstN_0 {d : D} : lstN 0 d = true := by cases d <;> rfl
@[simp] theorem lstN_l {l : List D} {n : Nat} : lstN (n + 1) (.lst l) = l.all (lstN n) := by simp only [lstN]
@[simp] theorem noLn_l {l : List D} {n : Nat} : noLn (n + 1) (.lst l) = l.all (noLn n) := by simp only [noLn]
@[simp] theorem noLn_0 {d : D} : noLn 0 d = noL d := by simp only [noLn]
@[simp] theorem noL_int {i : Int} : noL (.int i) = true := by simp only [noL]
@[simp] theorem noL_bl {i : Bool} : noL (.bl i) = true := by simp only [noL]
@[simp] theorem noL_str {i : Str} : noL (.str i) = true := by simp only [noL]
@[simp] theorem noL_non : noL .non = true := by simp only [noL]
@[simp] theorem noL_tup {l : List D} : noL (.tup l) = noLs l := by simp only [noL]
@[simp] theorem noL_ins {c ns} {l : List D} : noL (.ins c ns l) = noLs l := by simp only [noL]
@[simp] theorem noLs_nil : noLs [] = true := by simp only [noLs]
@[simp] theorem noLs_cons {d : D} {l : List D} : noLs (d :: l) = (noL d && noLs l) := by simp only [noLs]
@[simp] theorem dgetX_ok {t : Bool} {ks vs : List D} {n : Nat} {y : Res (D × Nat)} {d : Res (List (D × Nat))} : dgetX y d (.dic t ks vs, n) = bind2 (dgetF (.dic t ks vs, n)) y d := rfl
@[simp] theorem dgetF_1 {x y : D × Nat} : dgetF x y [] = dgetD x.1 y.1 .non := rfl
@[simp] theorem dgetF_2 {x y z : D × Nat} : dgetF x y [z] = dgetD x.1 y.1 z.1 := rfl
theorem dgetD_ok {t : Bool} {ks vs : List D} {x z : D} (h : isKey t x = true) : dgetD (.dic t ks vs) x z = .ok ((dicLook t ks vs x).getD z, 0) := if_pos h
@[simp] theorem popE_n {i : Nat} {c : D × Nat} {d : D} : popE none Γ i (c, d) = .nx (Γ.set i (some c)) := rfl
@[simp] theorem popE_s {i j : Nat} {c : D × Nat} {d : D} : popE (some j) Γ i (c, d) = .nx ((Γ.set i (some c)).set j (some (d, 0))) := rfl
@[simp] theorem getV_0 {c : D × Nat} : getV (some c :: Γ) 0 = .ok c := rfl
@[simp] theorem getV_s {x : Cell} {i : Nat} : getV (x :: Γ) (i + 1) = getV Γ i := by simp [getV]
@[simp] theorem getE_0 {d : D} : getE (some (d, 0) :: Γ) 0 = .ok (d, 0) := rfl
@[simp] theorem getE_s {x : Cell} {i : Nat} : getE (x :: Γ) (i + 1) = getE Γ i := by simp [getE]
/-! codes -/
@[simp ↓] theorem ev_var {i : Nat} : ev G (.var i) Γ = getE Γ i := by simp only [ev, getE] <;> rfl
@[simp ↓] theorem vw_var {i : Nat} : vw G (.var i) Γ = getV Γ i := by simp only [vw, getV] <;> rfl
@[simp ↓] theorem vw_val {e : EC} : vw G (.val e) Γ = ev G e Γ := by simp only [vw]
@[simp ↓] theorem vw_idx {b : BC} {e : EC} : vw G (.idx b e) Γ = bind2 idxF (vw G b Γ) (ev G e Γ) := by simp only [vw] <;> rfl
@[simp ↓] theorem ev_lit {d : D} : ev G (.lit d) Γ = .ok (d, 0) := by simp only [ev]
@[simp ↓] theorem ev_tup {es : List EC} : ev G (.tup es) Γ = (evs G es Γ).bind tupF := by simp only [ev] <;> rfl
@[simp ↓] theorem ev_lst {m : Nat} {es : List EC} : ev G (.lst m es) Γ = (evs G es Γ).bind (lstF m) := by simp only [ev] <;> rfl
@[simp ↓] theorem ev_bin {o : Bop} {a b : BC} : ev G (.bin o a b) Γ = bind2 (binD o) (vw G a Γ) (vw G b Γ) := by simp only [ev] <;> rfl
@[simp ↓] theorem ev_neg {a : EC} : ev G (.neg a) Γ = (ev G a Γ).bind negF := by simp only [ev] <;> rfl
@[simp ↓] theorem ev_tst {t : TC} : ev G (.tst t) Γ = (ts G t Γ).bind tstF := by simp only [ev] <;> rfl
@[simp ↓] theorem ev_ifx {t : TC} {a b : EC} : ev G (.ifx t a b) Γ = ifxG (ts G t Γ) G a b Γ := by simp only [ev] <;> rfl
@[simp ↓] theorem ev_idx {b : BC} {e : EC} : ev G (.idx b e) Γ = (bind2 idxF (vw G b Γ) (ev G e Γ)).bind frz0 := by
  simp only [ev, bind2]
  cases vw G b Γ with
  | ok x => cases ev G e Γ with
    | ok y => rfl
    | exc c ns ds => rfl
    | fail => rfl
  | exc c ns ds => rfl
  | fail => rfl
@[simp ↓] theorem ev_slc {b : BC} {lo hi : List EC} : ev G (.slc b lo hi) Γ = slc3 (vw G b Γ) (evs G lo Γ) (evs G hi Γ) := by simp only [ev] <;> rfl
@[simp ↓] theorem ev_rev {b : BC} : ev G (.rev b) Γ = (vw G b Γ).bind revD := by simp only [ev]
@[simp ↓] theorem ev_call {i : Nat} {es : List EC} : ev G (.call i es) Γ = (evs G es Γ).bind (callF G i) := by
  simp only [ev]
  rfl
@[simp ↓] theorem ev_mth {c m : String} {i : Nat} {o : EC} {es : List EC} : ev G (.mth c m i o es) Γ = (ev G o Γ).bind (mthF G c m i (evs G es Γ)) := by
  simp only [ev] <;> rfl
@[simp ↓] theorem ev_kcall {i : Nat} {es ks : List EC} : ev G (.kcall i es ks) Γ = bind2 (kcallF G i) (evs G es Γ) (evs G ks Γ) := by
  simp only [ev, bind2] <;> rfl
@[simp ↓] theorem ev_bi {f : Bi} {bs : List BC} : ev G (.bi f bs) Γ = (vws G bs Γ).bind (biD f) := by simp only [ev]
@[simp ↓] theorem ev_comp {m : Nat} {t : TG} {s : SRC} {ifs : List TC} {e : EC} : ev G (.comp m t s ifs e) Γ = (src G false s Γ).bind (compS G t ifs m e (wipeG Γ t.slots)) := by simp only [ev] <;> rfl
@[simp ↓] theorem ev_comp2 {m : Nat} {t t2 : TG} {s s2 : SRC} {ifs ifs2 : List TC} {e : EC} : ev G (.comp2 m t s ifs t2 s2 ifs2 e) Γ = (src G false s Γ).bind (comp2S G t ifs t2 s2 ifs2 m e (wipeG Γ (t.slots ++ t2.slots))) := by simp only [ev] <;> rfl
@[simp ↓] theorem ev_dnew {t : Bool} : ev G (.dnew t) Γ = .ok (.dic t [] [], 1) := by simp only [ev]
@[simp ↓] theorem evs_nil : evs G [] Γ = .ok [] := by simp only [evs]
@[simp ↓] theorem evs_cons {e : EC} {es : List EC} : evs G (e :: es) Γ = consR (ev G e Γ) (evs G es Γ) := by simp only [evs] <;> rfl
@[simp ↓] theorem vws_nil : vws G [] Γ = .ok [] := by simp only [vws]
@[simp ↓] theorem vws_cons {e : BC} {es : List BC} : vws G (e :: es) Γ = consR (vw G e Γ) (vws G es Γ) := by simp only [vws] <;> rfl
@[simp ↓] theorem ts_cmp {o : Cop} {a b : BC} : ts G (.cmp o a b) Γ = bind2 (cmpD o) (vw G a Γ) (vw G b Γ) := by simp only [ts] <;> rfl
@[simp ↓] theorem ts_chn {o p : Cop} {a b c : BC} : ts G (.chn o p a b c) Γ = bind2 (chnG o p G Γ c) (vw G a Γ) (vw G b Γ) := by
  simp only [ts]
  rfl
@[simp] theorem chnG_eq {o p : Cop} {c : BC} {x y : D × Nat} : chnG o p G Γ c x y = (cmpD o x y).bind fun k => chn2 p y k (vw G c Γ) := rfl
@[simp ↓] theorem ts_and {a b : TC} : ts G (.and a b) Γ = andG (ts G a Γ) G b Γ := by simp only [ts] <;> rfl
@[simp ↓] theorem ts_or {a b : TC} : ts G (.or a b) Γ = orG (ts G a Γ) G b Γ := by simp only [ts] <;> rfl
@[simp ↓] theorem ts_not {a : TC} : ts G (.not a) Γ = (ts G a Γ).bind notF := by simp only [ts] <;> rfl
@[simp ↓] theorem ts_tru {b : BC} : ts G (.tru b) Γ = (vw G b Γ).bind truD := by
  simp only [ts]
  congr 1
@[simp ↓] theorem ts_isi {b : BC} {t : List String} : ts G (.isi b t) Γ = (vw G b Γ).bind (isiF G t) := by simp only [ts] <;> rfl
@[simp ↓] theorem ts_isx {i : Nat} {t : List String} : ts G (.isx i t) Γ = (getV Γ i).bind (isxC G t) := by
  simp only [ts, getV]
  cases Γ[i]? with
  | none => rfl
  | some o => cases o with
    | none => rfl
    | some c =>
      obtain ⟨d, n⟩ := c
      cases d <;> rfl
@[simp ↓] theorem ev_att {b : BC} {f : String} : ev G (.att b f) Γ = (vw G b Γ).bind (attC G f) := by
  simp only [ev]
  congr 1
@[simp ↓] theorem vw_attP {b : BC} {f : String} : vw G (.att b f) Γ = (vw G b Γ).bind (attC G f) := by
  simp only [vw]
  congr 1
@[simp ↓] theorem ev_exf {i : Nat} {f : String} : ev G (.exf i f) Γ = (getV Γ i).bind (exfC G f) := by
  simp only [ev, getV]
  cases Γ[i]? with
  | none => rfl
  | some o => cases o with
    | none => rfl
    | some c =>
      obtain ⟨d, n⟩ := c
      cases d <;> first | rfl | (cases n <;> rfl)
@[simp ↓] theorem tss_nil : tss G [] Γ = .ok true := by simp only [tss]
def tssG (c : Res Bool) (G : Glb) (r : List TC) (Γ : Env) : Res Bool := c.bind fun c => if c then tss G r Γ else .ok false
@[simp] theorem tss_t {r : List TC} : tssG (.ok true) G r Γ = tss G r Γ := rfl
@[simp] theorem tss_n {b : Bool} : tssG (.ok b) G [] Γ = .ok b := by cases b <;> simp [tssG, tss]
@[simp] theorem tss_f {r : List TC} : tssG (.ok false) G r Γ = .ok false := rfl
@[simp ↓] theorem tss_cons {t : TC} {r : List TC} : tss G (t :: r) Γ = tssG (ts G t Γ) G r Γ := by simp only [tss] <;> rfl
@[simp ↓] theorem src_seq {fz : Bool} {b : BC} : src G fz (.seq b) Γ = (vw G b Γ).bind (seqItems fz) := by simp only [src]
@[simp ↓] theorem src_made {fz : Bool} {e : EC} : src G fz (.made e) Γ = (ev G e Γ).bind madeF := by simp only [src] <;> rfl
@[simp ↓] theorem src_rng {fz : Bool} {es : List EC} : src G fz (.rng es) Γ = (evs G es Γ).bind rngF := by simp only [src] <;> rfl
def zipR (fz : Bool) (x y : D × Nat) : Res (List D) := (seqItems fz x).bind fun l => (seqItems fz y).bind fun m => .ok (zipItems l m)
@[simp] theorem zipR_eq {fz : Bool} {x y : D × Nat} : zipR fz x y = bind2 zipF2 (seqItems fz x) (seqItems fz y) := rfl
def enmR (fz : Bool) (x : D × Nat) : Res (List D) := (seqItems fz x).bind enmF
@[simp] theorem enmR_eq {fz : Bool} {x : D × Nat} : enmR fz x = (seqItems fz x).bind enmF := rfl
def revR (fz : Bool) (x : D × Nat) : Res (List D) := (seqItems fz x).bind revF
@[simp] theorem revR_eq {fz : Bool} {x : D × Nat} : revR fz x = (seqItems fz x).bind revF := rfl
@[simp ↓] theorem src_zip {fz : Bool} {a b : BC} : src G fz (.zip a b) Γ = bind2 (zipR fz) (vw G a Γ) (vw G b Γ) := by simp only [src] <;> rfl
@[simp ↓] theorem src_enm {fz : Bool} {b : BC} : src G fz (.enm b) Γ = (vw G b Γ).bind (enmR fz) := by simp only [src] <;> rfl
@[simp ↓] theorem src_rev {fz : Bool} {b : BC} : src G fz (.rev b) Γ = (vw G b Γ).bind (revR fz) := by simp only [src] <;> rfl
@[simp ↓] theorem ex_skip : ex G .skip Γ = .nx Γ := by simp only [ex]
@[simp ↓] theorem ex_seq {a b : SC} : ex G (.seq a b) Γ = thenG (ex G a Γ) G b := by simp only [ex] <;> rfl
@[simp ↓] theorem ex_ret {e : EC} : ex G (.ret e) Γ = (ev G e Γ).out Γ retO := by simp only [ex] <;> rfl
@[simp ↓] theorem ex_reto {i : Nat} : ex G (.reto i) Γ = retV (getV Γ i) := by
  simp only [ex, getV]
  cases Γ[i]? with
  | none => rfl
  | some o => cases o <;> rfl
@[simp ↓] theorem ex_asg {t : TG} {fz : Bool} {e : EC} : ex G (.asg t fz e) Γ = (ev G e Γ).out Γ (asgO t fz Γ) := by simp only [ex] <;> rfl
@[simp ↓] theorem ex_ife {t : TC} {a b : SC} : ex G (.ife t a b) Γ = iteG (ts G t Γ) G a b Γ := by simp only [ex] <;> rfl
@[simp ↓] theorem ex_for {t : TG} {s : SRC} {b : SC} : ex G (.for t s b) Γ = (src G true s Γ).out Γ (forG G t b Γ) := by simp only [ex] <;> rfl
@[simp ↓] theorem ex_whl {m : Env → Nat} {t : TC} {b : SC} : ex G (.whl m t b) Γ = whlG G t b (m Γ) Γ := by simp only [ex] <;> rfl
@[simp ↓] theorem ex_app {i m : Nat} {e : EC} : ex G (.app i [] m e) Γ = (getV Γ i).out Γ (appC (ev G e Γ) Γ i) := by
  simp only [ex, getV]
  cases Γ[i]? with
  | none => rfl
  | some o => cases o with
    | none => rfl
    | some c => 
      obtain ⟨d, n⟩ := c
      cases d <;> first | rfl | (cases n <;> rfl)
@[simp ↓] theorem ex_sti {i m : Nat} {k e : EC} : ex G (.sti i [k] m e) Γ = out3 (stiC Γ i) Γ (getV Γ i) (ev G k Γ) (ev G e Γ) := by
  simp only [ex, getV]
  cases Γ[i]? with
  | none => rfl
  | some o => cases o <;> rfl
def sti2G (Γ : Env) (i : Nat) (a b c d : Res (D × Nat)) : Out := a.out Γ fun x => d.out Γ fun w => b.out Γ fun y => optO (innerAt x y.1) fun r => c.out Γ fun z => optO (put1 (.lst r.2.2) z.1 w.1) fun d => .nx (Γ.set i (some (.lst (r.1.set r.2.1 d), 2)))
@[simp ↓] theorem ex_sti2 {i m : Nat} {k k2 e : EC} : ex G (.sti i [k, k2] m e) Γ = sti2G Γ i (getV Γ i) (ev G k Γ) (ev G k2 Γ) (ev G e Γ) := by
  simp only [ex, getV]
  cases Γ[i]? with
  | none => rfl
  | some o => cases o <;> rfl
@[simp ↓] theorem ex_aug {i : Nat} {o : Bop} {e : EC} : ex G (.aug i o e) Γ = (getV Γ i).out Γ (augC o (ev G e Γ) Γ i) := by
  simp only [ex, getV]
  cases Γ[i]? with
  | none => rfl
  | some o => cases o with
    | none => rfl
    | some c => 
      obtain ⟨d, n⟩ := c
      cases d <;> first | rfl | (cases n <;> rfl)
@[simp ↓] theorem ex_pop {dst : Option Nat} {i : Nat} {k : List EC} : ex G (.pop dst i k) Γ = (getV Γ i).out Γ (popO dst (evs G k Γ) Γ i) := by
  simp only [ex, getV]
  cases Γ[i]? with
  | none => rfl
  | some o => cases o with
    | none => rfl
    | some c =>
      obtain ⟨d, n⟩ := c
      cases d <;> first | rfl | (cases n with
        | zero => rfl
        | succ n => cases n with
          | zero =>
            show (evs G k Γ).out Γ _ = (evs G k Γ).out Γ _
            cases evs G k Γ <;> cases dst <;> rfl
          | succ n => rfl)
@[simp ↓] theorem ex_popA {o i : Nat} {k : List EC} : ex G (.popA o i k) Γ = popAO (evs G k Γ) o i Γ (getV Γ o) (getV Γ i) := by
  simp only [ex, getV, popAO]
  cases Γ[o]? with
  | none => rfl
  | some a => cases a with
    | none => rfl
    | some a => 
      cases Γ[i]? with
      | none => obtain ⟨d, n⟩ := a; cases d <;> first | rfl | (match n with | 0 => rfl | 1 => rfl | n + 2 => rfl)
      | some b => cases b with
        | none => obtain ⟨d, n⟩ := a; cases d <;> first | rfl | (match n with | 0 => rfl | 1 => rfl | n + 2 => rfl)
        | some b =>
          obtain ⟨d, n⟩ := a
          obtain ⟨e, m⟩ := b
          cases d <;> first | rfl | (cases e <;> first | rfl | (match n, m with
            | 1, 1 => rfl
            | 0, _ => rfl
            | n + 2, _ => rfl
            | 1, 0 => rfl
            | 1, m + 2 => rfl))
@[simp ↓] theorem ex_ins {i : Nat} {k e : EC} : ex G (.ins i k e) Γ = (getV Γ i).out Γ (insC (ev G k Γ) (ev G e Γ) i Γ) := by
  simp only [ex, getV]
  cases Γ[i]? with
  | none => rfl
  | some o => cases o with
    | none => rfl
    | some c =>
      obtain ⟨d, n⟩ := c
      cases d <;> first | rfl | (match n with
        | 0 => rfl
        | 1 => rfl
        | n + 2 => rfl)
@[simp ↓] theorem ev_lend {i : Nat} {e : EC} : ev G (.lend i e) Γ = lendE (lentG Γ i) G e := by
  simp only [ev, lendE] <;> (cases lentG Γ i <;> rfl)
@[simp ↓] theorem ts_lend {i : Nat} {t : TC} : ts G (.lend i t) Γ = lendT (lentG Γ i) G t := by
  simp only [ts, lendT] <;> (cases lentG Γ i <;> rfl)
@[simp ↓] theorem ev_dget {b : BC} {k : EC} {d : List EC} : ev G (.dget b k d) Γ = (vw G b Γ).bind (dgetX (ev G k Γ) (evs G d Γ)) := by
  simp only [ev] <;> rfl
def stfO (G : Glb) (f : String) (Γ : Env) (y : D × Nat) : Out := match Γ.head? with
  | some (some (.slf c a ns ds, 1)) => if G.okA c f = true ∧ ns.length < 800 then .nx (Γ.set 0 (some (.slf c a (putFd f y.1 ns ds).1 (putFd f y.1 ns ds).2, 1))) else .fail
  | _ => .fail
@[simp] theorem stfO_eq {f : String} {y : D × Nat} {c a ns ds} : stfO G f (some (.slf c a ns ds, 1) :: Γ) y = if G.okA c f = true ∧ ns.length < 800 then .nx (some (.slf c a (putFd f y.1 ns ds).1 (putFd f y.1 ns ds).2, 1) :: Γ) else .fail := rfl
@[simp ↓] theorem ex_stf {f : String} {e : EC} : ex G (.stf f e) Γ = (ev G e Γ).out Γ (stfO G f Γ) := by simp only [ex] <;> rfl
@[simp] theorem putFd_nil {f : String} {d : D} {ds : List D} : putFd f d [] ds = ([f], [d]) := by cases ds <;> rfl
@[simp] theorem putFd_cons {f n : String} {d e : D} {ns : List String} {ds : List D} : putFd f d (n :: ns) (e :: ds) = if n = f then (n :: ns, d :: ds) else (n :: (putFd f d ns ds).1, e :: (putFd f d ns ds).2) := by
  rw [putFd] <;> first | rfl | (split <;> rfl)
@[simp ↓] theorem ex_brk : ex G .brk Γ = .brk Γ := by simp only [ex]
@[simp ↓] theorem ex_cnt : ex G .cnt Γ = .cnt Γ := by simp only [ex]
@[simp ↓] theorem ex_exp {e : EC} : ex G (.exp e) Γ = (ev G e Γ).out Γ (skpO Γ) := by simp only [ex] <;> rfl
@[simp ↓] theorem ex_rse {c : String} {fs : List String} {es : List EC} : ex G (.rse c fs es) Γ = (evs G es Γ).out Γ (rseO c fs Γ) := by simp only [ex] <;> rfl
@[simp ↓] theorem ex_try {b h : SC} {c : String} {i : Nat} : ex G (.try b c i h) Γ = tryG G c i h (ex G b Γ) := by simp only [ex] <;> rfl
@[simp] theorem then_then {o : Out} {a b : SC} : thenG (thenG o G a) G b = thenG o G (.seq a b) := by
  cases o <;> first | rfl | (rw [then_nx, then_nx]; simp only [ex]; rfl)
@[simp] theorem frzG_0 {d : D} {n : Nat} : frzG (some (d, n) :: Γ) 0 = some (d, 0) :: Γ := rfl
@[simp] theorem frzG_s {x : Cell} {i : Nat} : frzG (x :: Γ) (i + 1) = x :: frzG Γ i := by
  simp only [frzG, List.getElem?_cons_succ]
  cases Γ[i]? with
  | none => rfl
  | some o => cases o <;> rfl
@[simp ↓] theorem ex_frz {i : Nat} : ex G (.frz i) Γ = .nx (frzG Γ i) := by
  simp only [ex, frzG]
  cases Γ[i]? with
  | none => rfl
  | some o => cases o <;> rfl
end
section
variable {G : Glb} {Γ : Env}
/-! data -/
@[simp] theorem len_lst {l : List D} {n : Nat} : biD .len [(.lst l, n)] = .ok (.int l.length, 0) := rfl
@[simp] theorem len_tup {l : List D} {n : Nat} : biD .len [(.tup l, n)] = .ok (.int l.length, 0) := rfl
@[simp] theorem len_ro {l : List D} {n : Nat} : biD .len [(.ro l, n)] = .ok (.int l.length, 0) := rfl
@[simp] theorem int_int {i : Int} {n : Nat} : biD .int [(.int i, n)] = .ok (.int i, 0) := rfl
@[simp] theorem int_bl {b : Bool} {n : Nat} : biD .int [(.bl b, n)] = .ok (.int (if b then 1 else 0), 0) := rfl
@[simp] theorem tup_l0 {l : List D} : biD .tuple [(.lst l, 0)] = .ok (.tup l, 0) := rfl
@[simp] theorem tup_l1 {l : List D} : biD .tuple [(.lst l, 1)] = .ok (.tup l, 0) := rfl
@[simp] theorem tup_t {l : List D} {n : Nat} : biD .tuple [(.tup l, n)] = .ok (.tup l, 0) := rfl
@[simp] theorem lst_l0 {l : List D} : biD .list [(.lst l, 0)] = .ok (.lst l, 1) := rfl
@[simp] theorem lst_l1 {l : List D} : biD .list [(.lst l, 1)] = .ok (.lst l, 1) := rfl
@[simp] theorem lst_t {l : List D} {n : Nat} : biD .list [(.tup l, n)] = .ok (.lst l, 1) := rfl
@[simp] theorem min_2 {i j : Int} {n m : Nat} : biD .min [(.int i, n), (.int j, m)] = .ok (.int (if j < i then j else i), 0) := rfl
@[simp] theorem max_2 {i j : Int} {n m : Nat} : biD .max [(.int i, n), (.int j, m)] = .ok (.int (if j > i then j else i), 0) := rfl
theorem intsD_map : ∀ ns : List Int, intsD (ns.map .int) = some ns
  | [] => rfl
  | n :: ns => by simp [intsD, intsD_map ns]
@[simp] theorem sum_1 {ns : List Int} : biD .sum [(.lst (ns.map .int), 1)] = .ok (.int ns.sum, 0) := by simp [biD, bi1D, ints1, intsD_map, optR]
@[simp] theorem sum_0 {ns : List Int} : biD .sum [(.lst (ns.map .int), 0)] = .ok (.int ns.sum, 0) := by simp [biD, bi1D, ints1, intsD_map, optR]
@[simp low] theorem idx_t {l : List D} {n : Nat} {i : Int} : idxD (.tup l, n) (.int i) = (optR (atI l i)).bind fun x => .ok (x, 0) := rfl
@[simp low] theorem idx_l {l : List D} {n : Nat} {i : Int} : idxD (.lst l, n) (.int i) = (optR (atI l i)).bind fun x => .ok (x, n - 1) := rfl
@[simp low] theorem idx_ro {l : List D} {n : Nat} {i : Int} : idxD (.ro l, n) (.int i) = (optR (atI l i)).bind fun x => .ok (x, 0) := rfl
theorem atI_nat {α : Type} {l : List α} {k : Nat} : atI l (k : Int) = l[k]? := by
  unfold atI ixN
  rw [if_pos (by omega)]
  by_cases h : k < l.length
  · rw [if_pos (by omega)]; simp
  · rw [if_neg (by omega), List.getElem?_eq_none (by omega)]; rfl
@[simp] theorem add_i {i j : Int} {n m : Nat} : binD .add (.int i, n) (.int j, m) = .ok (.int (i + j), 0) := rfl
@[simp] theorem sub_i {i j : Int} {n m : Nat} : binD .sub (.int i, n) (.int j, m) = .ok (.int (i - j), 0) := rfl
theorem mul_i {i j : Int} {n m : Nat} (h : mulOk i j) : binD .mul (.int i, n) (.int j, m) = .ok (.int (i * j), 0) := if_pos h
theorem mod_i {i j : Int} {n m : Nat} (h : j ≠ 0) : binD .mod (.int i, n) (.int j, m) = .ok (.int (i.fmod j), 0) := if_pos h
theorem fdiv_i {i j : Int} {n m : Nat} (h : j ≠ 0) (h2 : j.natAbs < 1073741824) : binD .fdiv (.int i, n) (.int j, m) = .ok (.int (i.fdiv j), 0) := if_pos (.inl ⟨h, h2⟩)
@[simp] theorem neg_i {i : Int} : negD (.int i) = .ok (.int (-i), 0) := rfl
@[simp] theorem add_t {l m : List D} {n k : Nat} : binD .add (.tup l, n) (.tup m, k) = if l.length + m.length ≤ cap then .ok (.tup (l ++ m), 0) else .fail := rfl
@[simp] theorem add_l {l m : List D} {n k : Nat} : binD .add (.lst l, n) (.lst m, k) = if n ≤ 1 ∧ k ≤ 1 ∧ l.length + m.length ≤ cap then .ok (.lst (l ++ m), 1) else .fail := rfl
@[simp] theorem cmp_lt {i j : Int} {n m : Nat} : cmpD .lt (.int i, n) (.int j, m) = .ok (decide (i < j)) := rfl
@[simp] theorem cmp_le {i j : Int} {n m : Nat} : cmpD .le (.int i, n) (.int j, m) = .ok (decide (i ≤ j)) := rfl
@[simp] theorem cmp_gt {i j : Int} {n m : Nat} : cmpD .gt (.int i, n) (.int j, m) = .ok (decide (j < i)) := rfl
@[simp] theorem cmp_ge {i j : Int} {n m : Nat} : cmpD .ge (.int i, n) (.int j, m) = .ok (decide (j ≤ i)) := rfl
@[simp] theorem cmp_eq {a b : D × Nat} : cmpD .eq a b = eqD a.1 b.1 := rfl
@[simp] theorem cmp_ne {a b : D × Nat} : cmpD .ne a b = (eqD a.1 b.1).bind notF := rfl
@[simp] theorem is_tup {x : List D} {n m : Nat} : cmpD .is_ (.tup x, n) (.non, m) = .ok false := rfl
@[simp] theorem isn_tup {x : List D} {n m : Nat} : cmpD .isn (.tup x, n) (.non, m) = .ok true := rfl
@[simp] theorem is_lst {x : List D} {n m : Nat} : cmpD .is_ (.lst x, n) (.non, m) = .ok false := rfl
@[simp] theorem isn_lst {x : List D} {n m : Nat} : cmpD .isn (.lst x, n) (.non, m) = .ok true := rfl
@[simp] theorem is_int {x : Int} {n m : Nat} : cmpD .is_ (.int x, n) (.non, m) = .ok false := rfl
@[simp] theorem isn_int {x : Int} {n m : Nat} : cmpD .isn (.int x, n) (.non, m) = .ok true := rfl
@[simp] theorem is_bl {x : Bool} {n m : Nat} : cmpD .is_ (.bl x, n) (.non, m) = .ok false := rfl
@[simp] theorem isn_bl {x : Bool} {n m : Nat} : cmpD .isn (.bl x, n) (.non, m) = .ok true := rfl
@[simp] theorem is_bb {x y : Bool} {n m : Nat} : cmpD .is_ (.bl x, n) (.bl y, m) = .ok (decide (x = y)) := rfl
@[simp] theorem isn_bb {x y : Bool} {n m : Nat} : cmpD .isn (.bl x, n) (.bl y, m) = .ok (!decide (x = y)) := rfl
@[simp] theorem is_non {n m : Nat} : cmpD .is_ (.non, n) (.non, m) = .ok true := rfl
@[simp] theorem isn_non {n m : Nat} : cmpD .isn (.non, n) (.non, m) = .ok false := rfl
@[simp] theorem eqD_int {i j : Int} : eqD (.int i) (.int j) = .ok (decide (i = j)) := by
  simp only [eqD, isPy, py, PyData.eqv, Bool.and_self, if_true]
  congr 1
@[simp] theorem seq_l0 {fz : Bool} {l : List D} : seqItems fz (.lst l, 0) = .ok l := by cases fz <;> rfl
@[simp] theorem seq_l1 {l : List D} : seqItems false (.lst l, 1) = .ok l := rfl
@[simp] theorem seq_t {fz : Bool} {l : List D} {n : Nat} : seqItems fz (.tup l, n) = .ok l := rfl
@[simp] theorem seq_ro {fz : Bool} {l : List D} {n : Nat} : seqItems fz (.ro l, n) = .ok l := rfl
@[simp] theorem asg_nm {i : Nat} {c : D × Nat} : asgT (.nm i) c Γ = .ok (Γ.set i (some c)) := by simp only [asgT]
@[simp] theorem asg_tp {ts : List TG} {l : List D} {n : Nat} : asgT (.tp ts) (.tup l, n) Γ = asgL ts l Γ := by simp only [asgT]
@[simp] theorem asgL_nil : asgL [] [] Γ = .ok Γ := by simp only [asgL]
@[simp] theorem asgL_cons {t : TG} {r : List TG} {d : D} {ds : List D} : asgL (t :: r) (d :: ds) Γ = (asgT t (d, 0) Γ).bind (asgL r ds) := by simp only [asgL]
@[simp] theorem slots_nm {i : Nat} : TG.slots (.nm i) = [i] := by simp only [TG.slots]
@[simp] theorem slots_tp {t : List TG} : TG.slots (.tp t) = TG.slots.slotsL t := by simp only [TG.slots]
@[simp] theorem slotsL_nil : TG.slots.slotsL [] = [] := by simp only [TG.slots.slotsL]
@[simp] theorem slotsL_cons {t : TG} {r : List TG} : TG.slots.slotsL (t :: r) = t.slots ++ TG.slots.slotsL r := by simp only [TG.slots.slotsL]
@[simp] theorem wipe_nil : wipeG Γ [] = Γ := rfl
@[simp] theorem wipe_cons {v : Nat} {vs : List Nat} : wipeG Γ (v :: vs) = (wipeG Γ vs).set v none := rfl
/-! walks -/
theorem one1_okP {m n : Nat} {d : D} (h : m = 0 ∨ n = m) : one1 m (.ok (d, n)) = .ok [d] := if_pos h
theorem comp_map {asg : D → Env → Res Env} {test : Env → Res Bool} {m : Nat} {elt : Env → Res (D × Nat)} {f : D → D} {Γ : Env} : ∀ {l : List D}, (∀ x ∈ l, ∃ Γ1 n, asg x Γ = .ok Γ1 ∧ test Γ1 = .ok true ∧ elt Γ1 = .ok (f x, n) ∧ (m = 0 ∨ n = m)) → compAll asg test (fun Γ1 => one1 m (elt Γ1)) Γ l = .ok (l.map f)
  | [], _ => rfl
  | x :: l, h => by
    obtain ⟨Γ1, n, h1, h2, h3, h4⟩ := h x List.mem_cons_self
    unfold compAll
    rw [h1]
    dsimp only
    rw [h2]
    dsimp only
    rw [h3, one1_okP h4]
    dsimp only
    rw [comp_map fun y hy => h y (List.mem_cons_of_mem _ hy)]
    rfl
theorem for_inv {asg : D → Env → Res Env} {body : Env → Out} (I : Nat → Env → Prop) : ∀ {l : List D} {k : Nat} {Γ : Env}, I k Γ → (∀ i x Γ, l[i]? = some x → I (k + i) Γ → ∃ Γ1 Γ2, asg x Γ = .ok Γ1 ∧ (body Γ1 = .nx Γ2 ∨ body Γ1 = .cnt Γ2) ∧ I (k + i + 1) Γ2) → ∃ Γ', forRun asg body l Γ = .nx Γ' ∧ I (k + l.length) Γ'
  | [], k, Γ, h, _ => ⟨Γ, rfl, h⟩
  | x :: l, k, Γ, h, st => by
    obtain ⟨Γ1, Γ2, h1, h2, h3⟩ := st 0 x Γ rfl h
    obtain ⟨Γ', h4, h5⟩ := for_inv I (l := l) (k := k + 1) (Γ := Γ2) (by simpa using h3) fun i y Γ3 e q => by
      obtain ⟨a, b, c, d, e2⟩ := st (i + 1) y Γ3 (by simpa using e) (by rw [show k + (i + 1) = k + 1 + i by omega]; exact q)
      exact ⟨a, b, c, d, by rw [show k + 1 + i + 1 = k + (i + 1) + 1 by omega]; exact e2⟩
    refine ⟨Γ', ?_, by rw [List.length_cons, show k + (l.length + 1) = k + 1 + l.length by omega]; exact h5⟩
    unfold forRun
    rw [h1]
    dsimp only
    rcases h2 with h2 | h2 <;> rw [h2] <;> exact h4
end
end Ev
/-! Pm: tables over whole numbers, and walks as tables. -/
namespace Ev
open PySem PySem.Spec L2
def tab (n : Int) (f : Int → D) : List D := (List.range n.toNat).map fun (k : Nat) => f (k : Int)
theorem tab_len {n : Int} {f : Int → D} : (tab n f).length = n.toNat := by simp [tab]
@[simp] theorem tab_leni {n : Int} {f : Int → D} (h : 0 ≤ n) : ((tab n f).length : Int) = n := by simp [tab]; omega
@[simp] theorem tab_0 {f : Int → D} : tab 0 f = [] := rfl
theorem tab_neg {n : Int} {f : Int → D} (h : n ≤ 0) : tab n f = [] := by
  have : n.toNat = 0 := by omega
  simp [tab, this]
theorem tab_get {n : Int} {k : Nat} {f : Int → D} (h : (k : Int) < n) : (tab n f)[k]? = some (f k) := by
  have : k < n.toNat := by omega
  simp [tab, this]
theorem tab_cg {n m : Int} {f g : Int → D} (e : n = m) (h : ∀ i, 0 ≤ i → i < m → f i = g i) : tab n f = tab m g := by
  subst e
  refine List.map_congr_left fun i hi => h i (by omega) ?_
  have := List.mem_range.mp hi
  omega
theorem tab_succ {n : Int} {f : Int → D} (h : 0 ≤ n) : tab (n + 1) f = tab n f ++ [f n] := by
  have e : (n + 1).toNat = n.toNat + 1 := by omega
  simp only [tab, e, List.range_succ, List.map_append, List.map_cons, List.map_nil]
  rw [Int.toNat_of_nonneg h]
theorem tab_snoc {n : Int} {f : Int → D} {x : D} (h : 0 ≤ n) : tab n f ++ [x] = tab (n + 1) fun i => if i < n then f i else x := by
  rw [tab_succ h]
  simp only [Int.lt_irrefl, if_false]
  congr 1
  exact tab_cg rfl fun i _ h2 => by simp [h2]
theorem tab_cons {n : Int} {f : Int → D} (h : 0 ≤ n) : tab (n + 1) f = f 0 :: tab n fun i => f (i + 1) := by
  have e : (n + 1).toNat = n.toNat + 1 := by omega
  simp only [tab, e, List.range_succ_eq_map, List.map_cons, List.map_map]; rfl
theorem toN {i n : Int} (h : 0 ≤ i) (h2 : i < n) : ∃ k : Nat, i = k ∧ k < n.toNat := ⟨i.toNat, by omega, by omega⟩
theorem upTo_tab {n : Int} : upTo 0 n.toNat = tab n fun i => .int i := by simp [upTo, tab]
theorem map_tab {n : Int} {f : Int → D} {g : D → D} : (tab n f).map g = tab n fun i => g (f i) := by simp [tab]
@[simp] theorem atI_tab {n i : Int} {f : Int → D} (h : 0 ≤ i) (h2 : i < n) : atI (tab n f) i = some (f i) := by
  obtain ⟨k, rfl, q⟩ := toN h h2
  rw [atI_nat, tab_get h2]
@[simp] theorem zip_tab {n : Int} {f g : Int → D} : zipItems (tab n f) (tab n g) = tab n fun i => .tup [f i, g i] := by
  simp only [zipItems, tab, List.zipWith_map, List.zipWith_self]
@[simp] theorem enm_tab {n : Int} {f : Int → D} : enmItems (tab n f) = tab n fun i => .tup [.int i, f i] := by
  simp only [enmItems, tab_len]
  simp only [tab, List.zipWith_map_right, List.zipWith_self]
theorem cut_hi {n k : Int} {f : Int → D} (h : 0 ≤ k) (h2 : k ≤ n) : cutD (tab n f) none (some k) = tab k f := by
  obtain ⟨a, rfl⟩ : ∃ a : Nat, k = a := ⟨k.toNat, by omega⟩
  have e1 : HT.sIx (tab n f).length 0 none = 0 := rfl
  have e2 : HT.sIx (tab n f).length (tab n f).length (some (a : Int)) = a := by
    simp only [HT.sIx, tab_len]
    rw [if_neg (by omega)]
    omega
  unfold cutD
  rw [e2, e1, List.drop_zero, Nat.sub_zero]
  unfold tab
  rw [← List.map_take, List.take_range]
  congr 2
  omega
theorem cut_lo {n k : Int} {f : Int → D} (h : 0 ≤ k) (h2 : k ≤ n) : cutD (tab n f) (some k) none = tab (n - k) fun i => f (i + k) := by
  obtain ⟨a, rfl⟩ : ∃ a : Nat, k = a := ⟨k.toNat, by omega⟩
  have e1 : HT.sIx (tab n f).length (tab n f).length none = n.toNat := by simp only [HT.sIx, tab_len]
  have e2 : HT.sIx (tab n f).length 0 (some (a : Int)) = a := by
    simp only [HT.sIx, tab_len]
    rw [if_neg (by omega)]
    omega
  simp only [cutD, e1, e2]
  rw [List.take_of_length_le (by rw [List.length_drop, tab_len]; omega)]
  refine List.ext_getElem? fun j => ?_
  rw [List.getElem?_drop]
  by_cases q : (a : Int) + j < n
  · rw [tab_get (by push_cast; omega), tab_get (by omega)]
    congr 2
    push_cast; omega
  · rw [List.getElem?_eq_none (by rw [tab_len]; omega), List.getElem?_eq_none (by rw [tab_len]; omega)]
theorem cut_both {n j k : Int} {f : Int → D} (h0 : 0 ≤ j) (h : j ≤ k) (h2 : k ≤ n) : cutD (tab n f) (some j) (some k) = tab (k - j) fun i => f (i + j) := by
  rw [← cut_lo (n := k) (by omega) (by omega)]
  obtain ⟨a, rfl⟩ : ∃ a : Nat, k = a := ⟨k.toNat, by omega⟩
  obtain ⟨b, rfl⟩ : ∃ b : Nat, j = b := ⟨j.toNat, by omega⟩
  have e2 : HT.sIx (tab n f).length (tab n f).length (some (a : Int)) = a := by
    simp only [HT.sIx, tab_len]; rw [if_neg (by omega)]; omega
  have e1 : HT.sIx (tab n f).length 0 (some (b : Int)) = b := by
    simp only [HT.sIx, tab_len]; rw [if_neg (by omega)]; omega
  have e3 : HT.sIx (tab (a : Int) f).length 0 (some (b : Int)) = b := by
    simp only [HT.sIx, tab_len]; rw [if_neg (by omega)]; omega
  have e4 : HT.sIx (tab (a : Int) f).length (tab (a : Int) f).length none = a := by
    simp only [HT.sIx, tab_len]; omega
  simp only [cutD, e1, e2, e3, e4]
  refine List.ext_getElem? fun i => ?_
  rw [List.getElem?_take, List.getElem?_take, List.getElem?_drop, List.getElem?_drop]
  split
  · rw [tab_get (by push_cast; omega), tab_get (by push_cast; omega)]
  · rfl
/-- a list or a tuple -/
def sq : Bool → List D → D
  | true, l => .tup l
  | false, l => .lst l
theorem sq_t {l : List D} : D.tup l = sq true l := rfl
theorem sq_f {l : List D} : D.lst l = sq false l := rfl
theorem len_sq {b : Bool} {l : List D} {n : Nat} : biD .len [(sq b l, n)] = .ok (.int l.length, 0) := by cases b <;> rfl
theorem tup_sq {b : Bool} {l : List D} {n : Nat} (h : n ≤ 1) : biD .tuple [(sq b l, n)] = .ok (.tup l, 0) := by cases b <;> simp [sq, biD, bi1D, tupleD, h]
theorem lst_sq {b : Bool} {l : List D} {n : Nat} (h : n ≤ 1) : biD .list [(sq b l, n)] = .ok (.lst l, 1) := by cases b <;> simp [sq, biD, bi1D, listD, h]
theorem seq_sq {b fz : Bool} {l : List D} {n : Nat} (h : n = 0 ∨ (fz = false ∧ n ≤ 1)) : seqItems fz (sq b l, n) = .ok l := by
  cases b
  · simp [sq, seqItems]; intro h1; rcases h with h | h <;> simp_all
  · rfl
theorem idx_sq {b : Bool} {l : List D} {i : Int} : idxD (sq b l, 0) (.int i) = (optR (atI l i)).bind fun x => .ok (x, 0) := by cases b <;> rfl
@[simp] theorem idx_tt {n i : Int} {m : Nat} {f : Int → D} (h : 0 ≤ i) (h2 : i < n) : idxD (.tup (tab n f), m) (.int i) = .ok (f i, 0) := by rw [idx_t, atI_tab h h2]; rfl
@[simp] theorem idx_lt {n i : Int} {m : Nat} {f : Int → D} (h : 0 ≤ i) (h2 : i < n) : idxD (.lst (tab n f), m) (.int i) = .ok (f i, m - 1) := by rw [idx_l, atI_tab h h2]; rfl
@[simp] theorem rng1 {j : Int} (h : j ≤ 16777216) (h2 : -1000 ≤ j) : rngItems [.int j] = .ok (tab j fun i => .int i) := by
  show (if rngOk j then Res.ok (upTo 0 j.toNat) else .fail) = _
  rw [if_pos (by unfold rngOk; omega), upTo_tab]
@[simp] theorem rng2 {i j : Int} (h : j ≤ 16777216) (h2 : -1000 ≤ j) (h3 : i ≤ 16777216) (h4 : -1000 ≤ i) : rngItems [.int i, .int j] = .ok (tab (j - i) fun k => .int (i + k)) := by
  show (if rngOk i ∧ rngOk j then Res.ok (upTo i (j - i).toNat) else .fail) = _
  rw [if_pos (by unfold rngOk; omega)]
  simp [upTo, tab]
/-! the walks of a comprehension -/
def seqR (n : Int) (f : Int → Res D) : Res (List D) := mapMR (fun (k : Nat) => f (k : Int)) (List.range n.toNat)
/-- in the range alone -/
noncomputable def gd {α : Type} (p : Prop) (f : p → Res α) : Res α := open Classical in if h : p then f h else .fail
theorem gd_pos {α : Type} {p : Prop} {f : p → Res α} (h : p) : gd p f = f h := dif_pos h
theorem seqR_cg {n : Int} {f g : Int → Res D} (h : ∀ i, 0 ≤ i → i < n → f i = g i) : seqR n f = seqR n g := by
  unfold seqR
  have key : ∀ l : List Nat, (∀ i ∈ l, f (i : Int) = g i) → mapMR (fun (k : Nat) => f (k : Int)) l = mapMR (fun (k : Nat) => g (k : Int)) l := by
    intro l
    induction l with
    | nil => intro _; rfl
    | cons a l ih => intro q; simp only [mapMR, q a List.mem_cons_self, ih fun i hi => q i (List.mem_cons_of_mem _ hi)]
  exact key _ fun i hi => h i (by omega) (by have := List.mem_range.mp hi; omega)
theorem seqR_ok1 {n : Int} {g : Int → D} : seqR n (fun i => .ok (g i)) = .ok (tab n g) := by
  unfold seqR tab
  generalize List.range n.toNat = l
  induction l with
  | nil => rfl
  | cons a l ih => simp [mapMR, ih]
def c1 (m : Nat) : Res (D × Nat) → Res D
  | .ok (d, k) => if m = 0 ∨ k = m then .ok d else .fail
  | _ => .fail
@[simp] theorem c1_0 {d : D} {k : Nat} : c1 0 (.ok (d, k)) = .ok d := rfl
@[simp] theorem c1_m {d : D} {m : Nat} : c1 m (.ok (d, m)) = .ok d := if_pos (.inr rfl)
@[simp] theorem nxR_ok {α : Type} {a : α} : nxR (.ok a : Res α) = .ok a := rfl
@[simp] theorem seqR_ok {n : Int} {g : Int → D} : seqR n (fun i => gd (0 ≤ i ∧ i < n) fun _ => .ok (g i)) = .ok (tab n g) := by
  rw [seqR_cg (g := fun i => .ok (g i)) fun i h1 h2 => gd_pos ⟨h1, h2⟩, seqR_ok1]
def c1E (m : Nat) (G : Glb) (e : EC) (Γ : Env) : Res D := c1 m (ev G e Γ)
@[simp] theorem c1E_eq {m : Nat} {G : Glb} {e : EC} {Γ : Env} : c1E m G e Γ = c1 m (ev G e Γ) := rfl
@[simp] theorem comp_tab {G : Glb} {Γ : Env} {t : TG} {m : Nat} {n : Int} {e : EC} {F : Int → D} : compG G t [] m e Γ (tab n F) = nxR (seqR n fun i => gd (0 ≤ i ∧ i < n) fun _ => (asgT t (F i, 0) Γ).bind (c1E m G e)) := by
  rw [seqR_cg (g := fun i => (asgT t (F i, 0) Γ).bind fun Γ1 => c1 m (ev G e Γ1)) fun i h1 h2 => gd_pos ⟨h1, h2⟩]
  unfold tab seqR compG
  generalize List.range n.toNat = l
  induction l with
  | nil => rfl
  | cons a l ih =>
    simp only [List.map_cons, compAll, mapMR, tss_nil]
    simp only [tss_nil] at ih
    cases h : asgT t (F a, 0) Γ with
    | ok Γ1 =>
      simp only [h, Res.bind_ok]
      cases h2 : ev G e Γ1 with
      | ok c =>
        obtain ⟨d, k⟩ := c
        by_cases q : m = 0 ∨ k = m
        · rw [show one1 m (.ok (d, k)) = .ok [d] from if_pos q, show c1 m (.ok (d, k)) = .ok d from if_pos q]
          dsimp only [Res.bind_ok]
          rw [ih]
          cases mapMR (fun (i : Nat) => (asgT t (F i, 0) Γ).bind fun Γ1 => c1 m (ev G e Γ1)) l <;> rfl
        · rw [show one1 m (.ok (d, k)) = .fail from if_neg q, show c1 m (.ok (d, k)) = .fail from if_neg q]
          rfl
      | exc c ns ds => rfl
      | fail => rfl
    | exc c ns ds => rfl
    | fail => rfl
@[simp] theorem capL_okP {m : Nat} {n : Int} {f : Int → D} (h : n ≤ 16777216) : capL m (.ok (tab n f)) = .ok (.lst (tab n f), m + 1) := by
  have : n.toNat ≤ cap := by unfold cap; omega
  simp [capL, tab_len, this]
@[simp low] theorem capL_any {m : Nat} {l : List D} (h : l.length ≤ 16777216) : capL m (.ok l) = .ok (.lst l, m + 1) := by
  have : l.length ≤ cap := h
  simp [capL, this]
@[simp] theorem capL_nil {m : Nat} : capL m (.ok []) = .ok (.lst [], m + 1) := rfl
@[simp] theorem zip_nil {l : List D} : zipItems [] l = [] := rfl
@[simp] theorem enm_nil : enmItems [] = [] := rfl
/-! comprehensions with a condition -/
def ftab (n : Int) (p : Int → Bool) (g : Int → D) : List D := ((List.range n.toNat).filter fun (k : Nat) => p (k : Int)).map fun (k : Nat) => g (k : Int)
def filR (P : Nat → Res Bool) (B : Nat → Res D) : List Nat → Res (List D)
  | [] => .ok []
  | k :: l => match P k with
    | .ok true => match B k with
      | .ok d => (filR P B l).bind fun r => .ok (d :: r)
      | _ => .fail
    | .ok false => filR P B l
    | _ => .fail
def seqF (n : Int) (P : Int → Res Bool) (B : Int → Res D) : Res (List D) := filR (fun k => P (k : Int)) (fun k => B (k : Int)) (List.range n.toNat)
theorem filR_cg {P P' : Nat → Res Bool} {B B' : Nat → Res D} : ∀ {l : List Nat}, (∀ k ∈ l, P k = P' k) → (∀ k ∈ l, B k = B' k) → filR P B l = filR P' B' l
  | [], _, _ => rfl
  | k :: l, h, h2 => by
    unfold filR
    rw [h k List.mem_cons_self, h2 k List.mem_cons_self, filR_cg (fun j hj => h j (List.mem_cons_of_mem _ hj)) fun j hj => h2 j (List.mem_cons_of_mem _ hj)]
theorem filR_ok {p : Nat → Bool} {g : Nat → D} : ∀ {l : List Nat}, filR (fun k => .ok (p k)) (fun k => .ok (g k)) l = .ok ((l.filter p).map g)
  | [] => rfl
  | k :: l => by
    unfold filR
    dsimp only
    rw [filR_ok]
    cases h : p k <;> simp [h]
@[simp] theorem seqF_ok {n : Int} {p : Int → Bool} {g : Int → D} : seqF n (fun i => gd (0 ≤ i ∧ i < n) fun _ => .ok (p i)) (fun i => gd (0 ≤ i ∧ i < n) fun _ => .ok (g i)) = .ok (ftab n p g) := by
  unfold seqF
  have hr : ∀ k ∈ List.range n.toNat, 0 ≤ (k : Int) ∧ (k : Int) < n := fun k hk => by
    have := List.mem_range.mp hk
    omega
  rw [filR_cg (P' := fun k => .ok (p (k : Int))) (B' := fun k => .ok (g (k : Int))) (fun k hk => gd_pos (hr k hk)) fun k hk => gd_pos (hr k hk), filR_ok]
  rfl
def tssE (G : Glb) (l : List TC) (Γ : Env) : Res Bool := tss G l Γ
@[simp] theorem tssE_eq {G : Glb} {l : List TC} {Γ : Env} : tssE G l Γ = tss G l Γ := rfl
@[simp] theorem comp_ftab {G : Glb} {Γ : Env} {t : TG} {m : Nat} {n : Int} {c : TC} {cs : List TC} {e : EC} {F : Int → D} : compG G t (c :: cs) m e Γ (tab n F) = nxR (seqF n (fun i => gd (0 ≤ i ∧ i < n) fun _ => (asgT t (F i, 0) Γ).bind (tssE G (c :: cs))) (fun i => gd (0 ≤ i ∧ i < n) fun _ => (asgT t (F i, 0) Γ).bind (c1E m G e))) := by
  unfold seqF
  have hr : ∀ k ∈ List.range n.toNat, 0 ≤ (k : Int) ∧ (k : Int) < n := fun k hk => by
    have := List.mem_range.mp hk
    omega
  rw [filR_cg (P' := fun k => (asgT t (F (k : Int), 0) Γ).bind (tssE G (c :: cs))) (B' := fun k => (asgT t (F (k : Int), 0) Γ).bind (c1E m G e)) (fun k hk => gd_pos (hr k hk)) fun k hk => gd_pos (hr k hk)]
  unfold tab compG
  generalize List.range n.toNat = l
  induction l with
  | nil => rfl
  | cons a l ih =>
    simp only [List.map_cons, compAll, filR]
    cases h : asgT t (F (a : Int), 0) Γ with
    | ok Γ1 =>
      simp only [Res.bind_ok, tssE_eq, c1E_eq]
      cases h3 : tss G (c :: cs) Γ1 with
      | ok b =>
        cases b with
        | false => exact ih
        | true =>
          dsimp only
          cases h2 : ev G e Γ1 with
          | ok cc =>
            obtain ⟨d, k⟩ := cc
            by_cases q : m = 0 ∨ k = m
            · rw [show one1 m (.ok (d, k)) = .ok [d] from if_pos q, show c1 m (.ok (d, k)) = .ok d from if_pos q]
              dsimp only
              rw [ih]
              cases filR (fun k => (asgT t (F (k : Int), 0) Γ).bind (tssE G (c :: cs))) (fun k => (asgT t (F (k : Int), 0) Γ).bind (c1E m G e)) l <;> rfl
            · rw [show one1 m (.ok (d, k)) = .fail from if_neg q, show c1 m (.ok (d, k)) = .fail from if_neg q]
              rfl
          | exc c ns ds => rfl
          | fail => rfl
      | exc c ns ds => rfl
      | fail => rfl
    | exc c ns ds => rfl
    | fail => rfl
/-- a comprehension over a few things -/
def consC (a : Res D) (r : Res (List D)) : Res (List D) := match a with
  | .ok d => r.bind fun l => .ok (d :: l)
  | _ => .fail
@[simp] theorem consC_ok {d : D} {l : List D} : consC (.ok d) (.ok l) = .ok (d :: l) := rfl
@[simp] theorem comp_cons {G : Glb} {Γ : Env} {t : TG} {m : Nat} {e : EC} {x : D} {l : List D} : compG G t [] m e Γ (x :: l) = consC ((asgT t (x, 0) Γ).bind (c1E m G e)) (compG G t [] m e Γ l) := by
  unfold compG
  conv => lhs; unfold compAll
  cases asgT t (x, 0) Γ with
  | ok Γ1 =>
    simp only [Res.bind_ok, c1E_eq, tss_nil]
    cases ev G e Γ1 with
    | ok cc =>
      obtain ⟨d, k⟩ := cc
      by_cases q : m = 0 ∨ k = m
      · rw [show one1 m (.ok (d, k)) = .ok [d] from if_pos q, show c1 m (.ok (d, k)) = .ok d from if_pos q]
        rfl
      · rw [show one1 m (.ok (d, k)) = .fail from if_neg q, show c1 m (.ok (d, k)) = .fail from if_neg q]
        rfl
    | exc c ns ds => rfl
    | fail => rfl
  | exc c ns ds => rfl
  | fail => rfl
def finR : Out → Res (D × Nat)
  | .nx _ => .ok (.non, 0)
  | .ret d n => .ok (d, n)
  | .exc c ns es _ => .exc c ns es
  | _ => .fail
@[simp] theorem finR_nx {Γ : Env} : finR (.nx Γ) = .ok (.non, 0) := rfl
@[simp] theorem finR_ret {d : D} {n : Nat} : finR (.ret d n) = .ok (d, n) := rfl
@[simp] theorem finR_exc {c ns es Γ} : finR (.exc c ns es Γ) = .exc c ns es := rfl
def finI (cls : String) (me : Nat) : Out → Res (D × Nat)
  | .nx Γ => match Γ.head? with
    | some (some (.slf c b ns es, 1)) => if b = me ∧ c = cls then .ok (.ins c ns es, 0) else .fail
    | _ => .fail
  | .exc c ns es _ => .exc c ns es
  | _ => .fail
@[simp] theorem finI_nx {cls : String} {me : Nat} {c b ns es Γ} : finI cls me (.nx (some (.slf c b ns es, 1) :: Γ)) = if b = me ∧ c = cls then .ok (.ins c ns es, 0) else .fail := rfl
@[simp] theorem finI_exc {cls : String} {me : Nat} {c ns es Γ} : finI cls me (.exc c ns es Γ) = .exc c ns es := rfl
@[simp] theorem finI_fail {cls : String} {me : Nat} : finI cls me .fail = .fail := rfl
theorem mk_eq {G : Glb} {cls : String} {me a N : Nat} {c : SC} {ds : List D} (h : ds.length = a) : runMk G cls me a N c ds = finI cls me (ex G c (some (.slf cls me [] [], 1) :: (ds.map (fun d => some (d, 0)) ++ List.replicate (N - (a + 1)) none))) := by
  unfold runMk
  rw [if_pos h]
  show (match ex G c (some (.slf cls me [] [], 1) :: (ds.map (fun d => some (d, 0)) ++ List.replicate (N - (a + 1)) none)) with | .nx Γ => _ | .exc c ns es _ => _ | _ => _) = _
  cases ex G c (some (.slf cls me [] [], 1) :: (ds.map (fun d => some (d, 0)) ++ List.replicate (N - (a + 1)) none)) <;> rfl
theorem runI_eq {G : Glb} {cls : String} {N : List Str} {a : Nat} {c : SC} {ds : List D} (h : ds.length = a) : runKd G ⟨N, a, c, .mk cls⟩ ds = finI cls 0 (ex G c (some (.slf cls 0 [] [], 1) :: (ds.map (fun d => some (d, 0)) ++ List.replicate (N.length - (a + 1)) none))) := mk_eq h
theorem run_eq0 {G : Glb} {a N : Nat} {c : SC} {ds : List D} (h : ds.length = a) : runDef G a N c ds = finR (ex G c (ds.map (fun d => some (d, 0)) ++ List.replicate (N - a) none)) := by
  unfold runDef
  rw [if_pos h]
  cases ex G c (ds.map (fun d => some (d, 0)) ++ List.replicate (N - a) none) <;> rfl
theorem run_eq {G : Glb} {N : List Str} {a : Nat} {c : SC} {x : String} {ds : List D} (h : ds.length = a) : runKd G ⟨N, a, c, .fn x⟩ ds = finR (ex G c (ds.map (fun d => some (d, 0)) ++ List.replicate (N.length - a) none)) := run_eq0 h
theorem runH_eq {G : Glb} {N : List Str} {a : Nat} {c : SC} {x : String} {ds : List D} (h : ds.length = a) : runKd G ⟨N, a, c, .hot x⟩ ds = finR (ex G c (ds.map (fun d => some (d, 0)) ++ List.replicate (N.length - a) none)) := run_eq0 h
theorem runIb_eq {G : Glb} {cls : String} {N ps : List Str} {a : Nat} {c : SC} {ds : List D} (h : ds.length = a) : runKd G ⟨N, a, c, .mb cls ps⟩ ds = finI cls 0 (ex G c (some (.slf cls 0 [] [], 1) :: (ds.map (fun d => some (d, 0)) ++ List.replicate (N.length - (a + 1)) none))) := mk_eq h
theorem runB_eq {G : Glb} {N ps : List Str} {a : Nat} {c : SC} {x : String} {ds : List D} (h : ds.length = a) : runKd G ⟨N, a, c, .fb x ps⟩ ds = finR (ex G c (ds.map (fun d => some (d, 0)) ++ List.replicate (N.length - a) none)) := run_eq0 h
theorem runM_eq {G : Glb} {N : List Str} {a : Nat} {c : SC} {x m : String} {ds : List D} (h : ds.length = a) : runKd G ⟨N, a, c, .mt x m⟩ ds = finR (ex G c (ds.map (fun d => some (d, 0)) ++ List.replicate (N.length - a) none)) := run_eq0 h
def nthF (l : List (List D → Res (D × Nat))) (i : Nat) (ds : List D) : Res (D × Nat) := match l[i]? with
  | some φ => φ ds
  | none => .fail
@[simp] theorem kcallF_eq {g : Glb} {i : Nat} {ds zs : List (D × Nat)} : kcallF g i ds zs = nthF g.fns i (ds.map (·.1) ++ zs.map (·.1)) := rfl
@[simp] theorem callF_eq {g : Glb} {i : Nat} {ds : List (D × Nat)} : callF g i ds = nthF g.fns i (ds.map (·.1)) := rfl
@[simp] theorem mthC_eq {G : Glb} {c m : String} {i : Nat} {x : D} {ds : List (D × Nat)} (h : plainM m = true) : mthC G c m i x ds = nthF G.fns i (x :: ds.map (·.1)) := by
  unfold mthC nthF
  rw [h]
  rfl
theorem mthF_eq {G : Glb} {c m : String} {i : Nat} {r : Res (List (D × Nat))} {x : D} {n : Nat} (h : insOk c m x = true) : mthF G c m i r (x, n) = r.bind (mthC G c m i x) := if_pos h
@[simp ↓] theorem nthF_0 {φ : List D → Res (D × Nat)} {r : List (List D → Res (D × Nat))} {ds : List D} : nthF (φ :: r) 0 ds = φ ds := rfl
@[simp ↓] theorem nthF_s {φ : List D → Res (D × Nat)} {r : List (List D → Res (D × Nat))} {i : Nat} {ds : List D} : nthF (φ :: r) (i + 1) ds = nthF r i ds := rfl
/-! walks of for -/
def exE (G : Glb) (b : SC) (Γ : Env) : Out := ex G b Γ
@[simp] theorem exE_eq {G : Glb} {b : SC} {Γ : Env} : exE G b Γ = ex G b Γ := rfl
def okO (P : Env → Prop) : Out → Prop
  | .nx Γ => P Γ
  | .cnt Γ => P Γ
  | _ => False
@[simp] theorem okO_nx {P Γ} : okO P (.nx Γ) ↔ P Γ := .rfl
@[simp] theorem okO_cnt {P Γ} : okO P (.cnt Γ) ↔ P Γ := .rfl
theorem okO_ex {P : Env → Prop} {o : Out} (h : okO P o) : ∃ Γ, (o = .nx Γ ∨ o = .cnt Γ) ∧ P Γ := by
  cases o with
  | nx Γ => exact ⟨Γ, .inl rfl, h⟩
  | cnt Γ => exact ⟨Γ, .inr rfl, h⟩
  | ret d n => exact h.elim
  | brk Γ => exact h.elim
  | exc c ns ds Γ => exact h.elim
  | fail => exact h.elim
theorem for_tab {asg : D → Env → Res Env} {body : Env → Out} {F : Int → D} {n : Int} (I : Int → Env → Prop) {Γ : Env} (hn : 0 ≤ n) (h0 : I 0 Γ) (st : ∀ i Γ, 0 ≤ i → i < n → I i Γ → okO (I (i + 1)) ((asg (F i) Γ).out Γ body)) : ∃ Γ', forRun asg body (tab n F) Γ = .nx Γ' ∧ I n Γ' := by
  obtain ⟨m, rfl⟩ : ∃ m : Nat, n = m := ⟨n.toNat, by omega⟩
  have key : ∀ (l k : Nat) (Γ : Env), k + l = m → I k Γ → ∃ Γ', forRun asg body ((List.range' k l).map fun (j : Nat) => F (j : Int)) Γ = .nx Γ' ∧ I m Γ' := by
    intro l
    induction l with
    | zero => intro k Γ e h; exact ⟨Γ, rfl, by rw [← e]; exact h⟩
    | succ l ih =>
      intro k Γ e h
      obtain ⟨Γ2, q, h2⟩ := okO_ex (st k Γ (by omega) (by omega) h)
      obtain ⟨Γ3, e3, h3⟩ := ih (k + 1) Γ2 (by omega) (by push_cast; exact h2)
      refine ⟨Γ3, ?_, h3⟩
      rw [List.range'_succ, List.map_cons]
      unfold forRun
      cases ha : asg (F k) Γ with
      | ok Γ1 =>
        rw [ha] at q
        simp only [Res.out_ok] at q
        dsimp only
        rcases q with q | q <;> rw [q] <;> exact e3
      | exc c ns ds => rw [ha] at q; rcases q with q | q <;> cases q
      | fail => rw [ha] at q; rcases q with q | q <;> cases q
  obtain ⟨Γ', h⟩ := key m 0 Γ (by omega) h0
  refine ⟨Γ', ?_⟩
  rw [show tab (m : Int) F = (List.range' 0 m).map fun (j : Nat) => F (j : Int) by simp [tab, List.range_eq_range']]
  exact h
theorem for_fin {G : Glb} {t : TG} {b k : SC} {F : Int → D} {n : Int} (I : Int → Env → Prop) {Γ : Env} {R : Res (D × Nat)} (hn : 0 ≤ n) (h0 : I 0 Γ) (st : ∀ i Γ, 0 ≤ i → i < n → I i Γ → okO (I (i + 1)) ((asgT t (F i, 0) Γ).out Γ (exE G b))) (hk : ∀ Γ', I n Γ' → finR (ex G k Γ') = R) : finR (thenG (forG G t b Γ (tab n F)) G k) = R := by
  obtain ⟨Γ', e, h⟩ := for_tab (asg := fun d Γ1 => asgT t (d, 0) Γ1) (body := fun Γ1 => ex G b Γ1) I hn h0 st
  unfold forG
  rw [e]; exact hk Γ' h
theorem for_fin2 {G : Glb} {t : TG} {b k : SC} {F : Int → D} {n : Int} (I : Int → Env → Prop) {Γ : Env} {R : Res (D × Nat) → Prop} (hn : 0 ≤ n) (h0 : I 0 Γ) (st : ∀ i Γ, 0 ≤ i → i < n → I i Γ → okO (I (i + 1)) ((asgT t (F i, 0) Γ).out Γ (exE G b))) (hk : ∀ Γ', I n Γ' → R (finR (ex G k Γ'))) : R (finR (thenG (forG G t b Γ (tab n F)) G k)) := by
  obtain ⟨Γ', e, h⟩ := for_tab (asg := fun d Γ1 => asgT t (d, 0) Γ1) (body := fun Γ1 => ex G b Γ1) I hn h0 st
  unfold forG
  rw [e]; exact hk Γ' h
theorem for_ok {G : Glb} {t : TG} {b k : SC} {F : Int → D} {n : Int} (I : Int → Env → Prop) {Γ : Env} {J : Env → Prop} (hn : 0 ≤ n) (h0 : I 0 Γ) (st : ∀ i Γ, 0 ≤ i → i < n → I i Γ → okO (I (i + 1)) ((asgT t (F i, 0) Γ).out Γ (exE G b))) (hk : ∀ Γ', I n Γ' → okO J (ex G k Γ')) : okO J (thenG (forG G t b Γ (tab n F)) G k) := by
  obtain ⟨Γ', e, h⟩ := for_tab (asg := fun d Γ1 => asgT t (d, 0) Γ1) (body := fun Γ1 => ex G b Γ1) I hn h0 st
  unfold forG
  rw [e]; exact hk Γ' h
theorem for_exc {G : Glb} {t : TG} {b k : SC} {F : Int → D} {n a : Int} {c : String} {ns : List String} {ds : List D} (I : Int → Env → Prop) {Γ : Env} (ha0 : 0 ≤ a) (ha : a < n) (h0 : I 0 Γ) (st : ∀ i Γ, 0 ≤ i → i < a → I i Γ → okO (I (i + 1)) ((asgT t (F i, 0) Γ).out Γ (exE G b)))
    (hx : ∀ Γ, I a Γ → ∃ Γ', (asgT t (F a, 0) Γ).out Γ (exE G b) = .exc c ns ds Γ' ∧ (asgT t (F a, 0) Γ).bind (fun _ => .ok ()) = .ok ()) : ∃ Γ', thenG (forG G t b Γ (tab n F)) G k = .exc c ns ds Γ' := by
  obtain ⟨m, rfl⟩ : ∃ m : Nat, n = m := ⟨n.toNat, by omega⟩
  obtain ⟨a', rfl⟩ : ∃ a' : Nat, a = a' := ⟨a.toNat, by omega⟩
  have key : ∀ (l k : Nat) (Γ : Env), k + l = a' → I k Γ → ∃ Γ', forRun (fun d Γ1 => asgT t (d, 0) Γ1) (fun Γ1 => ex G b Γ1) ((List.range' k (m - k)).map fun (j : Nat) => F (j : Int)) Γ = .exc c ns ds Γ' := by
    intro l
    induction l with
    | zero =>
      intro k Γ e h
      have e : k = a' := by omega
      subst e
      obtain ⟨Γ', q, q2⟩ := hx Γ h
      obtain ⟨r, er⟩ : ∃ r, m - k = r + 1 := ⟨m - k - 1, by omega⟩
      refine ⟨Γ', ?_⟩
      rw [er, List.range'_succ, List.map_cons]
      unfold forRun
      cases hq : asgT t (F k, 0) Γ with
      | ok Γ1 =>
        rw [hq] at q
        simp only [Res.out_ok, exE_eq] at q
        dsimp only
        rw [q]
      | exc c ns ds => rw [hq] at q2; cases q2
      | fail => rw [hq] at q2; cases q2
    | succ l ih =>
      intro k Γ e h
      obtain ⟨Γ2, q, h2⟩ := okO_ex (st k Γ (by omega) (by omega) h)
      obtain ⟨Γ3, e3⟩ := ih (k + 1) Γ2 (by omega) (by push_cast; exact h2)
      refine ⟨Γ3, ?_⟩
      obtain ⟨r, er⟩ : ∃ r, m - k = r + 1 := ⟨m - k - 1, by omega⟩
      have er2 : m - (k + 1) = r := by omega
      rw [er2] at e3
      rw [er, List.range'_succ, List.map_cons]
      unfold forRun
      cases hq : asgT t (F k, 0) Γ with
      | ok Γ1 =>
        rw [hq] at q
        simp only [Res.out_ok, exE_eq] at q
        dsimp only
        rcases q with q | q <;> rw [q] <;> exact e3
      | exc c ns ds => rw [hq] at q; rcases q with q | q <;> cases q
      | fail => rw [hq] at q; rcases q with q | q <;> cases q
  obtain ⟨Γ', h⟩ := key a' 0 Γ (by omega) h0
  refine ⟨Γ', ?_⟩
  unfold forG
  rw [show tab (m : Int) F = (List.range' 0 (m - 0)).map fun (j : Nat) => F (j : Int) by simp [tab, List.range_eq_range'], h]
  rfl
/-! a walk over a few things -/
def nextF (G : Glb) (t : TG) (b : SC) (l : List D) : Out → Out
  | .nx Γ2 => forG G t b Γ2 l
  | .cnt Γ2 => forG G t b Γ2 l
  | .brk Γ2 => .nx Γ2
  | o => o
section
variable {G : Glb} {t : TG} {k : SC} {l : List D} {Γ : Env}
@[simp] theorem nextF_nx : nextF G t k l (.nx Γ) = forG G t k Γ l := rfl
@[simp] theorem nextF_cnt : nextF G t k l (.cnt Γ) = forG G t k Γ l := rfl
@[simp] theorem nextF_brk : nextF G t k l (.brk Γ) = .nx Γ := rfl
@[simp] theorem nextF_ret {d n} : nextF G t k l (.ret d n) = .ret d n := rfl
@[simp] theorem nextF_exc {c ns ds} : nextF G t k l (.exc c ns ds Γ) = .exc c ns ds Γ := rfl
end
def fasO (a : Res Env) (G : Glb) (b : SC) : Out := match a with
  | .ok Γ1 => ex G b Γ1
  | _ => .fail
@[simp] theorem fasO_ok {G f Γ} : fasO (.ok Γ) G f = ex G f Γ := rfl
@[simp] theorem for_cons {t : TG} {G : Glb} {b : SC} {x : D} {l : List D} {Γ} : forG G t b Γ (x :: l) = nextF G t b l (fasO (asgT t (x, 0) Γ) G b) := by
  unfold forG
  conv => lhs; unfold forRun
  cases asgT t (x, 0) Γ with
  | ok Γ1 => 
    show _ = nextF G t b l (ex G b Γ1)
    cases h : ex G b Γ1 <;> simp [h, nextF, forG]
  | exc c ns ds => rfl
  | fail => rfl
end Ev
/-! Pn: vectors and matrices of whole numbers. -/
namespace Ev
open PySem PySem.Spec L2
def vec (b : Bool) (n : Int) (f : Int → Int) : D := sq b (tab n fun i => .int (f i))
def mat (b b2 : Bool) (r c : Int) (A : Int → Int → Int) : D := sq b (tab r fun i => vec b2 c (A i))
section
variable {b b2 : Bool} {n r c : Int} {f : Int → Int} {A : Int → Int → Int} {k : Nat}
@[simp] theorem vec_l : D.lst (tab n fun i => .int (f i)) = vec false n f := rfl
@[simp] theorem vec_t : D.tup (tab n fun i => .int (f i)) = vec true n f := rfl
@[simp] theorem mat_l : D.lst (tab r fun i => vec b2 c (A i)) = mat false b2 r c A := rfl
@[simp] theorem mat_t : D.tup (tab r fun i => vec b2 c (A i)) = mat true b2 r c A := rfl
theorem vec_cg {m : Int} {g : Int → Int} (e : n = m) (h : ∀ i, 0 ≤ i → i < m → f i = g i) : vec b n f = vec b m g := by
  unfold vec; rw [tab_cg e fun i h1 h2 => by rw [h i h1 h2]]
theorem mat_cg {r' c' : Int} {B : Int → Int → Int} (e : r = r') (e2 : c = c') (h : ∀ i, 0 ≤ i → i < r' → ∀ j, 0 ≤ j → j < c' → A i j = B i j) : mat b b2 r c A = mat b b2 r' c' B := by
  unfold mat; rw [tab_cg e fun i h1 h2 => vec_cg e2 (h i h1 h2)]
@[simp] theorem len_vec (h : 0 ≤ n) : biD .len [(vec b n f, k)] = .ok (.int n, 0) := by rw [vec, len_sq, tab_leni h]
@[simp] theorem len_mat (h : 0 ≤ r) : biD .len [(mat b b2 r c A, k)] = .ok (.int r, 0) := by rw [mat, len_sq, tab_leni h]
@[simp] theorem seq_vec0 {fz : Bool} : seqItems fz (vec b n f, 0) = .ok (tab n fun i => .int (f i)) := seq_sq (.inl rfl)
@[simp] theorem seq_vec1 : seqItems false (vec b n f, 1) = .ok (tab n fun i => .int (f i)) := seq_sq (.inr ⟨rfl, Nat.le_refl _⟩)
@[simp] theorem seq_mat0 {fz : Bool} : seqItems fz (mat b b2 r c A, 0) = .ok (tab r fun i => vec b2 c (A i)) := seq_sq (.inl rfl)
@[simp] theorem seq_mat1 : seqItems false (mat b b2 r c A, 1) = .ok (tab r fun i => vec b2 c (A i)) := seq_sq (.inr ⟨rfl, Nat.le_refl _⟩)
@[simp] theorem tuple_vec (h : k ≤ 1) : biD .tuple [(vec b n f, k)] = .ok (vec true n f, 0) := tup_sq h
@[simp] theorem tuple_mat (h : k ≤ 1) : biD .tuple [(mat b b2 r c A, k)] = .ok (mat true b2 r c A, 0) := tup_sq h
@[simp] theorem list_vec (h : k ≤ 1) : biD .list [(vec b n f, k)] = .ok (vec false n f, 1) := lst_sq h
@[simp] theorem idx_vec {i : Int} (h : 0 ≤ i) (h2 : i < n) : idxD (vec b n f, 0) (.int i) = .ok (.int (f i), 0) := by rw [vec, idx_sq, atI_tab h h2]; rfl
@[simp] theorem idx_mat {i : Int} (h : 0 ≤ i) (h2 : i < r) : idxD (mat b b2 r c A, 0) (.int i) = .ok (vec b2 c (A i), 0) := by rw [mat, idx_sq, atI_tab h h2]; rfl
theorem vec_succ (h : 0 ≤ n) : vec false (n + 1) f = D.lst ((tab n fun i => .int (f i)) ++ [.int (f n)]) := by show D.lst _ = _; rw [tab_succ h]
theorem mat_succ (h : 0 ≤ n) : mat false b2 (n + 1) c A = D.lst ((tab n fun i => vec b2 c (A i)) ++ [vec b2 c (A n)]) := by show D.lst _ = _; rw [tab_succ h]
@[simp] theorem appC_v {y : D × Nat} {Γ : Env} {i : Nat} (h : n < 16777216) : appC (.ok y) Γ i (vec false n f, 1) = .nx (Γ.set i (some (.lst ((tab n fun i => .int (f i)) ++ [y.1]), 1))) := appC_l (by rw [tab_len]; omega)
@[simp] theorem appC_m {y : D × Nat} {Γ : Env} {i : Nat} (h : r < 16777216) : appC (.ok y) Γ i (mat false b2 r c A, 1) = .nx (Γ.set i (some (.lst ((tab r fun i => vec b2 c (A i)) ++ [y.1]), 1))) := appC_l (by rw [tab_len]; omega)
@[simp] theorem add_mat1 {k k2 : Nat} (hk : k ≤ 1) (hk2 : k2 ≤ 1) (h : 0 ≤ r) (h2 : r < 16777216) : binD .add (mat false b2 r c A, k) (.lst [vec b2 c f], k2) = .ok (mat false b2 (r + 1) c (fun i => if i < r then A i else f), 1) := by
  show binD .add (.lst _, k) _ = _
  rw [add_l, if_pos ⟨hk, hk2, by simp only [tab_len, List.length_cons, List.length_nil]; unfold cap; omega⟩, tab_snoc h]
  unfold mat
  congr 3
  refine tab_cg rfl fun i _ _ => ?_
  dsimp only
  split <;> rfl
@[simp] theorem add_vec1 {k k2 : Nat} {x : Int} (hk : k ≤ 1) (hk2 : k2 ≤ 1) (h : 0 ≤ n) (h2 : n < 16777216) : binD .add (vec false n f, k) (.lst [.int x], k2) = .ok (vec false (n + 1) (fun i => if i < n then f i else x), 1) := by
  show binD .add (.lst _, k) _ = _
  rw [add_l, if_pos ⟨hk, hk2, by simp only [tab_len, List.length_cons, List.length_nil]; unfold cap; omega⟩, tab_snoc h]
  unfold vec
  congr 3
  refine tab_cg rfl fun i _ _ => ?_
  dsimp only
  split <;> rfl
@[simp] theorem part_nil : partOf [] = .ok none := rfl
@[simp] theorem part_one {i : Int} {n : Nat} : partOf [(.int i, n)] = .ok (some i) := rfl
theorem slc_sq {b : Bool} {l : List D} {k : Nat} {lo hi : Option Int} (hk : k ≤ 1) : slcD (sq b l, k) lo hi = .ok (sq b (cutD l lo hi), if b then 0 else 1) := by
  cases b
  · exact if_pos hk
  · rfl
theorem cut_min {F : Int → D} {j : Int} (h : 0 ≤ j) (hn : 0 ≤ n) : cutD (tab n F) none (some j) = tab (if j ≤ n then j else n) F := by
  split
  · exact cut_hi h (by omega)
  · obtain ⟨a, rfl⟩ : ∃ a : Nat, j = a := ⟨j.toNat, by omega⟩
    have e1 : HT.sIx (tab n F).length 0 none = 0 := rfl
    have e2 : HT.sIx (tab n F).length (tab n F).length (some (a : Int)) = n.toNat := by
      simp only [HT.sIx, tab_len]
      rw [if_neg (by omega)]
      omega
    unfold cutD
    rw [e2, e1, List.drop_zero, Nat.sub_zero, List.take_of_length_le (by rw [tab_len]; omega)]
@[simp] theorem slc_mat_hi {k : Nat} {j : Int} (hk : k ≤ 1) (h : 0 ≤ j) (hn : 0 ≤ r) : slcD (mat b b2 r c A, k) none (some j) = .ok (mat b b2 (if j ≤ r then j else r) c A, if b then 0 else 1) := by
  unfold mat; rw [slc_sq hk, cut_min h hn]
@[simp] theorem slc_vec_hi {k : Nat} {j : Int} (hk : k ≤ 1) (h : 0 ≤ j) (hn : 0 ≤ n) : slcD (vec b n f, k) none (some j) = .ok (vec b (if j ≤ n then j else n) f, if b then 0 else 1) := by
  unfold vec; rw [slc_sq hk, cut_min h hn]
@[simp] theorem slc_vec_lo {k : Nat} {j : Int} (hk : k ≤ 1) (h : 0 ≤ j) (hn : j ≤ n) : slcD (vec b n f, k) (some j) none = .ok (vec b (n - j) (fun i => f (i + j)), if b then 0 else 1) := by
  unfold vec; rw [slc_sq hk, cut_lo h hn]
@[simp] theorem slc_mat_lo {k : Nat} {j : Int} (hk : k ≤ 1) (h : 0 ≤ j) (hn : j ≤ r) : slcD (mat b b2 r c A, k) (some j) none = .ok (mat b b2 (r - j) c (fun i => A (i + j)), if b then 0 else 1) := by
  unfold mat; rw [slc_sq hk, cut_lo h hn]
@[simp] theorem slc_vec_both {k : Nat} {lo hi : Int} (hk : k ≤ 1) (h : 0 ≤ lo) (h1 : lo ≤ hi) (hn : hi ≤ n) : slcD (vec b n f, k) (some lo) (some hi) = .ok (vec b (hi - lo) (fun i => f (i + lo)), if b then 0 else 1) := by
  unfold vec; rw [slc_sq hk, cut_both h h1 hn]
theorem mul_lst {l : List D} {n m : Nat} {k : Int} : binD .mul (.lst l, n) (.int k, m) = if n ≤ 1 ∧ -(2 ^ 63) ≤ k ∧ k < 2 ^ 63 ∧ l.length * k.toNat ≤ cap then .ok (.lst (List.replicate k.toNat l).flatten, 1) else .fail := rfl
theorem mul_one {d : D} {n m : Nat} {k : Nat} (h : n ≤ 1) (hk : k ≤ 100000) : binD .mul (.lst [d], n) (.int (k : Int), m) = .ok (.lst (List.replicate k d), 1) := by
  rw [mul_lst, if_pos ⟨h, by omega, by omega, by simp [cap]; omega⟩, Int.toNat_natCast]
  congr 3
  clear hk
  induction k with
  | zero => rfl
  | succ n ih => rw [List.replicate_succ, List.flatten_cons, ih, List.replicate_succ]; rfl
@[simp] theorem bare_mat : D.lst (tab r fun _ => D.lst []) = mat false false r 0 fun _ _ => 0 := rfl
def sumN (n : Int) (f : Int → Int) : Int := ((List.range n.toNat).map fun (k : Nat) => f (k : Int)).sum
theorem sumN_congr {m : Int} {g : Int → Int} (e : n = m) (h : ∀ i, 0 ≤ i → i < m → f i = g i) : sumN n f = sumN m g := by
  subst e
  unfold sumN
  congr 1
  refine List.map_congr_left fun i hi => h i (by omega) ?_
  have := List.mem_range.mp hi
  omega
@[simp] theorem sum_vec (h : k ≤ 1) : biD .sum [(vec false n f, k)] = .ok (.int (sumN n f), 0) := by
  show ints1 k (.lst (tab n fun i => .int (f i))) _ = _
  rw [ints1, if_pos h, show (tab n fun i => D.int (f i)) = ((List.range n.toNat).map fun (k : Nat) => f (k : Int)).map .int by simp [tab], intsD_map]
  rfl
theorem add_vec {m : Int} {g : Int → Int} {b : Bool} {k2 : Nat} (hn : 0 ≤ n) (hm : 0 ≤ m) : tab n (fun i => D.int (f i)) ++ tab m (fun i => D.int (g i)) = tab (n + m) fun i => .int (if i < n then f i else g (i - n)) := by
  refine List.ext_getElem? fun j => ?_
  rw [List.getElem?_append, tab_len]
  split
  · rw [tab_get (by omega), tab_get (by omega), if_pos (by omega)]
  · by_cases q : (j : Int) < n + m
    · rw [tab_get (by omega), tab_get (by omega), if_neg (by omega)]
      congr 3; omega
    · rw [List.getElem?_eq_none (by rw [tab_len]; omega), List.getElem?_eq_none (by rw [tab_len]; omega)]
end
theorem atI_neg1 {α : Type} {l : List α} (h : l ≠ []) : atI l (-1) = l[l.length - 1]? := by
  have h1 : 0 < l.length := List.length_pos_iff.mpr h
  unfold atI ixN
  rw [if_neg (by omega), if_pos (by omega)]
  show l[_]? = _
  congr 1
  omega
section
variable {α : Type} {x y z u : α} {l : List α}
@[simp] theorem atI_0 : atI (x :: l) 0 = some x := atI_nat (k := 0)
@[simp] theorem atI_1 : atI (x :: y :: l) 1 = some y := atI_nat (k := 1)
@[simp] theorem atI_2 : atI (x :: y :: z :: l) 2 = some z := atI_nat (k := 2)
@[simp] theorem atI_3 : atI (x :: y :: z :: u :: l) 3 = some u := atI_nat (k := 3)
end
section
variable {cl : List String} {sb : String → String → Bool} {t : String} {b b2 : Bool} {n r c : Int} {f : Int → Int} {A : Int → Int → Int}
@[simp] theorem knows_int {i : Int} : knows cl (.int i) = true := rfl
@[simp] theorem knows_bl {i : Bool} : knows cl (.bl i) = true := rfl
@[simp] theorem knows_non : knows cl .non = true := rfl
@[simp] theorem knows_tup {l : List D} : knows cl (.tup l) = true := rfl
@[simp] theorem knows_lst {l : List D} : knows cl (.lst l) = true := rfl
@[simp] theorem knows_sq {l : List D} : knows cl (sq b l) = true := by cases b <;> rfl
@[simp] theorem knows_vec : knows cl (vec b n f) = true := knows_sq
@[simp] theorem knows_mat : knows cl (mat b b2 r c A) = true := knows_sq
@[simp] theorem isT_int {i : Int} : isT sb (.int i) t = (t == "int") := rfl
@[simp] theorem isT_bl {i : Bool} : isT sb (.bl i) t = (t == "bool" || t == "int") := rfl
@[simp] theorem isT_non : isT sb .non t = false := rfl
@[simp] theorem isT_tup {l : List D} : isT sb (.tup l) t = (t == "tuple") := rfl
@[simp] theorem isT_lst {l : List D} : isT sb (.lst l) t = (t == "list") := rfl
@[simp] theorem isT_vect : isT sb (vec true n f) t = (t == "tuple") := rfl
@[simp] theorem isT_vecl : isT sb (vec false n f) t = (t == "list") := rfl
@[simp] theorem isT_matt : isT sb (mat true b2 r c A) t = (t == "tuple") := rfl
@[simp] theorem isT_matl : isT sb (mat false b2 r c A) t = (t == "list") := rfl
end
/-! equal data -/
theorem isPyL_all {k : Nat} : ∀ {l : List D}, (∀ d ∈ l, isPy k d = true) → isPyL k l = true
  | [], _ => by unfold isPyL; rfl
  | d :: l, h => by
    unfold isPyL
    rw [h d List.mem_cons_self, isPyL_all fun e he => h e (List.mem_cons_of_mem _ he)]; rfl
@[simp] theorem isPy_int {k : Nat} {i : Int} : isPy k (.int i) = true := by cases k <;> rfl
@[simp] theorem isPy_bl {k : Nat} {i : Bool} : isPy k (.bl i) = true := by cases k <;> rfl
@[simp] theorem isPy_str {k : Nat} {s : Str} : isPy k (.str s) = PyData.strOk s := by cases k <;> rfl
@[simp] theorem isPy_non {k : Nat} : isPy k .non = true := by cases k <;> rfl
theorem isPy_tup {k : Nat} {l : List D} : isPy (k + 1) (.tup l) = isPyL k l := by simp only [isPy]
theorem isPy_lst {k : Nat} {l : List D} : isPy (k + 1) (.lst l) = isPyL k l := by simp only [isPy]
theorem isPy_sq {b : Bool} {k : Nat} {l : List D} : isPy (k + 1) (sq b l) = isPyL k l := by cases b; exact isPy_lst; exact isPy_tup
theorem isPyL_tab {k : Nat} {n : Int} {f : Int → D} (h : ∀ i, isPy k (f i) = true) : isPyL k (tab n f) = true := isPyL_all fun d hd => by
  obtain ⟨i, _, rfl⟩ := List.mem_map.mp hd
  exact h _
@[simp] theorem isPy_vec {b : Bool} {k : Nat} {n : Int} {f : Int → Int} : isPy (k + 1) (vec b n f) = true := by rw [vec, isPy_sq]; exact isPyL_tab fun _ => isPy_int
@[simp] theorem isPy_mat {b b2 : Bool} {k : Nat} {r c : Int} {A : Int → Int → Int} : isPy (k + 2) (mat b b2 r c A) = true := by rw [mat, isPy_sq]; exact isPyL_tab fun _ => isPy_vec
@[simp] theorem isPyL_nil {k : Nat} : isPyL k [] = true := by unfold isPyL; rfl
@[simp] theorem isPyL_consP {k : Nat} {d : D} {l : List D} : isPyL k (d :: l) = (isPy k d && isPyL k l) := by rw [isPyL]
@[simp] theorem isPy_tupS {k : Nat} {l : List D} : isPy (k + 1) (.tup l) = isPyL k l := isPy_tup
@[simp] theorem isPy_lstS {k : Nat} {l : List D} : isPy (k + 1) (.lst l) = isPyL k l := isPy_lst
/-- the same data -/
def deq (a b : D) : Bool := PyData.eqv (py a) (py b)
def deqL (a b : List D) : Bool := PyData.eqvAll (pyL a) (pyL b)
@[simp] theorem eqD_ok {a b : D} (h : isPy 60 a = true) (h2 : isPy 60 b = true) : eqD a b = .ok (deq a b) := by
  unfold eqD deq; rw [h, h2]; rfl
@[simp] theorem deq_int {i j : Int} : deq (.int i) (.int j) = decide (i = j) := by
  simp only [deq, py, PyData.eqv]; rfl
@[simp] theorem deq_bl {i j : Bool} : deq (.bl i) (.bl j) = (i == j) := by simp only [deq, py, PyData.eqv]
@[simp] theorem deq_tup {l m : List D} : deq (.tup l) (.tup m) = deqL l m := by simp only [deq, deqL, py, PyData.eqv]
@[simp] theorem deq_lst {l m : List D} : deq (.lst l) (.lst m) = deqL l m := by simp only [deq, deqL, py, PyData.eqv]
@[simp] theorem deq_tl {l m : List D} : deq (.tup l) (.lst m) = false := by simp only [deq, py, PyData.eqv]
@[simp] theorem deq_lt {l m : List D} : deq (.lst l) (.tup m) = false := by simp only [deq, py, PyData.eqv]
@[simp] theorem deq_nt {m : List D} : deq .non (.tup m) = false := by simp only [deq, py, PyData.eqv]
@[simp] theorem deq_tn {m : List D} : deq (.tup m) .non = false := by simp only [deq, py, PyData.eqv]
@[simp] theorem deqL_nil : deqL [] [] = true := by simp only [deqL, pyL, PyData.eqvAll]
@[simp] theorem deqL_nc {d : D} {l : List D} : deqL [] (d :: l) = false := by simp only [deqL, pyL, PyData.eqvAll]
@[simp] theorem deqL_cn {d : D} {l : List D} : deqL (d :: l) [] = false := by simp only [deqL, pyL, PyData.eqvAll]
@[simp] theorem deqL_cons {d e : D} {l m : List D} : deqL (d :: l) (e :: m) = (deq d e && deqL l m) := by simp only [deqL, deq, pyL, PyData.eqvAll]
mutual
theorem pyv_refl : ∀ d : D, PyData.eqv (py d) (py d) = true
  | .non => by simp only [py, PyData.eqv]
  | .bl b => by simp [py, PyData.eqv]
  | .int i => by simp [py, PyData.eqv]
  | .str x => by simp [py, PyData.eqv]
  | .lst xs => by rw [py, PyData.eqv]; exact pyv_reflL xs
  | .tup xs => by rw [py, PyData.eqv]; exact pyv_reflL xs
  | .ro xs => by simp only [py, PyData.eqv]
  | .rot xs => by simp only [py, PyData.eqv]
  | .ins _ _ _ => by simp only [py, PyData.eqv]
  | .dic _ _ _ => by simp only [py, PyData.eqv]
  | .exn _ _ _ => by simp only [py, PyData.eqv]
  | .slf _ _ _ _ => by simp only [py, PyData.eqv]
theorem pyv_reflL : ∀ xs : List D, PyData.eqvAll (pyL xs) (pyL xs) = true
  | [] => by simp only [pyL, PyData.eqvAll]
  | x :: xs => by rw [pyL, PyData.eqvAll, pyv_refl x, pyv_reflL xs]; rfl
end
@[simp] theorem deq_refl {d : D} : deq d d = true := pyv_refl d
@[simp] theorem deqL_refl {d : List D} : deqL d d = true := pyv_reflL d
end Ev
/-! P0: the two helpers that each law has. -/
namespace Ev
open PySem PySem.Spec L2
def cDig : DefC := ⟨[("cell" : Str), ("sizes" : Str), ("row" : Str), ("rest" : Str), ("limit" : Str), ("seed" : Str), ("k" : Str), ("twice" : Str)], 2, .seq (.asg (.nm 2) false (.lst 0 [])) (.seq (.asg (.nm 3) true (.bi .int [.var 0])) (.seq (.ife (.cmp .ge (.var 3) (.val (.bin .pow (.val (.lit (.int 10))) (.val (.lit (.int 18)))))) (.seq (.asg (.nm 3) true (.bin .sub (.var 3) (.val (.bin .pow (.val (.lit (.int 10))) (.val (.lit (.int 18))))))) (.seq (.for (.nm 4) (.seq (.var 1)) (.seq (.app 2 [] 0 (.bin .mod (.val (.bi .int [.var 3])) (.var 4))) (.seq (.asg (.nm 3) true (.bin .fdiv (.val (.bi .int [.var 3])) (.var 4))) (.skip)))) (.seq (.reto 2) (.skip)))) (.skip)) (.seq (.asg (.nm 5) true (.bin .mod (.val (.bi .int [.var 3])) (.val (.lit (.int 2147483629))))) (.seq (.for (.nm 6) (.rng [.bi .len [.var 1]]) (.seq (.asg (.nm 5) true (.bin .mod (.val (.bi .int [.val (.bin .add (.val (.bin .add (.val (.bin .mul (.var 5) (.val (.lit (.int 48271))))) (.val (.bin .mul (.val (.lit (.int 974711))) (.var 6))))) (.val (.lit (.int 12345))))])) (.val (.lit (.int 2147483647))))) (.seq (.asg (.nm 7) true (.bin .mod (.val (.bi .int [.val (.bin .mul (.var 5) (.val (.bin .add (.val (.bin .fdiv (.var 5) (.val (.lit (.int 65537))))) (.val (.lit (.int 3))))))])) (.val (.lit (.int 2147483629))))) (.seq (.app 2 [] 0 (.bin .mod (.val (.bin .fdiv (.var 7) (.val (.lit (.int 19))))) (.idx (.var 1) (.var 6)))) (.skip))))) (.seq (.reto 2) (.skip)))))), .fn "_law_digits"⟩
def cCell : DefC := ⟨[("script" : Str), ("k" : Str), ("seed" : Str), ("cell" : Str)], 2, .seq (.ife (.cmp .lt (.var 1) (.val (.bi .len [.var 0]))) (.seq (.ret (.bi .int [.idx (.var 0) (.var 1)])) (.skip)) (.skip)) (.seq (.asg (.nm 2) true (.lit (.int 17))) (.seq (.for (.nm 3) (.seq (.var 0)) (.seq (.asg (.nm 2) true (.bin .mod (.val (.bi .int [.val (.bin .add (.val (.bin .mul (.var 2) (.val (.lit (.int 31))))) (.val (.bin .mod (.val (.bi .int [.var 3])) (.val (.lit (.int 1000003))))))])) (.val (.lit (.int 1000003))))) (.skip))) (.seq (.ret (.bin .mod (.val (.bi .int [.val (.bin .mul (.val (.bin .mul (.val (.bin .add (.var 2) (.val (.lit (.int 7))))) (.val (.bin .add (.var 1) (.val (.lit (.int 3))))))) (.val (.lit (.int 69621))))])) (.val (.lit (.int 2147483647))))) (.skip)))), .fn "_law_cell"⟩
/-- an environment with a list at its third place -/
theorem for_list {G : Glb} {t : TG} {b k : SC} {l : List D} (I : Nat → Env → Prop) {Γ : Env} {R : Res (D × Nat) → Prop} (h0 : I 0 Γ) (st : ∀ i x Γ, l[i]? = some x → I i Γ → okO (I (i + 1)) ((asgT t (x, 0) Γ).out Γ (exE G b))) (hk : ∀ Γ', I l.length Γ' → R (finR (ex G k Γ'))) : R (finR (thenG (forG G t b Γ l) G k)) := by
  have key : ∀ (m : List D) (k : Nat) (Γ : Env), (∀ i, m[i]? = l[k + i]?) → k + m.length = l.length → I k Γ → ∃ Γ', forG G t b Γ m = .nx Γ' ∧ I l.length Γ' := by
    intro m
    induction m with
    | nil => intro k Γ _ e h; exact ⟨Γ, rfl, by rw [← e]; exact h⟩
    | cons x m ih =>
      intro k Γ e1 e2 h
      have hx : l[k]? = some x := by rw [← Nat.add_zero k, ← e1 0]; rfl
      obtain ⟨Γ2, q, h2⟩ := okO_ex (st k x Γ hx h)
      obtain ⟨Γ3, e3, h3⟩ := ih (k + 1) Γ2 (fun i => by rw [Nat.add_assoc, Nat.add_comm 1 i, ← e1 (i + 1)]; rfl) (by rw [← e2, List.length_cons]; omega) h2
      refine ⟨Γ3, ?_, h3⟩
      rw [for_cons]
      cases ha : asgT t (x, 0) Γ with
      | ok Γ1 =>
        rw [ha] at q
        simp only [Res.out_ok, exE_eq] at q
        rw [fasO_ok]
        rcases q with q | q <;> rw [q] <;> exact e3
      | exc c ns ds => rw [ha] at q; rcases q with q | q <;> cases q
      | fail => rw [ha] at q; rcases q with q | q <;> cases q
  obtain ⟨Γ', e, h⟩ := key l 0 Γ (fun i => by rw [Nat.zero_add]) (by omega) h0
  rw [e]; exact hk Γ' h
theorem map_snoc {l : List Int} {i : Int} : (l.map D.int) ++ [.int i] = (l ++ [i]).map D.int := by simp
/-- the digits -/
structure DP (ns : List Int) (k : Nat) (rs : List Int) : Prop where
  len : rs.length = k
  rng : ∀ (i : Nat) (v : Int), rs[i]? = some v → 0 ≤ v ∧ ∀ n : Int, ns[i]? = some n → v < n
theorem fmod_rng {a b : Int} (h : 0 < b) : 0 ≤ a.fmod b ∧ a.fmod b < b := ⟨Int.fmod_nonneg_of_pos a h, Int.fmod_lt_of_pos a h⟩
theorem DP.nil {ns : List Int} : DP ns 0 [] := ⟨rfl, fun i v h => by cases h⟩
theorem DP.step {ns rs : List Int} {k : Nat} {n : Int} (d : DP ns k rs) (hn : ns[k]? = some n) (x : Int) (h0 : 0 < n) : DP ns (k + 1) (rs ++ [x.fmod n]) := by
  obtain ⟨h, hr⟩ := d
  refine ⟨by simp [h], fun i v e => ?_⟩
  rw [List.getElem?_append] at e
  split at e
  · exact hr i v e
  · have q : i = k := by
      have := (List.getElem?_eq_some_iff.mp e).1
      simp at this; omega
    subst q
    rw [h, Nat.sub_self] at e
    cases e
    refine ⟨(fmod_rng h0).1, fun n' e => ?_⟩
    rw [hn] at e; cases e
    exact (fmod_rng h0).2
@[simp high] theorem appC_i {rs : List Int} {y : Int} {k : Nat} {Γ : Env} {i : Nat} (h : (rs.length : Int) < 16777216) : appC (.ok (.int y, k)) Γ i (.lst (rs.map .int), 1) = .nx (Γ.set i (some (.lst ((rs ++ [y]).map .int), 1))) := by
  rw [appC_l (by simpa using h)]; simp
theorem pow_i {i j : Int} {n m : Nat} (h : 0 ≤ j ∧ j ≤ 1000000 ∧ i.natAbs < 2 ^ 64) : binD .pow (.int i, n) (.int j, m) = .ok (.int (i ^ j.toNat), 0) := if_pos h
theorem mulOk_r {i j : Int} (h : j.natAbs < 2 ^ 64) : mulOk i j := .inr (.inl h)
theorem mulOk_l {i j : Int} (h : i.natAbs < 2 ^ 64) : mulOk i j := .inl h
theorem digits_ok {G : Glb} {x : Int} {ns : List Int} (hp : ∀ (i : Nat) m, ns[i]? = some m → 0 < m ∧ m < 1000000000) (hl : ns.length ≤ 1000) : ∃ rs, DP ns ns.length rs ∧ finR (ex G cDig.code [some (.int x, 0), some (.lst (ns.map .int), 0), none, none, none, none, none, none]) = .ok (.lst (rs.map .int), 1) := by
  have e : (10 : Int) ^ (18 : Int).toNat = 1000000000000000000 := by decide
  by_cases q : 1000000000000000000 ≤ x
  · simp -implicitDefEqProofs (disch := first | omega | (simp <;> omega) | fail) [cDig, q, pow_i, e]
    refine for_list (R := fun r => ∃ rs, DP ns ns.length rs ∧ r = .ok (.lst (rs.map .int), 1)) (I := fun k Γ => ∃ (rs : List Int) (u : Int) (v w x y z : Cell), DP ns k rs ∧ Γ = [v, w, some (.lst (rs.map .int), 1), some (.int u, 0), x, y, z, none]) ⟨[], _, _, _, _, _, _, DP.nil, rfl⟩ (fun i d Γ hd ⟨rs, u, v, w, x, y, z, h, e⟩ => ?_) (fun Γ ⟨rs, u, v, w, x, y, z, h, e⟩ => ?_)
    rotate_left
    · subst e
      rw [List.length_map] at h
      simp -implicitDefEqProofs
      exact ⟨rs, h, rfl⟩
    · subst e
      obtain ⟨n, hn, rfl⟩ : ∃ n, ns[i]? = some n ∧ d = .int n := by
        rw [List.getElem?_map] at hd
        cases hx : ns[i]? with
        | none => rw [hx] at hd; cases hd
        | some n => rw [hx] at hd; cases hd; exact ⟨n, rfl, rfl⟩
      obtain ⟨p1, p2⟩ := hp i n hn
      have hlen : rs.length < 2000 := by
        have := (List.getElem?_eq_some_iff.mp hn).1
        have := h.len
        omega
      simp -implicitDefEqProofs (disch := first | omega | (simp <;> omega) | fail) [mod_i, fdiv_i]
      exact ⟨_, h.step hn u p1, by simp⟩
  · have e1 : ((ns.map D.int).length : Int) = (ns.length : Int) := by simp
    simp -implicitDefEqProofs (disch := first | omega | (simp <;> omega) | fail) [cDig, q, pow_i, e, mod_i, e1]
    suffices h : ∀ r : Res (D × Nat), (∃ rs, DP ns ns.length rs ∧ r = .ok (.lst (rs.map .int), 1)) → ∃ rs, DP ns ns.length rs ∧ r = .ok (.lst (rs.map .int), 1) from ?_
    · refine for_fin2 (R := fun r => ∃ rs, DP ns ns.length rs ∧ r = .ok (.lst (rs.map .int), 1)) (I := fun k Γ => ∃ (rs : List Int) (u : Int) (v w x y z : Cell), DP ns k.toNat rs ∧ 0 ≤ u ∧ u < 2147483647 ∧ Γ = [v, some (.lst (ns.map .int), 0), some (.lst (rs.map .int), 1), w, x, some (.int u, 0), y, z]) (by omega) ⟨[], _, _, _, _, _, _, DP.nil, (fmod_rng (by omega)).1, Int.lt_trans (fmod_rng (by omega)).2 (by omega), rfl⟩ (fun i Γ i0 i1 ⟨rs, u, v, w, x, y, z, h, u0, u1, e⟩ => ?_) (fun Γ ⟨rs, u, v, w, x, y, z, h, u0, u1, e⟩ => ?_)
      · subst e
        obtain ⟨k, rfl, hk⟩ : ∃ k : Nat, i = k ∧ k < ns.length := ⟨i.toNat, by omega, by omega⟩
        obtain ⟨n, hn⟩ : ∃ n, ns[k]? = some n := ⟨ns[k], List.getElem?_eq_getElem hk⟩
        obtain ⟨p1, p2⟩ := hp k n hn
        rw [Int.toNat_natCast] at h
        have hlen : rs.length < 2000 := by
          have := h.len
          omega
        have ei : atI (ns.map D.int) (k : Int) = some (.int n) := by rw [atI_nat, List.getElem?_map, hn]; rfl
        have ub : ∀ z : Int, (z.fmod 2147483647).natAbs < 2 ^ 64 := fun z => by
          have := fmod_rng (a := z) (b := 2147483647) (by omega)
          omega
        simp -implicitDefEqProofs (disch := first | omega | exact mulOk_r (by decide) | exact mulOk_l (by decide) | exact mulOk_l (ub _) | (simp <;> omega) | fail) [mod_i, fdiv_i, mul_i, ei]
        refine ⟨_, ?a, _, ?b, ?c, map_snoc, rfl⟩
        case a => exact h.step hn _ p1
        case b => exact (fmod_rng (by omega)).1
        case c => exact (fmod_rng (by omega)).2
      · subst e
        rw [Int.toNat_natCast] at h
        simp -implicitDefEqProofs
        exact ⟨rs, h, rfl⟩
    · exact fun r h => h
theorem cell_ok {G : Glb} {ns : List Int} {k : Nat} (hk : k < 1000) : ∃ x : Int, finR (ex G cCell.code [some (.ro (ns.map .int), 0), some (.int k, 0), none, none]) = .ok (.int x, 0) := by
  have e1 : ((ns.map D.int).length : Int) = (ns.length : Int) := by simp
  by_cases q : k < ns.length
  · have ei : atI (ns.map D.int) (k : Int) = some (.int ns[k]) := by rw [atI_nat, List.getElem?_map, List.getElem?_eq_getElem q]; rfl
    simp -implicitDefEqProofs (disch := first | omega | (simp <;> omega) | fail) [cCell, e1, ei, q]
  · simp -implicitDefEqProofs (disch := first | omega | (simp <;> omega) | fail) [cCell, e1]
    refine for_list (R := fun r => ∃ x : Int, r = .ok (.int x, 0)) (I := fun k' Γ => ∃ (u : Int) (v w : Cell), Γ = [v, some (.int k, 0), some (.int u, 0), w]) ⟨_, _, _, rfl⟩ (fun i d Γ hd ⟨u, v, w, e⟩ => ?_) (fun Γ ⟨u, v, w, e⟩ => ?_)
    · subst e
      obtain ⟨n, hn, rfl⟩ : ∃ n, ns[i]? = some n ∧ d = .int n := by
        rw [List.getElem?_map] at hd
        cases hx : ns[i]? with
        | none => rw [hx] at hd; cases hd
        | some n => rw [hx] at hd; cases hd; exact ⟨n, rfl, rfl⟩
      simp -implicitDefEqProofs (disch := first | omega | exact mulOk_r (by omega) | exact mulOk_l (by decide) | (simp <;> omega) | fail) [mod_i, fdiv_i, mul_i]
    · subst e
      simp -implicitDefEqProofs (disch := first | omega | exact mulOk_r (by omega) | exact mulOk_l (by decide) | (simp <;> omega) | fail) [mod_i, fdiv_i, mul_i]
/-! a code in two parts -/
def takeS : Nat → SC → SC
  | 0, _ => .skip
  | k + 1, .seq a b => .seq a (takeS k b)
  | _ + 1, c => c
def dropS : Nat → SC → SC
  | 0, c => c
  | k + 1, .seq _ b => dropS k b
  | _ + 1, _ => .skip
theorem ex_cut {G : Glb} : ∀ (k : Nat) (c : SC) {Γ : Env}, ex G c Γ = thenG (ex G (takeS k c) Γ) G (dropS k c)
  | 0, c, Γ => by rw [takeS, dropS, ex_skip, then_nx]
  | k + 1, c, Γ => by
    have triv : ∀ c : SC, ex G c Γ = thenG (ex G c Γ) G .skip := fun c => by
      cases ex G c Γ <;> first | rfl | (rw [then_nx, ex_skip])
    cases c with
    | seq a b =>
      rw [takeS, dropS, ex_seq, ex_seq]
      cases h : ex G a Γ with
      | nx Γ1 => rw [then_nx, then_nx]; exact ex_cut k b
      | ret d n => rfl
      | brk Γ => rfl
      | cnt Γ => rfl
      | exc c ns ds Γ => rfl
      | fail => rfl
    | _ => rw [takeS, dropS]; exact triv _; all_goals (intros; contradiction)
theorem lst_vec {rs : List Int} {n : Int} (h : (rs.length : Int) = n) : D.lst (rs.map .int) = vec false n fun i => rs.getD i.toNat 0 := by
  subst h
  show D.lst _ = D.lst _
  congr 1
  refine List.ext_getElem? fun j => ?_
  by_cases q : j < rs.length
  · rw [tab_get (by omega), List.getElem?_map, List.getElem?_eq_getElem q]
    simp [List.getD, q]
  · rw [List.getElem?_eq_none (by simpa using q), List.getElem?_eq_none (by rw [tab_len]; omega)]
theorem DP.at_ {ns rs : List Int} (d : DP ns ns.length rs) (i : Int) : 0 ≤ rs.getD i.toNat 0 ∧ ∀ n, 0 < n → (∀ m, ns[i.toNat]? = some m → m ≤ n) → rs.getD i.toNat 0 < n := by
  by_cases q : i.toNat < rs.length
  · have h := d.rng i.toNat _ (List.getElem?_eq_getElem q)
    have e : rs.getD i.toNat 0 = rs[i.toNat] := by simp [List.getD, q]
    rw [e]
    refine ⟨h.1, fun n h0 hn => ?_⟩
    have q2 : i.toNat < ns.length := by rw [← d.len]; exact q
    have h2 := h.2 _ (List.getElem?_eq_getElem q2)
    have h3 := hn _ (List.getElem?_eq_getElem q2)
    omega
  · have e : rs.getD i.toNat 0 = 0 := by simp [List.getD, q]
    rw [e]
    exact ⟨Int.le_refl _, fun n h0 _ => h0⟩
end Ev
/-! Pq: tables of pairs (the sides of a plan). -/
namespace Ev
open PySem PySem.Spec L2
def ptr (b : Bool) (n : Int) (o s : Int → Int) : D := sq b (tab n fun c => .tup [.int (o c), .int (s c)])
def pts (b b2 : Bool) (r n : Int) (o s : Int → Int → Int) : D := sq b (tab r fun k => ptr b2 n (o k) (s k))
section
variable {b b2 : Bool} {n r : Int} {o s : Int → Int} {O S : Int → Int → Int} {k : Nat}
@[simp] theorem ptr_l : D.lst (tab n fun c => .tup [.int (o c), .int (s c)]) = ptr false n o s := rfl
@[simp] theorem ptr_t : D.tup (tab n fun c => .tup [.int (o c), .int (s c)]) = ptr true n o s := rfl
@[simp] theorem pts_l : D.lst (tab r fun k => ptr b2 n (O k) (S k)) = pts false b2 r n O S := rfl
@[simp] theorem pts_t : D.tup (tab r fun k => ptr b2 n (O k) (S k)) = pts true b2 r n O S := rfl
@[simp] theorem len_ptr (h : 0 ≤ n) : biD .len [(ptr b n o s, k)] = .ok (.int n, 0) := by rw [ptr, len_sq, tab_leni h]
@[simp] theorem len_pts (h : 0 ≤ r) : biD .len [(pts b b2 r n O S, k)] = .ok (.int r, 0) := by rw [pts, len_sq, tab_leni h]
@[simp] theorem seq_ptr0 {fz : Bool} : seqItems fz (ptr b n o s, 0) = .ok (tab n fun c => .tup [.int (o c), .int (s c)]) := seq_sq (.inl rfl)
@[simp] theorem seq_ptr1 : seqItems false (ptr b n o s, 1) = .ok (tab n fun c => .tup [.int (o c), .int (s c)]) := seq_sq (.inr ⟨rfl, Nat.le_refl _⟩)
@[simp] theorem seq_pts0 {fz : Bool} : seqItems fz (pts b b2 r n O S, 0) = .ok (tab r fun k => ptr b2 n (O k) (S k)) := seq_sq (.inl rfl)
@[simp] theorem seq_pts1 : seqItems false (pts b b2 r n O S, 1) = .ok (tab r fun k => ptr b2 n (O k) (S k)) := seq_sq (.inr ⟨rfl, Nat.le_refl _⟩)
@[simp] theorem tuple_ptr (h : k ≤ 1) : biD .tuple [(ptr b n o s, k)] = .ok (ptr true n o s, 0) := tup_sq h
@[simp] theorem tuple_pts (h : k ≤ 1) : biD .tuple [(pts b b2 r n O S, k)] = .ok (pts true b2 r n O S, 0) := tup_sq h
@[simp] theorem list_ptr (h : k ≤ 1) : biD .list [(ptr b n o s, k)] = .ok (ptr false n o s, 1) := lst_sq h
@[simp] theorem idx_ptr {i : Int} (h : 0 ≤ i) (h2 : i < n) : idxD (ptr b n o s, 0) (.int i) = .ok (.tup [.int (o i), .int (s i)], 0) := by rw [ptr, idx_sq, atI_tab h h2]; rfl
@[simp] theorem idx_pts {i : Int} (h : 0 ≤ i) (h2 : i < r) : idxD (pts b b2 r n O S, 0) (.int i) = .ok (ptr b2 n (O i) (S i), 0) := by rw [pts, idx_sq, atI_tab h h2]; rfl
@[simp] theorem isPy_ptr {k : Nat} : isPy (k + 2) (ptr b n o s) = true := by rw [ptr, isPy_sq]; exact isPyL_tab fun _ => by simp
@[simp] theorem isPy_pts {k : Nat} : isPy (k + 3) (pts b b2 r n O S) = true := by rw [pts, isPy_sq]; exact isPyL_tab fun _ => isPy_ptr
variable {cl : List String} {sb : String → String → Bool} {t : String}
@[simp] theorem knows_ptr : knows cl (ptr b n o s) = true := knows_sq
@[simp] theorem knows_pts : knows cl (pts b b2 r n O S) = true := knows_sq
@[simp] theorem isT_ptrt : isT sb (ptr true n o s) t = (t == "tuple") := rfl
@[simp] theorem isT_ptrl : isT sb (ptr false n o s) t = (t == "list") := rfl
@[simp] theorem isT_ptst : isT sb (pts true b2 r n O S) t = (t == "tuple") := rfl
@[simp] theorem isT_ptsl : isT sb (pts false b2 r n O S) t = (t == "list") := rfl
end
/-! lists that are changed in place -/
@[simp] theorem put1_tab {n i : Int} {f : Int → D} {y : D} (h : 0 ≤ i) (h2 : i < n) : put1 (.lst (tab n f)) (.int i) y = some (.lst (tab n fun c => if c = i then y else f c)) := by
  obtain ⟨k, rfl, q⟩ := toN h h2
  have e : ixN (tab n f).length (k : Int) = some k := by
    unfold ixN
    rw [if_pos (by omega), if_pos (by rw [tab_len]; omega), Int.toNat_natCast]
  show (ixN (tab n f).length (k : Int)).map _ = _
  rw [e]
  show some (D.lst _) = _
  congr 2
  refine List.ext_getElem? fun j => ?_
  rw [List.getElem?_set]
  by_cases hj : (j : Int) < n
  · by_cases e2 : k = j
    · subst e2
      rw [if_pos rfl, if_pos (by rw [tab_len]; omega), tab_get hj]
      simp
    · rw [if_neg e2, tab_get hj, tab_get hj]
      simp [show ¬((j : Int) = (k : Int)) by omega]
  · have n1 : ∀ f, (tab n f)[j]? = none := fun f => List.getElem?_eq_none (by rw [tab_len]; omega)
    rw [n1, n1, if_neg (by omega)]
/-- an entry, not yet set or set -/
def eD : Option (Int × Int) → D
  | none => .non
  | some p => .tup [.int p.1, .int p.2]
@[simp] theorem is_eD {x : Option (Int × Int)} {n m : Nat} : cmpD .is_ (eD x, n) (.non, m) = .ok x.isNone := by cases x <;> rfl
@[simp] theorem eD_some {a b : Int} : eD (some (a, b)) = .tup [.int a, .int b] := rfl
theorem ftab_len {n : Int} {p : Int → Bool} {g : Int → D} (h : n ≤ 16777216) : (ftab n p g).length ≤ 16777216 := by
  unfold ftab
  rw [List.length_map]
  have := List.length_filter_le (fun (k : Nat) => p (k : Int)) (List.range n.toNat)
  rw [List.length_range] at this
  omega
@[simp] theorem capL_ftab {m : Nat} {n : Int} {p : Int → Bool} {g : Int → D} (h : n ≤ 16777216) : capL m (.ok (ftab n p g)) = .ok (.lst (ftab n p g), m + 1) := by
  have : (ftab n p g).length ≤ cap := ftab_len h
  simp [capL, this]
theorem ftab_at {n : Int} {p : Int → Bool} {g : Int → D} {j : Int} (h : 0 ≤ j) (h2 : j < (ftab n p g).length) : ∃ i, 0 ≤ i ∧ i < n ∧ p i = true ∧ atI (ftab n p g) j = some (g i) := by
  obtain ⟨k, rfl, q⟩ := toN h h2
  have q2 : k < (ftab n p g).length := by omega
  have hm : (ftab n p g)[k] ∈ ftab n p g := List.getElem_mem q2
  obtain ⟨i, hi, e⟩ : ∃ i ∈ (List.range n.toNat).filter fun (k : Nat) => p (k : Int), g (i : Int) = (ftab n p g)[k] := List.mem_map.mp hm
  rw [List.mem_filter] at hi
  have := List.mem_range.mp hi.1
  refine ⟨i, by omega, by omega, hi.2, ?_⟩
  rw [atI_nat, List.getElem?_eq_getElem q2, ← e]
/-- good entries -/
def Goods (n : Int) (o s : Int → Int) : Prop := ∀ c, 0 ≤ c → c < n → 0 ≤ o c ∧ o c < n ∧ (s c = 1 ∨ s c = -1) ∧ o (o c) = c ∧ s (o c) = s c
/-- entries that are being made -/
structure Mkg (n i : Int) (E : Int → Option (Int × Int)) : Prop where
  low : ∀ c, 0 ≤ c → c < i → (E c).isNone = false
  ok : ∀ c p, 0 ≤ c → c < n → E c = some p → 0 ≤ p.1 ∧ p.1 < n ∧ (p.2 = 1 ∨ p.2 = -1) ∧ E p.1 = some (c, p.2)
theorem Mkg.good {n : Int} {E : Int → Option (Int × Int)} (h : Mkg n n E) : Goods n (fun c => ((E c).getD (0, 1)).1) (fun c => ((E c).getD (0, 1)).2) := fun c h0 h1 => by
  have hl := h.low c h0 h1
  cases e : E c with
  | none => rw [e] at hl; cases hl
  | some p =>
    obtain ⟨a, b, c', d⟩ := h.ok c p h0 h1 e
    simp only [e, Option.getD_some, d]
    exact ⟨a, b, c', trivial, trivial⟩
theorem Mkg.tab {n : Int} {E : Int → Option (Int × Int)} (h : Mkg n n E) : D.lst (Ev.tab n fun c => eD (E c)) = ptr false n (fun c => ((E c).getD (0, 1)).1) (fun c => ((E c).getD (0, 1)).2) := by
  show D.lst _ = D.lst _
  congr 1
  refine tab_cg rfl fun c h0 h1 => ?_
  have hl := h.low c h0 h1
  cases e : E c with
  | none => rw [e] at hl; cases hl
  | some p => simp only [eD, e, Option.getD_some]
theorem Mkg.skip {n i : Int} {E : Int → Option (Int × Int)} (h : Mkg n i E) (hi : (E i).isNone = false) : Mkg n (i + 1) E :=
  ⟨fun c h0 h1 => by
    by_cases q : c = i
    · subst q; exact hi
    · exact h.low c h0 (by omega), h.ok⟩
theorem Mkg.self {n i s : Int} {E : Int → Option (Int × Int)} (h : Mkg n i E) (h0 : 0 ≤ i) (h1 : i < n) (hi : E i = none) (hs : s = 1 ∨ s = -1) : Mkg n (i + 1) (fun c => if c = i then some (i, s) else E c) := by
  refine ⟨fun c c0 c1 => ?_, fun c p c0 c1 e => ?_⟩
  · by_cases q : c = i
    · simp [q]
    · simp only [q, if_false]; exact h.low c c0 (by omega)
  · by_cases q : c = i
    · subst q
      simp only [if_true] at e
      cases e
      simp only [if_true]
      exact ⟨h0, h1, hs, trivial⟩
    · simp only [q, if_false] at e
      obtain ⟨a, b, c', d⟩ := h.ok c p c0 c1 e
      have : p.1 ≠ i := fun z => by rw [z, hi] at d; cases d
      simp only [this, if_false]
      exact ⟨a, b, c', d⟩
theorem Mkg.pair {n i j s : Int} {E : Int → Option (Int × Int)} (h : Mkg n i E) (h0 : 0 ≤ i) (h1 : i < n) (hi : E i = none) (j0 : i < j) (j1 : j < n) (hj : E j = none) (hs : s = 1 ∨ s = -1) : Mkg n (i + 1) (fun c => if c = j then some (i, s) else if c = i then some (j, s) else E c) := by
  refine ⟨fun c c0 c1 => ?_, fun c p c0 c1 e => ?_⟩
  · by_cases q : c = i
    · subst q; simp [show ¬(c = j) by omega]
    · have : c ≠ j := by omega
      simp only [q, this, if_false]; exact h.low c c0 (by omega)
  · by_cases qj : c = j
    · subst qj
      simp only [if_true] at e
      cases e
      have : ¬(i = c) := by omega
      simp only [this, if_false, if_true]
      exact ⟨h0, h1, hs, trivial⟩
    · by_cases q : c = i
      · subst q
        simp only [qj, if_false, if_true] at e
        cases e
        simp only [if_true]
        exact ⟨by omega, j1, hs, trivial⟩
      · simp only [q, qj, if_false] at e
        obtain ⟨a, b, c', d⟩ := h.ok c p c0 c1 e
        have n1 : p.1 ≠ i := fun z => by rw [z, hi] at d; cases d
        have n2 : p.1 ≠ j := fun z => by rw [z, hj] at d; cases d
        simp only [n1, n2, if_false]
        exact ⟨a, b, c', d⟩
def cEnt : DefC := ⟨[("row" : Str), ("copies" : Str), ("entries" : Str), ("copy" : Str), ("digit" : Str), ("left" : Str), ("other" : Str), ("sign" : Str), ("k" : Str)], 2, .seq (.asg (.nm 2) false (.comp 0 (.nm 8) (.rng [.var 1]) [] (.lit (.non)))) (.seq (.for (.nm 3) (.rng [.var 1]) (.seq (.asg (.nm 4) true (.bi .int [.idx (.var 0) (.var 3)])) (.seq (.asg (.nm 5) true (.comp 0 (.nm 6) (.rng [.bin .add (.var 3) (.val (.lit (.int 1))), .var 1]) [.cmp .is_ (.idx (.var 2) (.var 6)) (.val (.lit (.non)))] (.var 6))) (.seq (.ife (.and (.cmp .is_ (.idx (.var 2) (.var 3)) (.val (.lit (.non)))) (.and (.cmp .gt (.val (.bi .len [.var 5])) (.val (.lit (.int 0)))) (.cmp .lt (.val (.bin .mod (.var 4) (.val (.lit (.int 5))))) (.val (.lit (.int 3)))))) (.seq (.asg (.nm 6) true (.idx (.var 5) (.bin .mod (.val (.bin .fdiv (.var 4) (.val (.lit (.int 5))))) (.val (.bi .len [.var 5]))))) (.seq (.asg (.nm 7) true (.idx (.val (.lst 0 [.lit (.int 1), .lit (.int 1), .neg (.lit (.int 1))])) (.bin .fdiv (.var 4) (.val (.lit (.int 20)))))) (.seq (.sti 2 [.var 3] 0 (.tup [.var 6, .var 7])) (.seq (.sti 2 [.var 6] 0 (.tup [.var 3, .var 7])) (.skip))))) (.skip)) (.seq (.ife (.cmp .is_ (.idx (.var 2) (.var 3)) (.val (.lit (.non)))) (.seq (.sti 2 [.var 3] 0 (.tup [.var 3, .idx (.val (.lst 0 [.lit (.int 1), .neg (.lit (.int 1))])) (.bin .mod (.val (.bin .fdiv (.var 4) (.val (.lit (.int 5))))) (.val (.lit (.int 2))))])) (.skip)) (.skip)) (.skip)))))) (.seq (.reto 2) (.skip))), .fn "_law_entries"⟩
/-- the law's own drawing of entries -/
theorem entries_ok {G : Glb} {n m : Int} {b : Bool} {rw_ : Int → Int} (h0 : 0 ≤ n) (h1 : n ≤ 1000) (hm : n ≤ m) (hr : ∀ i, 0 ≤ i → i < n → 0 ≤ rw_ i ∧ rw_ i < 60) :
    ∃ o s, Goods n o s ∧ finR (ex G cEnt.code [some (vec b m rw_, 0), some (.int n, 0), none, none, none, none, none, none, none]) = .ok (ptr false n o s, 1) := by
  have e0 : D.lst (tab n fun _ => D.non) = D.lst (tab n fun c => eD ((fun _ => none : Int → Option (Int × Int)) c)) := rfl
  simp -implicitDefEqProofs (disch := first | omega | (simp <;> omega) | fail) [cEnt]
  refine for_fin2 (R := fun r => ∃ o s, Goods n o s ∧ r = .ok (ptr false n o s, 1)) (I := fun i Γ => ∃ (E : Int → Option (Int × Int)) (x1 x2 x3 x4 x5 : Cell), Mkg n i E ∧ Γ = [some (vec b m rw_, 0), some (.int n, 0), some (.lst (tab n fun c => eD (E c)), 1), x1, x2, x3, x4, x5, none]) h0 ⟨fun _ => none, _, _, _, _, _, ⟨fun c a b => by omega, fun c p _ _ e => by cases e⟩, rfl⟩ (fun i Γ i0 i1 ⟨E, x1, x2, x3, x4, x5, hE, e⟩ => ?_) (fun Γ ⟨E, x1, x2, x3, x4, x5, hE, e⟩ => ?_)
  rotate_left
  · subst e
    refine ⟨_, _, hE.good, ?_⟩
    rw [hE.tab]
    simp -implicitDefEqProofs
  · subst e
    obtain ⟨d0, d1⟩ := hr i i0 i1
    have hlen : ((ftab (n - (i + 1)) (fun k => (E (i + 1 + k)).isNone) fun k => D.int (i + 1 + k)).length : Int) ≤ 16777216 := by
      have := ftab_len (n := n - (i + 1)) (p := fun k => (E (i + 1 + k)).isNone) (g := fun k => D.int (i + 1 + k)) (by omega)
      omega
    cases hi : E i with
    | some p =>
      simp -implicitDefEqProofs (disch := first | omega | (simp <;> omega) | fail) [hi]
      exact ⟨E, hE.skip (by rw [hi]; rfl), rfl⟩
    | none =>
      have hat := fun j (h : 0 ≤ j) h2 => ftab_at (n := n - (i + 1)) (p := fun k => (E (i + 1 + k)).isNone) (g := fun k => D.int (i + 1 + k)) (j := j) h h2
      have hcap : capL 0 (.ok (ftab (n - (i + 1)) (fun k => (E (i + 1 + k)).isNone) (fun k => D.int (i + 1 + k)))) = .ok (.lst (ftab (n - (i + 1)) (fun k => (E (i + 1 + k)).isNone) (fun k => D.int (i + 1 + k))), 1) := capL_ftab (by omega)
      generalize hL : ftab (n - (i + 1)) (fun k => (E (i + 1 + k)).isNone) (fun k => D.int (i + 1 + k)) = L at hlen hat hcap
      have dm := fmod_rng (a := rw_ i) (b := 5) (by omega)
      have dq := fmod_rng (a := (rw_ i).fdiv 5) (b := 2) (by omega)
      have sg : atI [D.int 1, D.int (-1)] (((rw_ i).fdiv 5).fmod 2) = some (.int (if ((rw_ i).fdiv 5).fmod 2 = 0 then 1 else -1)) := by
        have : ((rw_ i).fdiv 5).fmod 2 = 0 ∨ ((rw_ i).fdiv 5).fmod 2 = 1 := by omega
        rcases this with q | q <;> rw [q] <;> rfl
      have self : ∀ x3 x4 : Cell, ∃ E2 : Int → Option (Int × Int), Mkg n (i + 1) E2 ∧ (D.lst (tab n fun c => if c = i then D.tup [.int i, .int (if ((rw_ i).fdiv 5).fmod 2 = 0 then 1 else -1)] else eD (E c))) = D.lst (tab n fun c => eD (E2 c)) := fun _ _ =>
        ⟨_, hE.self i0 i1 hi (s := if ((rw_ i).fdiv 5).fmod 2 = 0 then 1 else -1) (by split <;> simp), by
          congr 1
          refine tab_cg rfl fun c _ _ => ?_
          split <;> rfl⟩
      by_cases c1 : 0 < (L.length : Int)
      · by_cases c2 : (rw_ i).fmod 5 < 3
        · obtain ⟨k, k0, k1, kn, ek⟩ := hat (((rw_ i).fdiv 5).fmod L.length) (fmod_rng c1).1 (fmod_rng c1).2
          have kn := Option.isNone_iff_eq_none.mp kn
          obtain ⟨s2, hs2, es2⟩ : ∃ s2 : Int, (s2 = 1 ∨ s2 = -1) ∧ atI [D.int 1, D.int 1, D.int (-1)] ((rw_ i).fdiv 20) = some (.int s2) := by
            rw [Int.fdiv_eq_ediv_of_nonneg _ (by omega)]
            have : rw_ i / 20 = 0 ∨ rw_ i / 20 = 1 ∨ rw_ i / 20 = 2 := by omega
            rcases this with q | q | q <;> rw [q]
            · exact ⟨1, .inl rfl, rfl⟩
            · exact ⟨1, .inl rfl, rfl⟩
            · exact ⟨-1, .inr rfl, rfl⟩
          have nk : ¬(i = i + 1 + k) := by omega
          simp -implicitDefEqProofs (disch := first | omega | (simp <;> omega) | fail) [hi, hL, hcap, c1, c2, mod_i, fdiv_i, ek, es2, nk]
          refine ⟨_, hE.pair i0 i1 hi (j := i + 1 + k) (by omega) (by omega) kn hs2, tab_cg rfl fun c _ _ => ?_⟩
          by_cases q1 : c = i + 1 + k
          · simp only [q1, if_true]; rfl
          · by_cases q2 : c = i
            · simp only [q1, q2, nk, if_false, if_true]; rfl
            · simp only [q1, q2, if_false]
        · simp -implicitDefEqProofs (disch := first | omega | (simp <;> omega) | fail) [hi, hL, hcap, c1, c2, mod_i, fdiv_i, sg]
          obtain ⟨E2, a, b⟩ := self none none
          exact ⟨E2, a, D.lst.inj b⟩
      · simp -implicitDefEqProofs (disch := first | omega | (simp <;> omega) | fail) [hi, hL, hcap, c1, mod_i, fdiv_i, sg]
        obtain ⟨E2, a, b⟩ := self none none
        exact ⟨E2, a, D.lst.inj b⟩
theorem inD2 {i a b : Int} : inD (.int i) [.int a, .int b] = (decide (a = i) || decide (b = i)) := by
  simp only [inD, List.any_cons, List.any_nil, Bool.or_false]
  rw [show PyData.eqv (py (.int a)) (py (.int i)) = decide (a = i) from deq_int, show PyData.eqv (py (.int b)) (py (.int i)) = decide (b = i) from deq_int]
@[simp] theorem nin_two {i a b : Int} {n m : Nat} : cmpD .nin (.int i, n) (.tup [.int a, .int b], m) = .ok (!(decide (a = i) || decide (b = i))) := by
  show (if isPy 60 (.int i) = true ∧ isPyL 60 [.int a, .int b] = true then Res.ok (!inD (.int i) [.int a, .int b]) else .fail) = _
  rw [if_pos ⟨by simp, by simp⟩, inD2]
/-- a walk through the sides -/
def wk (O S : Int → Int → Int) (rt : Int → Int) (c : Int) : Nat → Int × Int
  | 0 => (c, 1)
  | k + 1 => (O (rt k) (wk O S rt c k).1, (wk O S rt c k).2 * S (rt k) (wk O S rt c k).1)
theorem wk_ok {K N L : Int} {O S : Int → Int → Int} {rt : Int → Int} {c : Int} (hg : ∀ k, 0 ≤ k → k < K → Goods N (O k) (S k)) (hr : ∀ i, 0 ≤ i → i < L → 0 ≤ rt i ∧ rt i < K) (h0 : 0 ≤ c) (h1 : c < N) : ∀ k : Nat, (k : Int) ≤ L → 0 ≤ (wk O S rt c k).1 ∧ (wk O S rt c k).1 < N ∧ ((wk O S rt c k).2 = 1 ∨ (wk O S rt c k).2 = -1)
  | 0, _ => ⟨h0, h1, .inl rfl⟩
  | k + 1, hk => by
    obtain ⟨a, b, s⟩ := wk_ok hg hr h0 h1 k (by omega)
    obtain ⟨r0, r1⟩ := hr k (by omega) (by omega)
    obtain ⟨g1, g2, g3, _⟩ := hg _ r0 r1 _ a b
    refine ⟨g1, g2, ?_⟩
    show (wk O S rt c k).2 * S (rt k) (wk O S rt c k).1 = 1 ∨ (wk O S rt c k).2 * S (rt k) (wk O S rt c k).1 = -1
    rcases s with s | s <;> rcases g3 with g | g <;> rw [s, g] <;> decide
def sumF (n : Int) (p : Int → Bool) (f : Int → Int) : Int := (((List.range n.toNat).filter fun (k : Nat) => p (k : Int)).map fun (k : Nat) => f (k : Int)).sum
@[simp] theorem sum_ftab {n : Int} {p : Int → Bool} {f : Int → Int} {k : Nat} (h : k ≤ 1) : biD .sum [(.lst (ftab n p fun i => .int (f i)), k)] = .ok (.int (sumF n p f), 0) := by
  show ints1 k (.lst (ftab n p fun i => .int (f i))) _ = _
  rw [ints1, if_pos h, show (ftab n p fun i => D.int (f i)) = (((List.range n.toNat).filter fun (k : Nat) => p (k : Int)).map fun (k : Nat) => f (k : Int)).map .int by simp [ftab], intsD_map]
  rfl
theorem sumF_eq {n : Int} {p : Int → Bool} {f : Int → Int} : sumF n p f = sumN n fun i => if p i then f i else 0 := by
  unfold sumF sumN
  generalize List.range n.toNat = l
  induction l with
  | nil => rfl
  | cons a l ih =>
    rw [List.filter_cons]
    cases h : p (a : Int) <;> simp [h, ih]
theorem sumN_pick {n e : Int} {f : Int → Int} (h0 : 0 ≤ e) (h1 : e < n) : (sumN n fun j => if e = j then f j else 0) = f e := by
  obtain ⟨m, rfl⟩ : ∃ m : Nat, n = m := ⟨n.toNat, by omega⟩
  obtain ⟨k, rfl⟩ : ∃ k : Nat, e = k := ⟨e.toNat, by omega⟩
  unfold sumN
  rw [Int.toNat_natCast]
  have key : ∀ m : Nat, ((List.range m).map fun (j : Nat) => if (k : Int) = (j : Int) then f (j : Int) else 0).sum = if k < m then f k else 0 := by
    intro m
    induction m with
    | zero => rfl
    | succ m ih =>
      rw [List.range_succ, List.map_append, List.sum_append, ih]
      simp only [List.map_cons, List.map_nil, List.sum_cons, List.sum_nil]
      by_cases q : k = m
      · subst q; simp
      · have q2 : ¬((k : Int) = (m : Int)) := by omega
        rw [if_neg q2]
        by_cases q3 : k < m
        · rw [if_pos q3, if_pos (by omega)]; omega
        · rw [if_neg q3, if_neg (by omega)]; omega
  rw [key m, if_pos (by omega)]
/-- a plan -/
def planD (K N : Int) (O S : Int → Int → Int) : D := .ins "Plan" ["sides", "kinds", "copies"] [pts true true K N O S, .int K, .int N]
section
variable {G : Glb} {K N : Int} {O S : Int → Int → Int} {n : Nat}
@[simp] theorem att_sides (h : G.okA "Plan" "sides" = true) : attC G "sides" (planD K N O S, n) = .ok (pts true true K N O S, 0) := if_pos h
@[simp] theorem att_kinds (h : G.okA "Plan" "kinds" = true) : attC G "kinds" (planD K N O S, n) = .ok (.int K, 0) := by
  show (if G.okA "Plan" "kinds" = true then _ else _) = _
  rw [if_pos h]; rfl
@[simp] theorem att_copies (h : G.okA "Plan" "copies" = true) : attC G "copies" (planD K N O S, n) = .ok (.int N, 0) := by
  show (if G.okA "Plan" "copies" = true then _ else _) = _
  rw [if_pos h]; rfl
theorem mth_plan {m : String} {i : Nat} {r : Res (List (D × Nat))} (h : ["sides", "kinds", "copies"].contains m = false) : mthF G "Plan" m i r (planD K N O S, n) = r.bind (mthC G "Plan" m i (planD K N O S)) := by
  refine mthF_eq ?_
  show (("Plan" == "Plan") && !(["sides", "kinds", "copies"].contains m)) = true
  rw [h]; rfl
@[simp] theorem knows_plan {cl : List String} (h : cl.contains "Plan" = true) : knows cl (planD K N O S) = true := h
end
@[simp] theorem put1_vec {n i y : Int} {f : Int → Int} (h : 0 ≤ i) (h2 : i < n) : put1 (vec false n f) (.int i) (.int y) = some (vec false n fun c => if c = i then y else f c) := by
  show put1 (.lst _) _ _ = _
  rw [put1_tab h h2]
  congr 1
  show D.lst _ = D.lst _
  congr 1
  refine tab_cg rfl fun c _ _ => ?_
  by_cases q : c = i <;> simp [q]
@[simp] theorem add_vec2 {n x y : Int} {f : Int → Int} {k k2 : Nat} (hk : k ≤ 1) (hk2 : k2 ≤ 1) (h : 0 ≤ n) (h2 : n < 16777210) : binD .add (vec false n f, k) (.lst [.int x, .int y], k2) = .ok (vec false (n + 2) (fun i => if i < n then f i else if i = n then x else y), 1) := by
  show binD .add (.lst _, k) _ = _
  rw [add_l, if_pos ⟨hk, hk2, by simp only [tab_len, List.length_cons, List.length_nil]; unfold cap; omega⟩]
  show Res.ok (D.lst _, 1) = Res.ok (D.lst _, 1)
  congr 3
  rw [show n + 2 = n + 1 + 1 by omega, tab_succ (by omega), tab_succ h]
  simp only [Int.lt_irrefl, if_false, if_true, show ¬(n + 1 < n) by omega, show ¬(n + 1 = n) by omega]
  rw [List.append_assoc]
  congr 1
  exact tab_cg rfl fun i _ h2 => by simp [h2]
@[simp] theorem sti2_mat {r c p q y : Int} {A : Int → Int → Int} {Γ : Env} {i n m k : Nat} (h0 : 0 ≤ p) (h1 : p < r) (h2 : 0 ≤ q) (h3 : q < c) : sti2G Γ i (.ok (mat false false r c A, 2)) (.ok (.int p, n)) (.ok (.int q, m)) (.ok (.int y, k)) = .nx (Γ.set i (some (mat false false r c fun i j => if i = p ∧ j = q then y else A i j, 2))) := by
  obtain ⟨a, rfl, ha⟩ := toN h0 h1
  have e1 : innerAt (mat false false r c A, 2) (.int (a : Int)) = some (tab r fun i => vec false c (A i), a, tab c fun j => .int (A a j)) := by
    show (if 2 = 2 then (ixN (tab r fun i => vec false c (A i)).length (a : Int)).bind _ else none) = _
    have e : ixN (tab r fun i => vec false c (A i)).length (a : Int) = some a := by
      unfold ixN
      rw [if_pos (by omega), if_pos (by rw [tab_len]; omega), Int.toNat_natCast]
    rw [if_pos rfl, e]
    show (match (tab r fun i => vec false c (A i))[a]? with | some (.lst m) => _ | _ => none) = _
    rw [tab_get h1]
    rfl
  show optO (innerAt (mat false false r c A, 2) (.int (a : Int))) _ = _
  rw [e1]
  show optO (put1 (.lst (tab c fun j => .int (A a j))) (.int q) (.int y)) _ = _
  rw [put1_tab h2 h3]
  show Out.nx _ = _
  congr 2
  show some (D.lst _, 2) = some (D.lst _, 2)
  congr 3
  refine List.ext_getElem? fun j => ?_
  rw [List.getElem?_set]
  by_cases hj : (j : Int) < r
  · by_cases e2 : a = j
    · subst e2
      rw [if_pos rfl, if_pos (by rw [tab_len]; omega), tab_get hj]
      congr 1
      show D.lst _ = D.lst _
      congr 1
      refine tab_cg rfl fun z _ _ => ?_
      by_cases q2 : z = q
      · simp [q2]
      · simp [q2]
    · rw [if_neg e2, tab_get hj, tab_get hj]
      congr 1
      refine vec_cg rfl fun z _ _ => ?_
      simp [show ¬((j : Int) = (a : Int)) by omega]
  · have n1 : ∀ f, (tab r f)[j]? = none := fun f => List.getElem?_eq_none (by rw [tab_len]; omega)
    have nj : ¬(a = j) := by omega
    rw [n1, n1, if_neg nj]
end Ev
namespace Lk08
open PySem PySem.Spec L2 Ev
@[simp] theorem GG_sb_BadPlan_BadPlan : GG.sb "BadPlan" "BadPlan" = true := by decide
@[simp] theorem GG_sb_BadPlan_BadRoute : GG.sb "BadPlan" "BadRoute" = false := by decide
@[simp] theorem GG_sb_BadPlan_BenchError : GG.sb "BadPlan" "BenchError" = true := by decide
@[simp] theorem GG_sb_BadPlan_NoCopy : GG.sb "BadPlan" "NoCopy" = false := by decide
@[simp] theorem GG_sb_BadPlan_NoKind : GG.sb "BadPlan" "NoKind" = false := by decide
@[simp] theorem GG_sb_BadPlan_Plan : GG.sb "BadPlan" "Plan" = false := by decide
@[simp] theorem GG_sb_BadRoute_BadPlan : GG.sb "BadRoute" "BadPlan" = false := by decide
@[simp] theorem GG_sb_BadRoute_BadRoute : GG.sb "BadRoute" "BadRoute" = true := by decide
@[simp] theorem GG_sb_BadRoute_BenchError : GG.sb "BadRoute" "BenchError" = true := by decide
@[simp] theorem GG_sb_BadRoute_NoCopy : GG.sb "BadRoute" "NoCopy" = false := by decide
@[simp] theorem GG_sb_BadRoute_NoKind : GG.sb "BadRoute" "NoKind" = false := by decide
@[simp] theorem GG_sb_BadRoute_Plan : GG.sb "BadRoute" "Plan" = false := by decide
@[simp] theorem GG_sb_BenchError_BadPlan : GG.sb "BenchError" "BadPlan" = false := by decide
@[simp] theorem GG_sb_BenchError_BadRoute : GG.sb "BenchError" "BadRoute" = false := by decide
@[simp] theorem GG_sb_BenchError_BenchError : GG.sb "BenchError" "BenchError" = true := by decide
@[simp] theorem GG_sb_BenchError_NoCopy : GG.sb "BenchError" "NoCopy" = false := by decide
@[simp] theorem GG_sb_BenchError_NoKind : GG.sb "BenchError" "NoKind" = false := by decide
@[simp] theorem GG_sb_BenchError_Plan : GG.sb "BenchError" "Plan" = false := by decide
@[simp] theorem GG_sb_NoCopy_BadPlan : GG.sb "NoCopy" "BadPlan" = false := by decide
@[simp] theorem GG_sb_NoCopy_BadRoute : GG.sb "NoCopy" "BadRoute" = false := by decide
@[simp] theorem GG_sb_NoCopy_BenchError : GG.sb "NoCopy" "BenchError" = true := by decide
@[simp] theorem GG_sb_NoCopy_NoCopy : GG.sb "NoCopy" "NoCopy" = true := by decide
@[simp] theorem GG_sb_NoCopy_NoKind : GG.sb "NoCopy" "NoKind" = false := by decide
@[simp] theorem GG_sb_NoCopy_Plan : GG.sb "NoCopy" "Plan" = false := by decide
@[simp] theorem GG_sb_NoKind_BadPlan : GG.sb "NoKind" "BadPlan" = false := by decide
@[simp] theorem GG_sb_NoKind_BadRoute : GG.sb "NoKind" "BadRoute" = false := by decide
@[simp] theorem GG_sb_NoKind_BenchError : GG.sb "NoKind" "BenchError" = true := by decide
@[simp] theorem GG_sb_NoKind_NoCopy : GG.sb "NoKind" "NoCopy" = false := by decide
@[simp] theorem GG_sb_NoKind_NoKind : GG.sb "NoKind" "NoKind" = true := by decide
@[simp] theorem GG_sb_NoKind_Plan : GG.sb "NoKind" "Plan" = false := by decide
@[simp] theorem GG_sb_Plan_BadPlan : GG.sb "Plan" "BadPlan" = false := by decide
@[simp] theorem GG_sb_Plan_BadRoute : GG.sb "Plan" "BadRoute" = false := by decide
@[simp] theorem GG_sb_Plan_BenchError : GG.sb "Plan" "BenchError" = false := by decide
@[simp] theorem GG_sb_Plan_NoCopy : GG.sb "Plan" "NoCopy" = false := by decide
@[simp] theorem GG_sb_Plan_NoKind : GG.sb "Plan" "NoKind" = false := by decide
@[simp] theorem GG_sb_Plan_Plan : GG.sb "Plan" "Plan" = true := by decide
@[simp] theorem GG_xcs : GG.xcs = ["BadPlan", "BadRoute", "BenchError", "NoCopy", "NoKind"] := rfl
@[simp] theorem GG_cls : GG.cls = ["Plan"] := rfl
@[simp] theorem GG_okX_BadPlan_kind : GG.okX "BadPlan" "kind" = true := by decide
@[simp] theorem GG_okX_BadPlan_copy : GG.okX "BadPlan" "copy" = true := by decide
@[simp] theorem GG_okX_NoCopy_copy : GG.okX "NoCopy" "copy" = true := by decide
@[simp] theorem GG_okX_NoKind_kind : GG.okX "NoKind" "kind" = true := by decide
@[simp] theorem GG_okA_Plan_copies : GG.okA "Plan" "copies" = true := by decide
@[simp] theorem GG_okA_Plan_kinds : GG.okA "Plan" "kinds" = true := by decide
@[simp] theorem GG_okA_Plan_sides : GG.okA "Plan" "sides" = true := by decide
def G__law_digits : Glb := { GG with fns := [] }
@[simp] theorem G__law_digits_fns : G__law_digits.fns = [] := rfl
@[simp] theorem G__law_digits_sb : G__law_digits.sb = GG.sb := rfl
@[simp] theorem G__law_digits_xcs : G__law_digits.xcs = GG.xcs := rfl
@[simp] theorem G__law_digits_cls : G__law_digits.cls = GG.cls := rfl
@[simp] theorem G__law_digits_okX : G__law_digits.okX = GG.okX := rfl
@[simp] theorem G__law_digits_okA : G__law_digits.okA = GG.okA := rfl
@[simp] theorem G__law_digits_cns : G__law_digits.cns = GG.cns := rfl
theorem _law_digits_run {d0 d1 : D} : f__law_digits [d0, d1] = finR (ex G__law_digits c__law_digits.code [some (d0, 0), some (d1, 0), none, none, none, none, none, none]) := run_eq rfl
def G__law_entries : Glb := { GG with fns := [f__law_digits] }
@[simp] theorem G__law_entries_fns : G__law_entries.fns = [f__law_digits] := rfl
@[simp] theorem G__law_entries_sb : G__law_entries.sb = GG.sb := rfl
@[simp] theorem G__law_entries_xcs : G__law_entries.xcs = GG.xcs := rfl
@[simp] theorem G__law_entries_cls : G__law_entries.cls = GG.cls := rfl
@[simp] theorem G__law_entries_okX : G__law_entries.okX = GG.okX := rfl
@[simp] theorem G__law_entries_okA : G__law_entries.okA = GG.okA := rfl
@[simp] theorem G__law_entries_cns : G__law_entries.cns = GG.cns := rfl
theorem _law_entries_run {d0 d1 : D} : f__law_entries [d0, d1] = finR (ex G__law_entries c__law_entries.code [some (d0, 0), some (d1, 0), none, none, none, none, none, none, none]) := run_eq rfl
def G__law_sides : Glb := { GG with fns := [f__law_digits, f__law_entries] }
@[simp] theorem G__law_sides_fns : G__law_sides.fns = [f__law_digits, f__law_entries] := rfl
@[simp] theorem G__law_sides_sb : G__law_sides.sb = GG.sb := rfl
@[simp] theorem G__law_sides_xcs : G__law_sides.xcs = GG.xcs := rfl
@[simp] theorem G__law_sides_cls : G__law_sides.cls = GG.cls := rfl
@[simp] theorem G__law_sides_okX : G__law_sides.okX = GG.okX := rfl
@[simp] theorem G__law_sides_okA : G__law_sides.okA = GG.okA := rfl
@[simp] theorem G__law_sides_cns : G__law_sides.cns = GG.cns := rfl
theorem _law_sides_run {d0 d1 d2 : D} : f__law_sides [d0, d1, d2] = finR (ex G__law_sides c__law_sides.code [some (d0, 0), some (d1, 0), some (d2, 0), none, none]) := run_eq rfl
def G_is_good_entry : Glb := { GG with fns := [f__law_digits, f__law_entries, f__law_sides] }
@[simp] theorem G_is_good_entry_fns : G_is_good_entry.fns = [f__law_digits, f__law_entries, f__law_sides] := rfl
@[simp] theorem G_is_good_entry_sb : G_is_good_entry.sb = GG.sb := rfl
@[simp] theorem G_is_good_entry_xcs : G_is_good_entry.xcs = GG.xcs := rfl
@[simp] theorem G_is_good_entry_cls : G_is_good_entry.cls = GG.cls := rfl
@[simp] theorem G_is_good_entry_okX : G_is_good_entry.okX = GG.okX := rfl
@[simp] theorem G_is_good_entry_okA : G_is_good_entry.okA = GG.okA := rfl
@[simp] theorem G_is_good_entry_cns : G_is_good_entry.cns = GG.cns := rfl
theorem is_good_entry_run {d0 d1 : D} : f_is_good_entry [d0, d1] = finR (ex G_is_good_entry c_is_good_entry.code [some (d0, 0), some (d1, 0), none, none]) := run_eq rfl
def G_checked_sides : Glb := { GG with fns := [f__law_digits, f__law_entries, f__law_sides, f_is_good_entry] }
@[simp] theorem G_checked_sides_fns : G_checked_sides.fns = [f__law_digits, f__law_entries, f__law_sides, f_is_good_entry] := rfl
@[simp] theorem G_checked_sides_sb : G_checked_sides.sb = GG.sb := rfl
@[simp] theorem G_checked_sides_xcs : G_checked_sides.xcs = GG.xcs := rfl
@[simp] theorem G_checked_sides_cls : G_checked_sides.cls = GG.cls := rfl
@[simp] theorem G_checked_sides_okX : G_checked_sides.okX = GG.okX := rfl
@[simp] theorem G_checked_sides_okA : G_checked_sides.okA = GG.okA := rfl
@[simp] theorem G_checked_sides_cns : G_checked_sides.cns = GG.cns := rfl
theorem checked_sides_run {d0 : D} : f_checked_sides [d0] = finR (ex G_checked_sides c_checked_sides.code [some (d0, 0), none, none, none]) := run_eq rfl
def G_frozen_r0 : Glb := { GG with fns := [f__law_digits, f__law_entries, f__law_sides, f_is_good_entry, f_checked_sides] }
@[simp] theorem G_frozen_r0_fns : G_frozen_r0.fns = [f__law_digits, f__law_entries, f__law_sides, f_is_good_entry, f_checked_sides] := rfl
@[simp] theorem G_frozen_r0_sb : G_frozen_r0.sb = GG.sb := rfl
@[simp] theorem G_frozen_r0_xcs : G_frozen_r0.xcs = GG.xcs := rfl
@[simp] theorem G_frozen_r0_cls : G_frozen_r0.cls = GG.cls := rfl
@[simp] theorem G_frozen_r0_okX : G_frozen_r0.okX = GG.okX := rfl
@[simp] theorem G_frozen_r0_okA : G_frozen_r0.okA = GG.okA := rfl
@[simp] theorem G_frozen_r0_cns : G_frozen_r0.cns = GG.cns := rfl
def G_frozen_r1 : Glb := { GG with fns := [f__law_digits, f__law_entries, f__law_sides, f_is_good_entry, f_checked_sides, f_frozen_r0] }
@[simp] theorem G_frozen_r1_fns : G_frozen_r1.fns = [f__law_digits, f__law_entries, f__law_sides, f_is_good_entry, f_checked_sides, f_frozen_r0] := rfl
@[simp] theorem G_frozen_r1_sb : G_frozen_r1.sb = GG.sb := rfl
@[simp] theorem G_frozen_r1_xcs : G_frozen_r1.xcs = GG.xcs := rfl
@[simp] theorem G_frozen_r1_cls : G_frozen_r1.cls = GG.cls := rfl
@[simp] theorem G_frozen_r1_okX : G_frozen_r1.okX = GG.okX := rfl
@[simp] theorem G_frozen_r1_okA : G_frozen_r1.okA = GG.okA := rfl
@[simp] theorem G_frozen_r1_cns : G_frozen_r1.cns = GG.cns := rfl
theorem frozen_r1_run {d0 : D} : f_frozen_r1 [d0] = finR (ex G_frozen_r1 c_frozen_r1.code [some (d0, 0), none]) := run_eq rfl
def G_frozen_r2 : Glb := { GG with fns := [f__law_digits, f__law_entries, f__law_sides, f_is_good_entry, f_checked_sides, f_frozen_r0, f_frozen_r1] }
@[simp] theorem G_frozen_r2_fns : G_frozen_r2.fns = [f__law_digits, f__law_entries, f__law_sides, f_is_good_entry, f_checked_sides, f_frozen_r0, f_frozen_r1] := rfl
@[simp] theorem G_frozen_r2_sb : G_frozen_r2.sb = GG.sb := rfl
@[simp] theorem G_frozen_r2_xcs : G_frozen_r2.xcs = GG.xcs := rfl
@[simp] theorem G_frozen_r2_cls : G_frozen_r2.cls = GG.cls := rfl
@[simp] theorem G_frozen_r2_okX : G_frozen_r2.okX = GG.okX := rfl
@[simp] theorem G_frozen_r2_okA : G_frozen_r2.okA = GG.okA := rfl
@[simp] theorem G_frozen_r2_cns : G_frozen_r2.cns = GG.cns := rfl
theorem frozen_r2_run {d0 : D} : f_frozen_r2 [d0] = finR (ex G_frozen_r2 c_frozen_r2.code [some (d0, 0), none]) := run_eq rfl
def G_frozen_r3 : Glb := { GG with fns := [f__law_digits, f__law_entries, f__law_sides, f_is_good_entry, f_checked_sides, f_frozen_r0, f_frozen_r1, f_frozen_r2] }
@[simp] theorem G_frozen_r3_fns : G_frozen_r3.fns = [f__law_digits, f__law_entries, f__law_sides, f_is_good_entry, f_checked_sides, f_frozen_r0, f_frozen_r1, f_frozen_r2] := rfl
@[simp] theorem G_frozen_r3_sb : G_frozen_r3.sb = GG.sb := rfl
@[simp] theorem G_frozen_r3_xcs : G_frozen_r3.xcs = GG.xcs := rfl
@[simp] theorem G_frozen_r3_cls : G_frozen_r3.cls = GG.cls := rfl
@[simp] theorem G_frozen_r3_okX : G_frozen_r3.okX = GG.okX := rfl
@[simp] theorem G_frozen_r3_okA : G_frozen_r3.okA = GG.okA := rfl
@[simp] theorem G_frozen_r3_cns : G_frozen_r3.cns = GG.cns := rfl
theorem frozen_r3_run {d0 : D} : f_frozen_r3 [d0] = finR (ex G_frozen_r3 c_frozen_r3.code [some (d0, 0), none]) := run_eq rfl
def G_frozen_r4 : Glb := { GG with fns := [f__law_digits, f__law_entries, f__law_sides, f_is_good_entry, f_checked_sides, f_frozen_r0, f_frozen_r1, f_frozen_r2, f_frozen_r3] }
@[simp] theorem G_frozen_r4_fns : G_frozen_r4.fns = [f__law_digits, f__law_entries, f__law_sides, f_is_good_entry, f_checked_sides, f_frozen_r0, f_frozen_r1, f_frozen_r2, f_frozen_r3] := rfl
@[simp] theorem G_frozen_r4_sb : G_frozen_r4.sb = GG.sb := rfl
@[simp] theorem G_frozen_r4_xcs : G_frozen_r4.xcs = GG.xcs := rfl
@[simp] theorem G_frozen_r4_cls : G_frozen_r4.cls = GG.cls := rfl
@[simp] theorem G_frozen_r4_okX : G_frozen_r4.okX = GG.okX := rfl
@[simp] theorem G_frozen_r4_okA : G_frozen_r4.okA = GG.okA := rfl
@[simp] theorem G_frozen_r4_cns : G_frozen_r4.cns = GG.cns := rfl
theorem frozen_r4_run {d0 : D} : f_frozen_r4 [d0] = finR (ex G_frozen_r4 c_frozen_r4.code [some (d0, 0), none]) := run_eq rfl
def G_frozen_r5 : Glb := { GG with fns := [f__law_digits, f__law_entries, f__law_sides, f_is_good_entry, f_checked_sides, f_frozen_r0, f_frozen_r1, f_frozen_r2, f_frozen_r3, f_frozen_r4] }
@[simp] theorem G_frozen_r5_fns : G_frozen_r5.fns = [f__law_digits, f__law_entries, f__law_sides, f_is_good_entry, f_checked_sides, f_frozen_r0, f_frozen_r1, f_frozen_r2, f_frozen_r3, f_frozen_r4] := rfl
@[simp] theorem G_frozen_r5_sb : G_frozen_r5.sb = GG.sb := rfl
@[simp] theorem G_frozen_r5_xcs : G_frozen_r5.xcs = GG.xcs := rfl
@[simp] theorem G_frozen_r5_cls : G_frozen_r5.cls = GG.cls := rfl
@[simp] theorem G_frozen_r5_okX : G_frozen_r5.okX = GG.okX := rfl
@[simp] theorem G_frozen_r5_okA : G_frozen_r5.okA = GG.okA := rfl
@[simp] theorem G_frozen_r5_cns : G_frozen_r5.cns = GG.cns := rfl
theorem frozen_r5_run {d0 : D} : f_frozen_r5 [d0] = finR (ex G_frozen_r5 c_frozen_r5.code [some (d0, 0), none]) := run_eq rfl
def G_Plan_init : Glb := { GG with fns := [f__law_digits, f__law_entries, f__law_sides, f_is_good_entry, f_checked_sides, f_frozen_r0, f_frozen_r1, f_frozen_r2, f_frozen_r3, f_frozen_r4, f_frozen_r5] }
@[simp] theorem G_Plan_init_fns : G_Plan_init.fns = [f__law_digits, f__law_entries, f__law_sides, f_is_good_entry, f_checked_sides, f_frozen_r0, f_frozen_r1, f_frozen_r2, f_frozen_r3, f_frozen_r4, f_frozen_r5] := rfl
@[simp] theorem G_Plan_init_sb : G_Plan_init.sb = GG.sb := rfl
@[simp] theorem G_Plan_init_xcs : G_Plan_init.xcs = GG.xcs := rfl
@[simp] theorem G_Plan_init_cls : G_Plan_init.cls = GG.cls := rfl
@[simp] theorem G_Plan_init_okX : G_Plan_init.okX = GG.okX := rfl
@[simp] theorem G_Plan_init_okA : G_Plan_init.okA = GG.okA := rfl
@[simp] theorem G_Plan_init_cns : G_Plan_init.cns = GG.cns := rfl
theorem Plan_init_run {d0 : D} : f_Plan_init [d0] = finI "Plan" 0 (ex G_Plan_init c_Plan_init.code [some (.slf "Plan" 0 [] [], 1), some (d0, 0)]) := runI_eq rfl
def G__law_spoilt : Glb := { GG with fns := [f__law_digits, f__law_entries, f__law_sides, f_is_good_entry, f_checked_sides, f_frozen_r0, f_frozen_r1, f_frozen_r2, f_frozen_r3, f_frozen_r4, f_frozen_r5, f_Plan_init] }
@[simp] theorem G__law_spoilt_fns : G__law_spoilt.fns = [f__law_digits, f__law_entries, f__law_sides, f_is_good_entry, f_checked_sides, f_frozen_r0, f_frozen_r1, f_frozen_r2, f_frozen_r3, f_frozen_r4, f_frozen_r5, f_Plan_init] := rfl
@[simp] theorem G__law_spoilt_sb : G__law_spoilt.sb = GG.sb := rfl
@[simp] theorem G__law_spoilt_xcs : G__law_spoilt.xcs = GG.xcs := rfl
@[simp] theorem G__law_spoilt_cls : G__law_spoilt.cls = GG.cls := rfl
@[simp] theorem G__law_spoilt_okX : G__law_spoilt.okX = GG.okX := rfl
@[simp] theorem G__law_spoilt_okA : G__law_spoilt.okA = GG.okA := rfl
@[simp] theorem G__law_spoilt_cns : G__law_spoilt.cns = GG.cns := rfl
theorem _law_spoilt_run {d0 d1 : D} : f__law_spoilt [d0, d1] = finR (ex G__law_spoilt c__law_spoilt.code [some (d0, 0), some (d1, 0), none, none, none, none, none, none]) := run_eq rfl
def G__law_cell : Glb := { GG with fns := [f__law_digits, f__law_entries, f__law_sides, f_is_good_entry, f_checked_sides, f_frozen_r0, f_frozen_r1, f_frozen_r2, f_frozen_r3, f_frozen_r4, f_frozen_r5, f_Plan_init, f__law_spoilt] }
@[simp] theorem G__law_cell_fns : G__law_cell.fns = [f__law_digits, f__law_entries, f__law_sides, f_is_good_entry, f_checked_sides, f_frozen_r0, f_frozen_r1, f_frozen_r2, f_frozen_r3, f_frozen_r4, f_frozen_r5, f_Plan_init, f__law_spoilt] := rfl
@[simp] theorem G__law_cell_sb : G__law_cell.sb = GG.sb := rfl
@[simp] theorem G__law_cell_xcs : G__law_cell.xcs = GG.xcs := rfl
@[simp] theorem G__law_cell_cls : G__law_cell.cls = GG.cls := rfl
@[simp] theorem G__law_cell_okX : G__law_cell.okX = GG.okX := rfl
@[simp] theorem G__law_cell_okA : G__law_cell.okA = GG.okA := rfl
@[simp] theorem G__law_cell_cns : G__law_cell.cns = GG.cns := rfl
theorem _law_cell_run {d0 d1 : D} : f__law_cell [d0, d1] = finR (ex G__law_cell c__law_cell.code [some (d0, 0), some (d1, 0), none, none]) := run_eq rfl
def G_Plan_across : Glb := { GG with fns := [f__law_digits, f__law_entries, f__law_sides, f_is_good_entry, f_checked_sides, f_frozen_r0, f_frozen_r1, f_frozen_r2, f_frozen_r3, f_frozen_r4, f_frozen_r5, f_Plan_init, f__law_spoilt, f__law_cell] }
@[simp] theorem G_Plan_across_fns : G_Plan_across.fns = [f__law_digits, f__law_entries, f__law_sides, f_is_good_entry, f_checked_sides, f_frozen_r0, f_frozen_r1, f_frozen_r2, f_frozen_r3, f_frozen_r4, f_frozen_r5, f_Plan_init, f__law_spoilt, f__law_cell] := rfl
@[simp] theorem G_Plan_across_sb : G_Plan_across.sb = GG.sb := rfl
@[simp] theorem G_Plan_across_xcs : G_Plan_across.xcs = GG.xcs := rfl
@[simp] theorem G_Plan_across_cls : G_Plan_across.cls = GG.cls := rfl
@[simp] theorem G_Plan_across_okX : G_Plan_across.okX = GG.okX := rfl
@[simp] theorem G_Plan_across_okA : G_Plan_across.okA = GG.okA := rfl
@[simp] theorem G_Plan_across_cns : G_Plan_across.cns = GG.cns := rfl
theorem Plan_across_run {d0 d1 d2 : D} : f_Plan_across [d0, d1, d2] = finR (ex G_Plan_across c_Plan_across.code [some (d0, 0), some (d1, 0), some (d2, 0)]) := runM_eq rfl
def G_entries_matrix : Glb := { GG with fns := [f__law_digits, f__law_entries, f__law_sides, f_is_good_entry, f_checked_sides, f_frozen_r0, f_frozen_r1, f_frozen_r2, f_frozen_r3, f_frozen_r4, f_frozen_r5, f_Plan_init, f__law_spoilt, f__law_cell, f_Plan_across] }
@[simp] theorem G_entries_matrix_fns : G_entries_matrix.fns = [f__law_digits, f__law_entries, f__law_sides, f_is_good_entry, f_checked_sides, f_frozen_r0, f_frozen_r1, f_frozen_r2, f_frozen_r3, f_frozen_r4, f_frozen_r5, f_Plan_init, f__law_spoilt, f__law_cell, f_Plan_across] := rfl
@[simp] theorem G_entries_matrix_sb : G_entries_matrix.sb = GG.sb := rfl
@[simp] theorem G_entries_matrix_xcs : G_entries_matrix.xcs = GG.xcs := rfl
@[simp] theorem G_entries_matrix_cls : G_entries_matrix.cls = GG.cls := rfl
@[simp] theorem G_entries_matrix_okX : G_entries_matrix.okX = GG.okX := rfl
@[simp] theorem G_entries_matrix_okA : G_entries_matrix.okA = GG.okA := rfl
@[simp] theorem G_entries_matrix_cns : G_entries_matrix.cns = GG.cns := rfl
theorem entries_matrix_run {d0 : D} : f_entries_matrix [d0] = finR (ex G_entries_matrix c_entries_matrix.code [some (d0, 0), none, none, none]) := run_eq rfl
def G_Plan_matrix : Glb := { GG with fns := [f__law_digits, f__law_entries, f__law_sides, f_is_good_entry, f_checked_sides, f_frozen_r0, f_frozen_r1, f_frozen_r2, f_frozen_r3, f_frozen_r4, f_frozen_r5, f_Plan_init, f__law_spoilt, f__law_cell, f_Plan_across, f_entries_matrix] }
@[simp] theorem G_Plan_matrix_fns : G_Plan_matrix.fns = [f__law_digits, f__law_entries, f__law_sides, f_is_good_entry, f_checked_sides, f_frozen_r0, f_frozen_r1, f_frozen_r2, f_frozen_r3, f_frozen_r4, f_frozen_r5, f_Plan_init, f__law_spoilt, f__law_cell, f_Plan_across, f_entries_matrix] := rfl
@[simp] theorem G_Plan_matrix_sb : G_Plan_matrix.sb = GG.sb := rfl
@[simp] theorem G_Plan_matrix_xcs : G_Plan_matrix.xcs = GG.xcs := rfl
@[simp] theorem G_Plan_matrix_cls : G_Plan_matrix.cls = GG.cls := rfl
@[simp] theorem G_Plan_matrix_okX : G_Plan_matrix.okX = GG.okX := rfl
@[simp] theorem G_Plan_matrix_okA : G_Plan_matrix.okA = GG.okA := rfl
@[simp] theorem G_Plan_matrix_cns : G_Plan_matrix.cns = GG.cns := rfl
theorem Plan_matrix_run {d0 d1 : D} : f_Plan_matrix [d0, d1] = finR (ex G_Plan_matrix c_Plan_matrix.code [some (d0, 0), some (d1, 0)]) := runM_eq rfl
def G__law_no : Glb := { GG with fns := [f__law_digits, f__law_entries, f__law_sides, f_is_good_entry, f_checked_sides, f_frozen_r0, f_frozen_r1, f_frozen_r2, f_frozen_r3, f_frozen_r4, f_frozen_r5, f_Plan_init, f__law_spoilt, f__law_cell, f_Plan_across, f_entries_matrix, f_Plan_matrix] }
@[simp] theorem G__law_no_fns : G__law_no.fns = [f__law_digits, f__law_entries, f__law_sides, f_is_good_entry, f_checked_sides, f_frozen_r0, f_frozen_r1, f_frozen_r2, f_frozen_r3, f_frozen_r4, f_frozen_r5, f_Plan_init, f__law_spoilt, f__law_cell, f_Plan_across, f_entries_matrix, f_Plan_matrix] := rfl
@[simp] theorem G__law_no_sb : G__law_no.sb = GG.sb := rfl
@[simp] theorem G__law_no_xcs : G__law_no.xcs = GG.xcs := rfl
@[simp] theorem G__law_no_cls : G__law_no.cls = GG.cls := rfl
@[simp] theorem G__law_no_okX : G__law_no.okX = GG.okX := rfl
@[simp] theorem G__law_no_okA : G__law_no.okA = GG.okA := rfl
@[simp] theorem G__law_no_cns : G__law_no.cns = GG.cns := rfl
theorem _law_no_run {d0 d1 d2 d3 : D} : f__law_no [d0, d1, d2, d3] = finR (ex G__law_no c__law_no.code [some (d0, 0), some (d1, 0), some (d2, 0), some (d3, 0), none]) := run_eq rfl
def G__law_tuples : Glb := { GG with fns := [f__law_digits, f__law_entries, f__law_sides, f_is_good_entry, f_checked_sides, f_frozen_r0, f_frozen_r1, f_frozen_r2, f_frozen_r3, f_frozen_r4, f_frozen_r5, f_Plan_init, f__law_spoilt, f__law_cell, f_Plan_across, f_entries_matrix, f_Plan_matrix, f__law_no] }
@[simp] theorem G__law_tuples_fns : G__law_tuples.fns = [f__law_digits, f__law_entries, f__law_sides, f_is_good_entry, f_checked_sides, f_frozen_r0, f_frozen_r1, f_frozen_r2, f_frozen_r3, f_frozen_r4, f_frozen_r5, f_Plan_init, f__law_spoilt, f__law_cell, f_Plan_across, f_entries_matrix, f_Plan_matrix, f__law_no] := rfl
@[simp] theorem G__law_tuples_sb : G__law_tuples.sb = GG.sb := rfl
@[simp] theorem G__law_tuples_xcs : G__law_tuples.xcs = GG.xcs := rfl
@[simp] theorem G__law_tuples_cls : G__law_tuples.cls = GG.cls := rfl
@[simp] theorem G__law_tuples_okX : G__law_tuples.okX = GG.okX := rfl
@[simp] theorem G__law_tuples_okA : G__law_tuples.okA = GG.okA := rfl
@[simp] theorem G__law_tuples_cns : G__law_tuples.cns = GG.cns := rfl
theorem _law_tuples_run {d0 : D} : f__law_tuples [d0] = finR (ex G__law_tuples c__law_tuples.code [some (d0, 0), none, none]) := run_eq rfl
def G_Plan___len__ : Glb := { GG with fns := [f__law_digits, f__law_entries, f__law_sides, f_is_good_entry, f_checked_sides, f_frozen_r0, f_frozen_r1, f_frozen_r2, f_frozen_r3, f_frozen_r4, f_frozen_r5, f_Plan_init, f__law_spoilt, f__law_cell, f_Plan_across, f_entries_matrix, f_Plan_matrix, f__law_no, f__law_tuples] }
@[simp] theorem G_Plan___len___fns : G_Plan___len__.fns = [f__law_digits, f__law_entries, f__law_sides, f_is_good_entry, f_checked_sides, f_frozen_r0, f_frozen_r1, f_frozen_r2, f_frozen_r3, f_frozen_r4, f_frozen_r5, f_Plan_init, f__law_spoilt, f__law_cell, f_Plan_across, f_entries_matrix, f_Plan_matrix, f__law_no, f__law_tuples] := rfl
@[simp] theorem G_Plan___len___sb : G_Plan___len__.sb = GG.sb := rfl
@[simp] theorem G_Plan___len___xcs : G_Plan___len__.xcs = GG.xcs := rfl
@[simp] theorem G_Plan___len___cls : G_Plan___len__.cls = GG.cls := rfl
@[simp] theorem G_Plan___len___okX : G_Plan___len__.okX = GG.okX := rfl
@[simp] theorem G_Plan___len___okA : G_Plan___len__.okA = GG.okA := rfl
@[simp] theorem G_Plan___len___cns : G_Plan___len__.cns = GG.cns := rfl
theorem Plan___len___run {d0 : D} : f_Plan___len__ [d0] = finR (ex G_Plan___len__ c_Plan___len__.code [some (d0, 0)]) := runM_eq rfl
def G__law_told : Glb := { GG with fns := [f__law_digits, f__law_entries, f__law_sides, f_is_good_entry, f_checked_sides, f_frozen_r0, f_frozen_r1, f_frozen_r2, f_frozen_r3, f_frozen_r4, f_frozen_r5, f_Plan_init, f__law_spoilt, f__law_cell, f_Plan_across, f_entries_matrix, f_Plan_matrix, f__law_no, f__law_tuples, f_Plan___len__] }
@[simp] theorem G__law_told_fns : G__law_told.fns = [f__law_digits, f__law_entries, f__law_sides, f_is_good_entry, f_checked_sides, f_frozen_r0, f_frozen_r1, f_frozen_r2, f_frozen_r3, f_frozen_r4, f_frozen_r5, f_Plan_init, f__law_spoilt, f__law_cell, f_Plan_across, f_entries_matrix, f_Plan_matrix, f__law_no, f__law_tuples, f_Plan___len__] := rfl
@[simp] theorem G__law_told_sb : G__law_told.sb = GG.sb := rfl
@[simp] theorem G__law_told_xcs : G__law_told.xcs = GG.xcs := rfl
@[simp] theorem G__law_told_cls : G__law_told.cls = GG.cls := rfl
@[simp] theorem G__law_told_okX : G__law_told.okX = GG.okX := rfl
@[simp] theorem G__law_told_okA : G__law_told.okA = GG.okA := rfl
@[simp] theorem G__law_told_cns : G__law_told.cns = GG.cns := rfl
theorem _law_told_run {d0 : D} : f__law_told [d0] = finR (ex G__law_told c__law_told.code [some (d0, 0), none]) := run_eq rfl
def G__law_fault : Glb := { GG with fns := [f__law_digits, f__law_entries, f__law_sides, f_is_good_entry, f_checked_sides, f_frozen_r0, f_frozen_r1, f_frozen_r2, f_frozen_r3, f_frozen_r4, f_frozen_r5, f_Plan_init, f__law_spoilt, f__law_cell, f_Plan_across, f_entries_matrix, f_Plan_matrix, f__law_no, f__law_tuples, f_Plan___len__, f__law_told] }
@[simp] theorem G__law_fault_fns : G__law_fault.fns = [f__law_digits, f__law_entries, f__law_sides, f_is_good_entry, f_checked_sides, f_frozen_r0, f_frozen_r1, f_frozen_r2, f_frozen_r3, f_frozen_r4, f_frozen_r5, f_Plan_init, f__law_spoilt, f__law_cell, f_Plan_across, f_entries_matrix, f_Plan_matrix, f__law_no, f__law_tuples, f_Plan___len__, f__law_told] := rfl
@[simp] theorem G__law_fault_sb : G__law_fault.sb = GG.sb := rfl
@[simp] theorem G__law_fault_xcs : G__law_fault.xcs = GG.xcs := rfl
@[simp] theorem G__law_fault_cls : G__law_fault.cls = GG.cls := rfl
@[simp] theorem G__law_fault_okX : G__law_fault.okX = GG.okX := rfl
@[simp] theorem G__law_fault_okA : G__law_fault.okA = GG.okA := rfl
@[simp] theorem G__law_fault_cns : G__law_fault.cns = GG.cns := rfl
theorem _law_fault_run {d0 : D} : f__law_fault [d0] = finR (ex G__law_fault c__law_fault.code [some (d0, 0), none, none, none, none]) := run_eq rfl
def G__law_side : Glb := { GG with fns := [f__law_digits, f__law_entries, f__law_sides, f_is_good_entry, f_checked_sides, f_frozen_r0, f_frozen_r1, f_frozen_r2, f_frozen_r3, f_frozen_r4, f_frozen_r5, f_Plan_init, f__law_spoilt, f__law_cell, f_Plan_across, f_entries_matrix, f_Plan_matrix, f__law_no, f__law_tuples, f_Plan___len__, f__law_told, f__law_fault] }
@[simp] theorem G__law_side_fns : G__law_side.fns = [f__law_digits, f__law_entries, f__law_sides, f_is_good_entry, f_checked_sides, f_frozen_r0, f_frozen_r1, f_frozen_r2, f_frozen_r3, f_frozen_r4, f_frozen_r5, f_Plan_init, f__law_spoilt, f__law_cell, f_Plan_across, f_entries_matrix, f_Plan_matrix, f__law_no, f__law_tuples, f_Plan___len__, f__law_told, f__law_fault] := rfl
@[simp] theorem G__law_side_sb : G__law_side.sb = GG.sb := rfl
@[simp] theorem G__law_side_xcs : G__law_side.xcs = GG.xcs := rfl
@[simp] theorem G__law_side_cls : G__law_side.cls = GG.cls := rfl
@[simp] theorem G__law_side_okX : G__law_side.okX = GG.okX := rfl
@[simp] theorem G__law_side_okA : G__law_side.okA = GG.okA := rfl
@[simp] theorem G__law_side_cns : G__law_side.cns = GG.cns := rfl
theorem _law_side_run {d0 : D} : f__law_side [d0] = finR (ex G__law_side c__law_side.code [some (d0, 0), none, none, none]) := run_eq rfl
def G_law : Glb := { GG with fns := [f__law_digits, f__law_entries, f__law_sides, f_is_good_entry, f_checked_sides, f_frozen_r0, f_frozen_r1, f_frozen_r2, f_frozen_r3, f_frozen_r4, f_frozen_r5, f_Plan_init, f__law_spoilt, f__law_cell, f_Plan_across, f_entries_matrix, f_Plan_matrix, f__law_no, f__law_tuples, f_Plan___len__, f__law_told, f__law_fault, f__law_side] }
@[simp] theorem G_law_fns : G_law.fns = [f__law_digits, f__law_entries, f__law_sides, f_is_good_entry, f_checked_sides, f_frozen_r0, f_frozen_r1, f_frozen_r2, f_frozen_r3, f_frozen_r4, f_frozen_r5, f_Plan_init, f__law_spoilt, f__law_cell, f_Plan_across, f_entries_matrix, f_Plan_matrix, f__law_no, f__law_tuples, f_Plan___len__, f__law_told, f__law_fault, f__law_side] := rfl
@[simp] theorem G_law_sb : G_law.sb = GG.sb := rfl
@[simp] theorem G_law_xcs : G_law.xcs = GG.xcs := rfl
@[simp] theorem G_law_cls : G_law.cls = GG.cls := rfl
@[simp] theorem G_law_okX : G_law.okX = GG.okX := rfl
@[simp] theorem G_law_okA : G_law.okA = GG.okA := rfl
@[simp] theorem G_law_cns : G_law.cns = GG.cns := rfl
theorem law_run {d0 : D} : f_law [d0] = finR (ex G_law c_law.code [some (d0, 0), none, none, none, none, none, none, none, none, none, none, none]) := run_eq rfl
end Lk08
/-! Pr: own operators in the pure run; sums, products and turns of tables of pairs. -/
namespace Ev
open PySem PySem.Spec L2
section
variable {G : Glb} {Γ : Env} {c m : String} {i n k : Nat} {x y : D} {ds : List (D × Nat)} {r : Res (List (D × Nat))}
theorem mthC_dun (h : plainM m = false) (h2 : m ≠ "__len__") (h3 : (ds.map (·.1)).all (insOk c m) = true) : mthC G c m i x ds = nthF G.fns i (x :: ds.map (·.1)) := by
  unfold mthC nthF
  cases G.fns[i]? with
  | none => rfl
  | some φ =>
    show (if plainM m then _ else dunM c m (ds.map (·.1)) _) = _
    rw [h]
    unfold dunM
    rw [if_neg h2, if_pos h3]; rfl
@[simp] theorem mthC_add (h3 : (ds.map (·.1)).all (insOk c "__add__") = true) : mthC G c "__add__" i x ds = nthF G.fns i (x :: ds.map (·.1)) := mthC_dun (by decide) (by decide) h3
@[simp] theorem mthC_sub (h3 : (ds.map (·.1)).all (insOk c "__sub__") = true) : mthC G c "__sub__" i x ds = nthF G.fns i (x :: ds.map (·.1)) := mthC_dun (by decide) (by decide) h3
@[simp] theorem mthC_mul (h3 : (ds.map (·.1)).all (insOk c "__mul__") = true) : mthC G c "__mul__" i x ds = nthF G.fns i (x :: ds.map (·.1)) := mthC_dun (by decide) (by decide) h3
@[simp] theorem mthC_neg (h3 : (ds.map (·.1)).all (insOk c "__neg__") = true) : mthC G c "__neg__" i x ds = nthF G.fns i (x :: ds.map (·.1)) := mthC_dun (by decide) (by decide) h3
def lenC (r : Res (D × Nat)) : Res (D × Nat) := match r with
  | .ok (.int n, 0) => if 0 ≤ n ∧ n < 2 ^ 63 then .ok (.int n, 0) else .fail
  | _ => .fail
@[simp] theorem lenC_ok {n : Int} (h : 0 ≤ n) (h2 : n < 16777216) : lenC (.ok (.int n, 0)) = .ok (.int n, 0) := if_pos ⟨h, by omega⟩
@[simp] theorem mthC_len : mthC G c "__len__" i x [] = lenC (nthF G.fns i [x]) := by
  unfold mthC nthF
  cases G.fns[i]? with
  | none => rfl
  | some φ => rfl
def ceqF (G : Glb) (neg : Bool) (c : String) (i : Nat) (x y : D × Nat) : Res Bool := if insOk c "__eq__" x.1 && knows G.cls y.1 then (nthF G.fns i [x.1, y.1]).bind (negB neg) else .fail
@[simp ↓] theorem ts_ceq {neg : Bool} {a b : EC} : ts G (.ceq neg c i a b) Γ = bind2 (ceqF G neg c i) (ev G a Γ) (ev G b Γ) := by
  simp only [ts, bind2]
  cases ev G a Γ with
  | ok x =>
    simp only [Res.bind_ok]
    cases ev G b Γ with
    | ok y =>
      simp only [Res.bind_ok]
      unfold ceqF nthF
      split
      · cases G.fns[i]? <;> rfl
      · rfl
    | exc c ns ds => rfl
    | fail => rfl
  | exc c ns ds => rfl
  | fail => rfl
@[simp] theorem ceqF_ok {neg : Bool} (h1 : insOk c "__eq__" x = true) (h2 : knows G.cls y = true) : ceqF G neg c i (x, n) (y, k) = (nthF G.fns i [x, y]).bind (negB neg) := by
  unfold ceqF
  rw [h1, h2]; rfl
@[simp] theorem negB_t {b : Bool} : negB true (.bl b, n) = .ok (!b) := rfl
@[simp] theorem negB_f {b : Bool} : negB false (.bl b, n) = .ok b := rfl
variable {K N : Int} {O S : Int → Int → Int}
@[simp] theorem insOk_plan : insOk "Plan" m (planD K N O S) = !(["sides", "kinds", "copies"].contains m) := rfl
@[simp] theorem mth_p_add : mthF G "Plan" "__add__" i r (planD K N O S, n) = r.bind (mthC G "Plan" "__add__" i (planD K N O S)) := mth_plan (by decide)
@[simp] theorem mth_p_mul : mthF G "Plan" "__mul__" i r (planD K N O S, n) = r.bind (mthC G "Plan" "__mul__" i (planD K N O S)) := mth_plan (by decide)
@[simp] theorem mth_p_neg : mthF G "Plan" "__neg__" i r (planD K N O S, n) = r.bind (mthC G "Plan" "__neg__" i (planD K N O S)) := mth_plan (by decide)
@[simp] theorem mth_p_len : mthF G "Plan" "__len__" i r (planD K N O S, n) = r.bind (mthC G "Plan" "__len__" i (planD K N O S)) := mth_plan (by decide)
@[simp] theorem isT_plan {sb : String → String → Bool} {t : String} : isT sb (planD K N O S) t = sb "Plan" t := rfl
end
/-! tables side by side -/
theorem tab_app {a b : Int} {f g : Int → D} (ha : 0 ≤ a) (hb : 0 ≤ b) : tab a f ++ tab b g = tab (a + b) fun i => if i < a then f i else g (i - a) := by
  refine List.ext_getElem? fun j => ?_
  rw [List.getElem?_append, tab_len]
  split
  · rw [tab_get (by omega), tab_get (by omega), if_pos (by omega)]
  · by_cases q : (j : Int) < a + b
    · rw [tab_get (by omega), tab_get (by omega), if_neg (by omega)]
      congr 2; omega
    · rw [List.getElem?_eq_none (by rw [tab_len]; omega), List.getElem?_eq_none (by rw [tab_len]; omega)]
section
variable {b b2 b3 b4 : Bool} {n m r r' : Int} {o s o' s' : Int → Int} {O S O' S' : Int → Int → Int} {k k2 : Nat} {Γ : Env} {i : Nat}
theorem ptr_cg (e : n = m) (h : ∀ c, 0 ≤ c → c < m → o c = o' c ∧ s c = s' c) : ptr b n o s = ptr b m o' s' := by
  unfold ptr; rw [tab_cg e fun i h1 h2 => by rw [(h i h1 h2).1, (h i h1 h2).2]]
theorem pts_cg (e : r = r') (e2 : n = m) (h : ∀ k, 0 ≤ k → k < r' → ∀ c, 0 ≤ c → c < m → O k c = O' k c ∧ S k c = S' k c) : pts b b2 r n O S = pts b b2 r' m O' S' := by
  unfold pts; rw [tab_cg e fun i h1 h2 => ptr_cg e2 (h i h1 h2)]
/-- entries side by side -/
def sdO (n : Int) (o o' : Int → Int) (c : Int) : Int := if c < n then o c else o' (c - n)
@[simp] theorem add_ptr (hk : k ≤ 1) (hk2 : k2 ≤ 1) (h : 0 ≤ n) (h2 : 0 ≤ m) (h3 : n + m ≤ 16777216) : binD .add (ptr false n o s, k) (ptr false m o' s', k2) = .ok (ptr false (n + m) (sdO n o o') (sdO n s s'), 1) := by
  show binD .add (.lst _, k) (.lst _, k2) = _
  rw [add_l, if_pos ⟨hk, hk2, by simp only [tab_len]; unfold cap; omega⟩, tab_app h h2]
  show Res.ok (D.lst _, 1) = Res.ok (D.lst _, 1)
  congr 3
  refine tab_cg rfl fun i _ _ => ?_
  unfold sdO
  split <;> rfl
@[simp] theorem add_pts (h : 0 ≤ r) (h2 : 0 ≤ r') (h3 : r + r' ≤ 16777216) : binD .add (pts true b2 r n O S, k) (pts true b2 r' n O' S', k2) = .ok (pts true b2 (r + r') n (fun k => if k < r then O k else O' (k - r)) (fun k => if k < r then S k else S' (k - r)), 0) := by
  show binD .add (.tup _, k) (.tup _, k2) = _
  rw [add_t, if_pos (by simp only [tab_len]; unfold cap; omega), tab_app h h2]
  show Res.ok (D.tup _, 0) = Res.ok (D.tup _, 0)
  congr 3
  refine tab_cg rfl fun i _ _ => ?_
  dsimp only
  split <;> rfl
@[simp] theorem slc_pts_hi {j : Int} (hk : k ≤ 1) (h : 0 ≤ j) (hn : 0 ≤ r) : slcD (pts b b2 r n O S, k) none (some j) = .ok (pts b b2 (if j ≤ r then j else r) n O S, if b then 0 else 1) := by
  unfold pts; rw [slc_sq hk, cut_min h hn]
theorem ptr_succ (h : 0 ≤ n) : ptr false (n + 1) o s = D.lst ((tab n fun c => .tup [.int (o c), .int (s c)]) ++ [.tup [.int (o n), .int (s n)]]) := by show D.lst _ = _; rw [tab_succ h]
theorem pts_succ (h : 0 ≤ r) : pts false b2 (r + 1) n O S = D.lst ((tab r fun k => ptr b2 n (O k) (S k)) ++ [ptr b2 n (O r) (S r)]) := by show D.lst _ = _; rw [tab_succ h]
@[simp] theorem appC_ptr {y : D × Nat} (h : n < 16777216) : appC (.ok y) Γ i (ptr false n o s, 1) = .nx (Γ.set i (some (.lst ((tab n fun c => .tup [.int (o c), .int (s c)]) ++ [y.1]), 1))) := appC_l (by rw [tab_len]; omega)
@[simp] theorem appC_pts {y : D × Nat} (h : r < 16777216) : appC (.ok y) Γ i (pts false b2 r n O S, 1) = .nx (Γ.set i (some (.lst ((tab r fun k => ptr b2 n (O k) (S k)) ++ [y.1]), 1))) := appC_l (by rw [tab_len]; omega)
@[simp] theorem idx_ptrk {j : Int} (h : 0 ≤ j) (h2 : j < n) : idxD (ptr false n o s, k) (.int j) = .ok (.tup [.int (o j), .int (s j)], k - 1) := by
  show idxD (.lst _, k) _ = _
  rw [idx_l, atI_tab h h2]; rfl
@[simp] theorem idx_ptsk {j : Int} (h : 0 ≤ j) (h2 : j < r) : idxD (pts false b2 r n O S, k) (.int j) = .ok (ptr b2 n (O j) (S j), k - 1) := by
  show idxD (.lst _, k) _ = _
  rw [idx_l, atI_tab h h2]; rfl
/-- one entry changed -/
def put2 (p q y : Int) (A : Int → Int → Int) (i j : Int) : Int := if i = p ∧ j = q then y else A i j
@[simp] theorem sti2_pts {p q y z : Int} {n1 m1 k1 : Nat} (h0 : 0 ≤ p) (h1 : p < r) (h2 : 0 ≤ q) (h3 : q < n) : sti2G Γ i (.ok (pts false false r n O S, 2)) (.ok (.int p, n1)) (.ok (.int q, m1)) (.ok (.tup [.int y, .int z], k1)) = .nx (Γ.set i (some (pts false false r n (put2 p q y O) (put2 p q z S), 2))) := by
  obtain ⟨a, rfl, ha⟩ := toN h0 h1
  have e1 : innerAt (pts false false r n O S, 2) (.int (a : Int)) = some (tab r fun i => ptr false n (O i) (S i), a, tab n fun j => .tup [.int (O a j), .int (S a j)]) := by
    show (if 2 = 2 then (ixN (tab r fun i => ptr false n (O i) (S i)).length (a : Int)).bind _ else none) = _
    have e : ixN (tab r fun i => ptr false n (O i) (S i)).length (a : Int) = some a := by
      unfold ixN
      rw [if_pos (by omega), if_pos (by rw [tab_len]; omega), Int.toNat_natCast]
    rw [if_pos rfl, e]
    show (match (tab r fun i => ptr false n (O i) (S i))[a]? with | some (.lst m) => _ | _ => none) = _
    rw [tab_get h1]
    rfl
  show optO (innerAt (pts false false r n O S, 2) (.int (a : Int))) _ = _
  rw [e1]
  show optO (put1 (.lst (tab n fun j => .tup [.int (O a j), .int (S a j)])) (.int q) (.tup [.int y, .int z])) _ = _
  rw [put1_tab h2 h3]
  show Out.nx _ = _
  congr 2
  show some (D.lst _, 2) = some (D.lst _, 2)
  congr 3
  refine List.ext_getElem? fun j => ?_
  rw [List.getElem?_set]
  by_cases hj : (j : Int) < r
  · by_cases e2 : a = j
    · subst e2
      rw [if_pos rfl, if_pos (by rw [tab_len]; omega), tab_get hj]
      congr 1
      show D.lst _ = D.lst _
      congr 1
      refine tab_cg rfl fun z _ _ => ?_
      unfold put2
      by_cases q2 : z = q
      · simp [q2]
      · simp [q2]
    · rw [if_neg e2, tab_get hj, tab_get hj]
      congr 1
      refine ptr_cg rfl fun z _ _ => ?_
      unfold put2
      simp [show ¬((j : Int) = (a : Int)) by omega]
  · have n1 : ∀ f, (tab r f)[j]? = none := fun f => List.getElem?_eq_none (by rw [tab_len]; omega)
    have nj : ¬(a = j) := by omega
    rw [n1, n1, if_neg nj]
/-! equal or not -/
theorem deqL_len : ∀ {l m : List D}, deqL l m = true → l.length = m.length
  | [], [], _ => rfl
  | [], _ :: _, h => by rw [deqL_nc] at h; cases h
  | _ :: _, [], h => by rw [deqL_cn] at h; cases h
  | a :: l, b :: m, h => by
    rw [deqL_cons, Bool.and_eq_true] at h
    rw [List.length_cons, List.length_cons, deqL_len h.2]
theorem deqL_at : ∀ {l m : List D} {j : Nat} {x y : D}, deqL l m = true → l[j]? = some x → m[j]? = some y → deq x y = true
  | [], _, _, _, _, _, e, _ => by simp at e
  | _ :: _, [], _, _, _, _, _, e => by simp at e
  | a :: l, b :: m, 0, x, y, h, e1, e2 => by
    rw [deqL_cons, Bool.and_eq_true] at h
    simp at e1 e2
    subst e1 e2
    exact h.1
  | a :: l, b :: m, j + 1, x, y, h, e1, e2 => by
    rw [deqL_cons, Bool.and_eq_true] at h
    exact deqL_at h.2 (by simpa using e1) (by simpa using e2)
theorem deqL_tabn {a c : Int} {f g : Int → D} (ha : 0 ≤ a) (hc : 0 ≤ c) (h : a ≠ c) : deqL (tab a f) (tab c g) = false := by
  cases e : deqL (tab a f) (tab c g) with
  | false => rfl
  | true =>
    have := deqL_len e
    rw [tab_len, tab_len] at this
    omega
theorem deqL_tabx {a : Int} {f g : Int → D} {j : Int} (h0 : 0 ≤ j) (h1 : j < a) (h : deq (f j) (g j) = false) : deqL (tab a f) (tab a g) = false := by
  cases e : deqL (tab a f) (tab a g) with
  | false => rfl
  | true =>
    obtain ⟨z, rfl, q⟩ := toN h0 h1
    have := deqL_at e (tab_get h1) (tab_get h1)
    rw [h] at this
    cases this
theorem deq_ptsn (h0 : 0 ≤ r) (h1 : 0 ≤ r') (h : r ≠ r') : deq (pts true b2 r n O S) (pts true b3 r' m O' S') = false := by
  show deq (.tup _) (.tup _) = _
  rw [deq_tup]; exact deqL_tabn h0 h1 h
theorem deq_ptsx {j c : Int} (h0 : 0 ≤ j) (h1 : j < r) (c0 : 0 ≤ c) (c1 : c < n) (h : ¬(O j c = O' j c ∧ S j c = S' j c)) : deq (pts true true r n O S) (pts true true r n O' S') = false := by
  show deq (.tup _) (.tup _) = _
  rw [deq_tup]
  refine deqL_tabx h0 h1 ?_
  show deq (.tup _) (.tup _) = _
  rw [deq_tup]
  refine deqL_tabx c0 c1 ?_
  rw [deq_tup, deqL_cons, deqL_cons, deqL_nil, deq_int, deq_int]
  by_cases q : O j c = O' j c
  · by_cases q2 : S j c = S' j c
    · exact absurd ⟨q, q2⟩ h
    · simp [q2]
  · simp [q]
end
/-! two clauses -/
theorem divmod {i j m : Int} (h0 : 0 ≤ j) (h1 : j < m) : (i * m + j) / m = i ∧ (i * m + j) % m = j := by
  have hm : m ≠ 0 := by omega
  refine ⟨?_, ?_⟩
  · rw [Int.add_comm, Int.add_mul_ediv_right _ _ hm, Int.ediv_eq_zero_of_lt h0 h1]; omega
  · rw [Int.add_comm, Int.add_mul_emod_self_right, Int.emod_eq_of_lt h0 h1]
theorem divmod_rng {c n m : Int} (h0 : 0 ≤ c) (h1 : c < n * m) (hm : 0 < m) : 0 ≤ c / m ∧ c / m < n ∧ 0 ≤ c % m ∧ c % m < m ∧ c / m * m + c % m = c := by
  refine ⟨Int.ediv_nonneg h0 (by omega), Int.ediv_lt_of_lt_mul hm h1, Int.emod_nonneg _ (by omega), Int.emod_lt_of_pos _ hm, ?_⟩
  exact Int.ediv_mul_add_emod c m
theorem tab_prod {n m : Int} {E : Int → Int → D} (hn : 0 ≤ n) (hm : 0 < m) : tab ((n + 1) * m) (fun c => E (c / m) (c % m)) = tab (n * m) (fun c => E (c / m) (c % m)) ++ tab m (E n) := by
  have h := Int.mul_nonneg hn (Int.le_of_lt hm)
  rw [tab_app h (by omega), show (n + 1) * m = n * m + m by rw [Int.add_mul, Int.one_mul]]
  refine tab_cg rfl fun c c0 c1 => ?_
  by_cases q : c < n * m
  · rw [if_pos q]
  · rw [if_neg q]
    obtain ⟨a, b⟩ := divmod (i := n) (j := c - n * m) (m := m) (by omega) (by omega)
    rw [show n * m + (c - n * m) = c by omega] at a b
    rw [a, b]
theorem comp2_ok {G : Glb} {Γ : Env} {t t2 : TG} {s2 : SRC} {e : EC} {n m : Int} {F F2 : Int → D} {E : Int → Int → D} (hn : 0 ≤ n) (hm : 0 < m)
    (h : ∀ i, 0 ≤ i → i < n → ∃ Γi, asgT t (F i, 0) Γ = .ok Γi ∧ src G true s2 Γi = .ok (tab m F2) ∧ ∀ j, 0 ≤ j → j < m → ∃ Γj k, asgT t2 (F2 j, 0) (wipeG Γi t2.slots) = .ok Γj ∧ ev G e Γj = .ok (E i j, k)) :
    comp2G G t [] t2 s2 [] 0 e Γ (tab n F) = .ok (tab (n * m) fun c => E (c / m) (c % m)) := by
  unfold comp2G
  obtain ⟨a, rfl⟩ : ∃ a : Nat, n = a := ⟨n.toNat, by omega⟩
  have outer : ∀ (asg : D → Env → Res Env) (test : Env → Res Bool) (body : Env → Res (List D)) (Γ : Env) (a : Nat), (∀ i : Nat, i < a → ∃ Γ1, asg (F i) Γ = .ok Γ1 ∧ test Γ1 = .ok true ∧ body Γ1 = .ok (tab m (E i))) → compAll asg test body Γ (tab (a : Int) F) = .ok (tab ((a : Int) * m) fun c => E (c / m) (c % m)) := by
    intro asg test body Γ a h
    have app : ∀ (l1 l2 : List D) (r1 r2 : List D), compAll asg test body Γ l1 = .ok r1 → compAll asg test body Γ l2 = .ok r2 → compAll asg test body Γ (l1 ++ l2) = .ok (r1 ++ r2) := by
      intro l1
      induction l1 with
      | nil => intro l2 r1 r2 h1 h2; cases h1; exact h2
      | cons x l1 ih =>
        intro l2 r1 r2 h1 h2
        rw [List.cons_append]
        unfold compAll at h1 ⊢
        cases e1 : asg x Γ with
        | ok Γ1 =>
          rw [e1] at h1
          dsimp only at h1 ⊢
          cases e2 : test Γ1 with
          | ok b =>
            rw [e2] at h1
            cases b with
            | true =>
              dsimp only at h1 ⊢
              cases e3 : body Γ1 with
              | ok ds =>
                rw [e3] at h1
                dsimp only at h1 ⊢
                cases e4 : compAll asg test body Γ l1 with
                | ok r =>
                  rw [e4] at h1
                  simp only [Res.bind_ok] at h1
                  cases h1
                  rw [ih l2 r r2 e4 h2]
                  simp
                | exc c ns ds => rw [e4] at h1; cases h1
                | fail => rw [e4] at h1; cases h1
              | exc c ns ds => rw [e3] at h1; cases h1
              | fail => rw [e3] at h1; cases h1
            | false => exact ih l2 r1 r2 h1 h2
          | exc c ns ds => rw [e2] at h1; cases h1
          | fail => rw [e2] at h1; cases h1
        | exc c ns ds => rw [e1] at h1; cases h1
        | fail => rw [e1] at h1; cases h1
    induction a with
    | zero => simp [compAll]
    | succ a ih =>
      rw [Int.natCast_succ, tab_succ (by omega), tab_prod (by omega) hm]
      refine app _ _ _ _ (ih fun i hi => h i (by omega)) ?_
      obtain ⟨Γ1, x, y, z⟩ := h a (by omega)
      unfold compAll
      rw [x]; dsimp only
      rw [y]; dsimp only
      rw [z]; dsimp only
      simp [compAll]
  refine outer _ _ _ _ a fun i hi => ?_
  obtain ⟨Γi, x, y, z⟩ := h i (by omega) (by omega)
  refine ⟨Γi, x, by simp only [tss], ?_⟩
  show (nxR (src G true s2 Γi)).bind _ = _
  rw [y]
  show compAll _ _ _ _ (tab m F2) = _
  obtain ⟨mm, hmm⟩ : ∃ mm : Nat, m = mm := ⟨m.toNat, by omega⟩
  subst hmm
  have key : ∀ q : Nat, (q : Int) ≤ (mm : Int) → compAll (fun d Γ2 => asgT t2 (d, 0) Γ2) (fun Γ2 => tss G [] Γ2) (fun Γ2 => one1 0 (ev G e Γ2)) (wipeG Γi t2.slots) (tab (q : Int) F2) = .ok (tab (q : Int) (E i)) := by
    intro q hq
    induction q with
    | zero => rfl
    | succ q ih =>
      have ih := ih (by omega)
      obtain ⟨Γj, k, u, v⟩ := z q (by omega) (by omega)
      rw [Int.natCast_succ, tab_succ (by omega), tab_succ (by omega)]
      have app : ∀ (l1 l2 : List D) (r1 r2 : List D), compAll (fun d Γ2 => asgT t2 (d, 0) Γ2) (fun Γ2 => tss G [] Γ2) (fun Γ2 => one1 0 (ev G e Γ2)) (wipeG Γi t2.slots) l1 = .ok r1 → compAll (fun d Γ2 => asgT t2 (d, 0) Γ2) (fun Γ2 => tss G [] Γ2) (fun Γ2 => one1 0 (ev G e Γ2)) (wipeG Γi t2.slots) l2 = .ok r2 → compAll (fun d Γ2 => asgT t2 (d, 0) Γ2) (fun Γ2 => tss G [] Γ2) (fun Γ2 => one1 0 (ev G e Γ2)) (wipeG Γi t2.slots) (l1 ++ l2) = .ok (r1 ++ r2) := by
        intro l1
        induction l1 with
        | nil => intro l2 r1 r2 h1 h2; cases h1; exact h2
        | cons x l1 ih =>
          intro l2 r1 r2 h1 h2
          rw [List.cons_append]
          unfold compAll at h1 ⊢
          cases e1 : asgT t2 (x, 0) (wipeG Γi t2.slots) with
          | ok Γ1 =>
            rw [e1] at h1
            simp only [tss_nil] at h1 ⊢
            cases e3 : one1 0 (ev G e Γ1) with
            | ok ds =>
              rw [e3] at h1
              dsimp only at h1 ⊢
              simp only [tss_nil] at ih h2 ⊢
              cases e4 : compAll (fun d Γ2 => asgT t2 (d, 0) Γ2) (fun Γ2 => Res.ok true) (fun Γ2 => one1 0 (ev G e Γ2)) (wipeG Γi t2.slots) l1 with
              | ok r =>
                rw [e4] at h1
                simp only [Res.bind_ok] at h1
                cases h1
                rw [ih l2 r r2 e4 h2]
                simp
              | exc c ns ds => rw [e4] at h1; cases h1
              | fail => rw [e4] at h1; cases h1
            | exc c ns ds => rw [e3] at h1; cases h1
            | fail => rw [e3] at h1; cases h1
          | exc c ns ds => rw [e1] at h1; cases h1
          | fail => rw [e1] at h1; cases h1
      refine app _ _ _ _ ih ?_
      unfold compAll
      rw [u]; dsimp only
      rw [tss_nil]; dsimp only
      rw [v]
      show (compAll _ _ _ _ []).bind _ = _
      rfl
  exact key mm (by omega)
/-! sums -/
@[simp] theorem sumN_0 {f : Int → Int} : sumN 0 f = 0 := rfl
theorem sumN_succ {n : Int} {f : Int → Int} (h : 0 ≤ n) : sumN (n + 1) f = sumN n f + f n := by
  have e : (n + 1).toNat = n.toNat + 1 := by omega
  unfold sumN
  rw [e, List.range_succ, List.map_append, List.sum_append]
  simp only [List.map_cons, List.map_nil, List.sum_cons, List.sum_nil]
  rw [show ((n.toNat : Nat) : Int) = n by omega]; omega
theorem sumN_ind {P : Int → Prop} (h0 : P 0) (hs : ∀ n, 0 ≤ n → P n → P (n + 1)) : ∀ n, 0 ≤ n → P n := by
  intro n hn
  obtain ⟨k, rfl⟩ : ∃ k : Nat, n = k := ⟨n.toNat, by omega⟩
  induction k with
  | zero => exact h0
  | succ k ih => rw [Int.natCast_succ]; exact hs k (by omega) (ih (by omega))
theorem sumN_add {n m : Int} {f : Int → Int} (hn : 0 ≤ n) (hm : 0 ≤ m) : sumN (n + m) f = sumN n f + sumN m fun i => f (n + i) := by
  refine sumN_ind (P := fun m => sumN (n + m) f = sumN n f + sumN m fun i => f (n + i)) (by simp) (fun k hk ih => ?_) m hm
  rw [show n + (k + 1) = n + k + 1 by omega, sumN_succ (by omega), sumN_succ hk, ih]; omega
theorem sumN_scale {n k : Int} {f : Int → Int} (hn : 0 ≤ n) : (sumN n fun i => k * f i) = k * sumN n f := by
  refine sumN_ind (P := fun n => (sumN n fun i => k * f i) = k * sumN n f) (by simp) (fun j hj ih => ?_) n hn
  rw [sumN_succ hj, sumN_succ hj, ih, Int.mul_add]
theorem sumN_prod {n m : Int} {f : Int → Int} (hn : 0 ≤ n) (hm : 0 ≤ m) : sumN (n * m) f = sumN n fun i => sumN m fun j => f (i * m + j) := by
  refine sumN_ind (P := fun n => sumN (n * m) f = sumN n fun i => sumN m fun j => f (i * m + j)) (by simp) (fun j hj ih => ?_) n hn
  rw [sumN_succ hj, show (j + 1) * m = j * m + m by rw [Int.add_mul, Int.one_mul], sumN_add (Int.mul_nonneg hj hm) hm, ih]
theorem sumN_mul {n m : Int} {a b : Int → Int} (hn : 0 ≤ n) (hm : 0 ≤ m) : (sumN n fun i => sumN m fun j => a i * b j) = sumN n a * sumN m b := by
  rw [sumN_congr rfl fun i _ _ => sumN_scale (k := a i) (f := b) hm]
  have e : (sumN n fun i => a i * sumN m b) = sumN n fun i => sumN m b * a i := sumN_congr rfl fun i _ _ => Int.mul_comm _ _
  rw [e, sumN_scale hn, Int.mul_comm]
/-! good entries of sums, products, turns -/
section
variable {n m : Int} {o s o' s' : Int → Int}
theorem Goods.add (h : Goods n o s) (h' : Goods m o' s') (hn : 0 ≤ n) (hm : 0 ≤ m) : Goods (n + m) (sdO n o fun c => o' c + n) (sdO n s s') := fun c c0 c1 => by
  unfold sdO
  by_cases q : c < n
  · obtain ⟨a, b, d, e, f⟩ := h c c0 q
    simp only [q, b, if_true]
    exact ⟨a, (by omega : o c < n + m), d, e, f⟩
  · obtain ⟨a, b, d, e, f⟩ := h' (c - n) (by omega) (by omega)
    have q2 : ¬(o' (c - n) + n < n) := by omega
    have q3 : o' (c - n) + n - n = o' (c - n) := by omega
    simp only [q, q2, q3, if_false]
    exact ⟨by omega, by omega, d, by rw [e]; omega, f⟩
theorem Goods.neg (h : Goods n o s) : Goods n o fun c => -s c := fun c c0 c1 => by
  obtain ⟨a, b, d, e, f⟩ := h c c0 c1
  exact ⟨a, b, (by omega : -s c = 1 ∨ -s c = -1), e, by dsimp only; rw [f]⟩
/-- entries multiplied -/
def pdO (m : Int) (o o' : Int → Int) (c : Int) : Int := o (c / m) * m + o' (c % m)
def pdS (m : Int) (s s' : Int → Int) (c : Int) : Int := s (c / m) * s' (c % m)
theorem mul_rng {a b n m : Int} (h0 : 0 ≤ a) (h1 : a < n) (h2 : 0 ≤ b) (h3 : b < m) : 0 ≤ a * m + b ∧ a * m + b < n * m := by
  have h4 := Int.mul_nonneg h0 (show 0 ≤ m by omega)
  have h5 := Int.mul_le_mul_of_nonneg_right (show a + 1 ≤ n by omega) (show 0 ≤ m by omega)
  rw [Int.add_mul, Int.one_mul] at h5
  omega
theorem sgn_mul {a b : Int} (h : a = 1 ∨ a = -1) (h2 : b = 1 ∨ b = -1) : a * b = 1 ∨ a * b = -1 := by
  rcases h with h | h <;> rcases h2 with h2 | h2 <;> rw [h, h2] <;> decide
theorem Goods.mul (h : Goods n o s) (h' : Goods m o' s') (hm : 0 < m) : Goods (n * m) (pdO m o o') (pdS m s s') := fun c c0 c1 => by
  obtain ⟨d0, d1, d2, d3, d4⟩ := divmod_rng c0 c1 hm
  obtain ⟨a, b, d, e, f⟩ := h _ d0 d1
  obtain ⟨a', b', d', e', f'⟩ := h' _ d2 d3
  obtain ⟨r0, r1⟩ := mul_rng a b a' b'
  obtain ⟨q1, q2⟩ := divmod (i := o (c / m)) a' b'
  unfold pdO pdS
  rw [q1, q2, e, e', f, f']
  exact ⟨r0, r1, sgn_mul d d', d4, rfl⟩
end
section
variable {K N M L c : Int} {O S O' S' : Int → Int → Int} {rt : Int → Int}
theorem wk_add_l (hg : ∀ k, 0 ≤ k → k < K → Goods N (O k) (S k)) (hr : ∀ i, 0 ≤ i → i < L → 0 ≤ rt i ∧ rt i < K) (h0 : 0 ≤ c) (h1 : c < N) : ∀ k : Nat, (k : Int) ≤ L → wk (fun k => sdO N (O k) fun c => O' k c + N) (fun k => sdO N (S k) (S' k)) rt c k = wk O S rt c k
  | 0, _ => rfl
  | k + 1, hk => by
    obtain ⟨_, b, _⟩ := wk_ok hg hr h0 h1 k (by omega)
    simp only [wk]
    rw [wk_add_l hg hr h0 h1 k (by omega)]
    unfold sdO
    rw [if_pos b, if_pos b]
theorem wk_add_r (hg : ∀ k, 0 ≤ k → k < K → Goods M (O' k) (S' k)) (hr : ∀ i, 0 ≤ i → i < L → 0 ≤ rt i ∧ rt i < K) (h0 : 0 ≤ c) (h1 : c < M) : ∀ k : Nat, (k : Int) ≤ L → wk (fun k => sdO N (O k) fun c => O' k c + N) (fun k => sdO N (S k) (S' k)) rt (N + c) k = ((wk O' S' rt c k).1 + N, (wk O' S' rt c k).2)
  | 0, _ => by simp only [wk]; rw [Int.add_comm]
  | k + 1, hk => by
    obtain ⟨a, _, _⟩ := wk_ok hg hr h0 h1 k (by omega)
    simp only [wk]
    rw [wk_add_r hg hr h0 h1 k (by omega)]
    unfold sdO
    dsimp only
    rw [if_neg (by omega), if_neg (by omega), show (wk O' S' rt c k).1 + N - N = (wk O' S' rt c k).1 by omega]
theorem wk_mul {a b : Int} (hg : ∀ k, 0 ≤ k → k < K → Goods N (O k) (S k)) (hg' : ∀ k, 0 ≤ k → k < K → Goods M (O' k) (S' k)) (hr : ∀ i, 0 ≤ i → i < L → 0 ≤ rt i ∧ rt i < K) (h0 : 0 ≤ a) (h1 : a < N) (h2 : 0 ≤ b) (h3 : b < M) : ∀ k : Nat, (k : Int) ≤ L →
    wk (fun k => pdO M (O k) (O' k)) (fun k => pdS M (S k) (S' k)) rt (a * M + b) k = ((wk O S rt a k).1 * M + (wk O' S' rt b k).1, (wk O S rt a k).2 * (wk O' S' rt b k).2)
  | 0, _ => rfl
  | k + 1, hk => by
    obtain ⟨a0, a1, _⟩ := wk_ok hg hr h0 h1 k (by omega)
    obtain ⟨b0, b1, _⟩ := wk_ok hg' hr h2 h3 k (by omega)
    obtain ⟨q1, q2⟩ := divmod (i := (wk O S rt a k).1) b0 b1
    simp only [wk]
    rw [wk_mul hg hg' hr h0 h1 h2 h3 k (by omega)]
    unfold pdO pdS
    dsimp only
    rw [q1, q2]
    congr 1
    simp only [Int.mul_assoc, Int.mul_left_comm]
def sgn (k : Nat) : Int := if k % 2 = 0 then 1 else -1
theorem sgn_succ {k : Nat} : sgn (k + 1) = -sgn k := by
  unfold sgn
  by_cases q : k % 2 = 0
  · rw [if_pos q, if_neg (by omega)]
  · rw [if_neg q, if_pos (by omega)]; rfl
theorem wk_neg : ∀ k : Nat, wk O (fun k c => -S k c) rt c k = ((wk O S rt c k).1, sgn k * (wk O S rt c k).2)
  | 0 => by simp only [wk]; rfl
  | k + 1 => by
    simp only [wk]
    rw [wk_neg k, sgn_succ]
    dsimp only
    congr 1
    rw [Int.neg_mul, Int.mul_neg, Int.mul_assoc]
/-- the ways home -/
def hm (N : Int) (O S : Int → Int → Int) (rt : Int → Int) (L : Int) : Int := sumN N fun c => if (wk O S rt c L.toNat).1 = c then (wk O S rt c L.toNat).2 else 0
theorem hm_add (hn : 0 ≤ N) (hm' : 0 ≤ M) (hL : 0 ≤ L) (hg : ∀ k, 0 ≤ k → k < K → Goods N (O k) (S k)) (hg' : ∀ k, 0 ≤ k → k < K → Goods M (O' k) (S' k)) (hr : ∀ i, 0 ≤ i → i < L → 0 ≤ rt i ∧ rt i < K) :
    hm (N + M) (fun k => sdO N (O k) fun c => O' k c + N) (fun k => sdO N (S k) (S' k)) rt L = hm N O S rt L + hm M O' S' rt L := by
  unfold hm
  rw [sumN_add hn hm']
  congr 1
  · exact sumN_congr rfl fun c c0 c1 => by rw [wk_add_l hg hr c0 c1 L.toNat (by omega)]
  · refine sumN_congr rfl fun c c0 c1 => ?_
    rw [wk_add_r hg' hr c0 c1 L.toNat (by omega)]
    by_cases q : (wk O' S' rt c L.toNat).1 = c
    · rw [if_pos q, if_pos (by dsimp only; omega)]
    · rw [if_neg q, if_neg (by dsimp only; omega)]
theorem hm_mul (hn : 0 ≤ N) (hm' : 0 ≤ M) (hL : 0 ≤ L) (hg : ∀ k, 0 ≤ k → k < K → Goods N (O k) (S k)) (hg' : ∀ k, 0 ≤ k → k < K → Goods M (O' k) (S' k)) (hr : ∀ i, 0 ≤ i → i < L → 0 ≤ rt i ∧ rt i < K) :
    hm (N * M) (fun k => pdO M (O k) (O' k)) (fun k => pdS M (S k) (S' k)) rt L = hm N O S rt L * hm M O' S' rt L := by
  unfold hm
  rw [sumN_prod hn hm', ← sumN_mul hn hm']
  refine sumN_congr rfl fun a a0 a1 => sumN_congr rfl fun b b0 b1 => ?_
  rw [wk_mul hg hg' hr a0 a1 b0 b1 L.toNat (by omega)]
  obtain ⟨x0, x1, _⟩ := wk_ok hg hr a0 a1 L.toNat (by omega)
  obtain ⟨y0, y1, _⟩ := wk_ok hg' hr b0 b1 L.toNat (by omega)
  obtain ⟨q1, q2⟩ := divmod (i := (wk O S rt a L.toNat).1) y0 y1
  obtain ⟨p1, p2⟩ := divmod (i := a) b0 b1
  dsimp only
  by_cases h1 : (wk O S rt a L.toNat).1 = a
  · by_cases h2 : (wk O' S' rt b L.toNat).1 = b
    · rw [if_pos h1, if_pos h2, if_pos (by rw [h1, h2])]
    · rw [if_pos h1, if_neg h2, if_neg (by rw [h1]; omega), Int.mul_zero]
  · rw [if_neg h1, Int.zero_mul, if_neg]
    intro z
    rw [z] at q1
    exact h1 (q1.symm.trans p1)
theorem hm_neg (hn : 0 ≤ N) : hm N O (fun k c => -S k c) rt L = sgn L.toNat * hm N O S rt L := by
  unfold hm
  rw [← sumN_scale hn]
  refine sumN_congr rfl fun c _ _ => ?_
  rw [wk_neg]
  dsimp only
  split
  · rfl
  · rw [Int.mul_zero]
end
end Ev
namespace Ev
section
variable {n p q t u : Int} {o s : Int → Int}
theorem Goods.inv (h : Goods n o s) {a b : Int} (a0 : 0 ≤ a) (a1 : a < n) (e : o a = b) : o b = a := by
  obtain ⟨_, _, _, x, _⟩ := h a a0 a1
  rw [← e]; exact x
theorem Goods.set1 (h : Goods n o s) (p0 : 0 ≤ p) (p1 : p < n) (e : o p = p) (ht : t = 1 ∨ t = -1) : Goods n (fun c => if c = p then p else o c) (fun c => if c = p then t else s c) := fun c c0 c1 => by
  dsimp only
  by_cases z : c = p
  · simp only [z, if_true]; exact ⟨p0, p1, ht, trivial, trivial⟩
  · obtain ⟨a, b, d, f, g⟩ := h c c0 c1
    have z2 : ¬(o c = p) := fun y => z (by rw [← e]; exact (h.inv c0 c1 y).symm)
    simp only [z, z2, if_false]; exact ⟨a, b, d, f, g⟩
theorem Goods.flip2 (h : Goods n o s) (p0 : 0 ≤ p) (p1 : p < n) (e : o p = q) (ne : ¬(q = p)) (ht : t = 1 ∨ t = -1) : Goods n (fun c => if c = q then p else if c = p then q else o c) (fun c => if c = q then t else if c = p then t else s c) := fun c c0 c1 => by
  obtain ⟨q0, q1, _⟩ := h p p0 p1
  rw [e] at q0 q1
  have ne2 : ¬(p = q) := fun z => ne z.symm
  dsimp only
  by_cases y : c = q
  · simp only [y, ne2, if_true, if_false]; exact ⟨p0, p1, ht, trivial, trivial⟩
  · by_cases z : c = p
    · simp only [z, ne2, if_true, if_false]; exact ⟨q0, q1, ht, trivial, trivial⟩
    · obtain ⟨a, b, d, f, g⟩ := h c c0 c1
      have z2 : ¬(o c = p) := fun x => y (by rw [← e]; exact (h.inv c0 c1 x).symm)
      have z3 : ¬(o c = q) := fun x => z (by rw [← h.inv c0 c1 x, h.inv p0 p1 e])
      simp only [z, y, z2, z3, if_false]; exact ⟨a, b, d, f, g⟩
theorem Goods.part2 (h : Goods n o s) (p0 : 0 ≤ p) (p1 : p < n) (e : o p = q) (ne : ¬(q = p)) (ht : t = 1 ∨ t = -1) (hu : u = 1 ∨ u = -1) : Goods n (fun c => if c = q then q else if c = p then p else o c) (fun c => if c = q then t else if c = p then u else s c) := fun c c0 c1 => by
  obtain ⟨q0, q1, _⟩ := h p p0 p1
  rw [e] at q0 q1
  have ne2 : ¬(p = q) := fun z => ne z.symm
  dsimp only
  by_cases y : c = q
  · simp only [y, if_true]; exact ⟨q0, q1, ht, trivial, trivial⟩
  · by_cases z : c = p
    · simp only [z, ne2, if_true, if_false]; exact ⟨p0, p1, hu, trivial, trivial⟩
    · obtain ⟨a, b, d, f, g⟩ := h c c0 c1
      have z2 : ¬(o c = p) := fun x => y (by rw [← e]; exact (h.inv c0 c1 x).symm)
      have z3 : ¬(o c = q) := fun x => z (by rw [← h.inv c0 c1 x, h.inv p0 p1 e])
      simp only [z, y, z2, z3, if_false]; exact ⟨a, b, d, f, g⟩
end
theorem put2_at {p q y : Int} {A : Int → Int → Int} : put2 p q y A p = fun j => if j = q then y else A p j := by
  funext j; simp [put2]
theorem put2_ne {p q y i : Int} {A : Int → Int → Int} (h : i ≠ p) : put2 p q y A i = A i := by
  funext j; simp [put2, h]
theorem goods_put {K N p : Int} {O S O' S' : Int → Int → Int} (hg : ∀ k, 0 ≤ k → k < K → Goods N (O k) (S k)) (h : Goods N (O' p) (S' p)) (ho : ∀ k, k ≠ p → O' k = O k ∧ S' k = S k) : ∀ k, 0 ≤ k → k < K → Goods N (O' k) (S' k) := fun k h0 h1 => by
  by_cases q : k = p
  · rw [q]; exact h
  · rw [(ho k q).1, (ho k q).2]; exact hg k h0 h1
end Ev
/-! Ps: lists of whole numbers as sets, one-to-one maps, sums along them; entries made in two steps; dicts of whole numbers; a walk that returns. -/
namespace Ev
open PySem PySem.Spec L2
/-! ### pigeons -/
theorem nodup_le : ∀ {l m : List Int}, l.Nodup → (∀ x ∈ l, x ∈ m) → l.length ≤ m.length
  | [], _, _, _ => Nat.zero_le _
  | x :: l, m, h, s => by
    obtain ⟨h1, h2⟩ := List.nodup_cons.mp h
    have hx := s x List.mem_cons_self
    have := nodup_le (m := m.erase x) h2 fun y hy => (List.mem_erase_of_ne fun z => h1 (by rw [← z]; exact hy)).mpr (s y (List.mem_cons_of_mem _ hy))
    rw [List.length_erase_of_mem hx] at this
    have := List.length_pos_of_mem hx
    rw [List.length_cons]; omega
/-- the numbers below n -/
def upI (n : Int) : List Int := (List.range n.toNat).map fun (k : Nat) => (k : Int)
theorem mem_upI {n x : Int} : x ∈ upI n ↔ 0 ≤ x ∧ x < n := by
  unfold upI
  rw [List.mem_map]
  constructor
  · rintro ⟨k, hk, rfl⟩
    have := List.mem_range.mp hk
    omega
  · rintro ⟨h0, h1⟩
    exact ⟨x.toNat, List.mem_range.mpr (by omega), by omega⟩
theorem nodup_map {f : Int → Int} : ∀ {l : List Int}, l.Nodup → (∀ x ∈ l, ∀ y ∈ l, f x = f y → x = y) → (l.map f).Nodup
  | [], _, _ => List.nodup_nil
  | x :: l, h, i => by
    obtain ⟨h1, h2⟩ := List.nodup_cons.mp h
    rw [List.map_cons, List.nodup_cons]
    refine ⟨fun hm => ?_, nodup_map h2 fun a ha b hb => i a (List.mem_cons_of_mem _ ha) b (List.mem_cons_of_mem _ hb)⟩
    obtain ⟨y, hy, e⟩ := List.mem_map.mp hm
    exact h1 (by rw [← i y (List.mem_cons_of_mem _ hy) x List.mem_cons_self e]; exact hy)
theorem nodup_upI {n : Int} : (upI n).Nodup := by
  unfold upI
  generalize hm : n.toNat = m
  clear hm
  induction m with
  | zero => exact List.nodup_nil
  | succ m ih =>
    rw [List.range_succ, List.map_append, List.nodup_append]
    refine ⟨ih, by simp, fun a ha b hb e => ?_⟩
    obtain ⟨k, hk, rfl⟩ := List.mem_map.mp ha
    have := List.mem_range.mp hk
    simp at hb
    omega
theorem len_upI {n : Int} : (upI n).length = n.toNat := by simp [upI]
theorem pigeon {N : Int} {f : Int → Int} (hr : ∀ c, 0 ≤ c → c < N → 0 ≤ f c ∧ f c < N) (hi : ∀ c d, 0 ≤ c → c < N → 0 ≤ d → d < N → f c = f d → c = d) {j : Int} (h0 : 0 ≤ j) (h1 : j < N) : ∃ c, 0 ≤ c ∧ c < N ∧ f c = j := by
  apply Classical.byContradiction
  intro hn
  have nd : ((upI N).map f).Nodup := nodup_map nodup_upI fun x hx y hy e => by
    have := mem_upI.mp hx
    have := mem_upI.mp hy
    exact hi x y (by omega) (by omega) (by omega) (by omega) e
  have := nodup_le (m := (upI N).erase j) nd fun y hy => by
    obtain ⟨c, hc, rfl⟩ := List.mem_map.mp hy
    obtain ⟨c0, c1⟩ := mem_upI.mp hc
    refine (List.mem_erase_of_ne fun z => hn ⟨c, c0, c1, z⟩).mpr (mem_upI.mpr (hr c c0 c1))
  rw [List.length_erase_of_mem (mem_upI.mpr ⟨h0, h1⟩), List.length_map, len_upI] at this
  omega
/-- one-to-one on the numbers below N, with its inverse -/
structure Bij (N : Int) (f g : Int → Int) : Prop where
  f_ : ∀ c, 0 ≤ c → c < N → 0 ≤ f c ∧ f c < N
  g_ : ∀ c, 0 ≤ c → c < N → 0 ≤ g c ∧ g c < N
  gf : ∀ c, 0 ≤ c → c < N → g (f c) = c
  fg : ∀ c, 0 ≤ c → c < N → f (g c) = c
theorem bij_of {N : Int} {f : Int → Int} (hr : ∀ c, 0 ≤ c → c < N → 0 ≤ f c ∧ f c < N) (hi : ∀ c d, 0 ≤ c → c < N → 0 ≤ d → d < N → f c = f d → c = d) : ∃ g, Bij N f g := by
  classical
  refine ⟨fun j => if h : 0 ≤ j ∧ j < N then (pigeon hr hi h.1 h.2).choose else 0, ⟨hr, fun j h0 h1 => ?_, fun c h0 h1 => ?_, fun j h0 h1 => ?_⟩⟩
  · rw [dif_pos ⟨h0, h1⟩]
    have := (pigeon hr hi h0 h1).choose_spec
    exact ⟨this.1, this.2.1⟩
  · rw [dif_pos (hr c h0 h1)]
    have := (pigeon hr hi (hr c h0 h1).1 (hr c h0 h1).2).choose_spec
    exact hi _ _ this.1 this.2.1 h0 h1 this.2.2
  · rw [dif_pos ⟨h0, h1⟩]
    exact (pigeon hr hi h0 h1).choose_spec.2.2
theorem sumN_plus {n : Int} {f h : Int → Int} (hn : 0 ≤ n) : (sumN n fun i => f i + h i) = sumN n f + sumN n h := by
  refine sumN_ind (P := fun n => (sumN n fun i => f i + h i) = sumN n f + sumN n h) (by simp) (fun j hj ih => ?_) n hn
  rw [sumN_succ hj, sumN_succ hj, sumN_succ hj, ih]; omega
theorem sumN_zero {n : Int} (hn : 0 ≤ n) : (sumN n fun _ => 0) = 0 := by
  refine sumN_ind (P := fun n => (sumN n fun _ => 0) = 0) (by simp) (fun j hj ih => ?_) n hn
  rw [sumN_succ hj, ih]; omega
theorem sumN_swap {n m : Int} {f : Int → Int → Int} (hn : 0 ≤ n) (hm : 0 ≤ m) : (sumN n fun i => sumN m fun j => f i j) = sumN m fun j => sumN n fun i => f i j := by
  refine sumN_ind (P := fun n => (sumN n fun i => sumN m fun j => f i j) = sumN m fun j => sumN n fun i => f i j) (by simp [sumN_zero hm]) (fun k hk ih => ?_) n hn
  rw [sumN_succ hk, ih, ← sumN_plus hm]
  exact sumN_congr rfl fun j _ _ => (sumN_succ hk).symm
theorem sumN_bij {N : Int} {f g h : Int → Int} (hn : 0 ≤ N) (b : Bij N f g) : (sumN N fun c => h (f c)) = sumN N h := by
  have e1 : (sumN N fun c => h (f c)) = sumN N fun c => sumN N fun j => if f c = j then h j else 0 := sumN_congr rfl fun c c0 c1 => (sumN_pick (b.f_ c c0 c1).1 (b.f_ c c0 c1).2).symm
  rw [e1, sumN_swap hn hn]
  refine sumN_congr rfl fun j j0 j1 => ?_
  refine Eq.trans ?_ (sumN_pick (f := fun _ => h j) (b.g_ j j0 j1).1 (b.g_ j j0 j1).2)
  refine sumN_congr rfl fun c c0 c1 => ?_
  by_cases q : f c = j
  · rw [if_pos q, if_pos (by rw [← q]; exact b.gf c c0 c1)]
  · rw [if_neg q, if_neg fun z => q (by rw [← z]; exact b.fg j j0 j1)]
/-! ### lists of whole numbers -/
theorem inD_ints {i : Int} {ls : List Int} : inD (.int i) (ls.map .int) = decide (i ∈ ls) := by
  unfold inD
  induction ls with
  | nil => rfl
  | cons x ls ih =>
    rw [List.map_cons, List.any_cons, ih, show PyData.eqv (py (.int x)) (py (.int i)) = decide (x = i) from deq_int]
    by_cases q : x = i
    · subst q; simp
    · simp [q, show ¬(i = x) from fun z => q z.symm]
theorem isPyL_ints {k : Nat} {ls : List Int} : isPyL k (ls.map .int) = true := isPyL_all fun d hd => by
  obtain ⟨i, _, rfl⟩ := List.mem_map.mp hd
  exact isPy_int
@[simp] theorem inn_ints {i : Int} {ls : List Int} {n m : Nat} (h : m ≤ 1) : cmpD .inn (.int i, n) (.lst (ls.map .int), m) = .ok (decide (i ∈ ls)) := by
  show (if m ≤ 1 ∧ isPy 60 (.int i) = true ∧ isPyL 60 (ls.map .int) = true then Res.ok (inD (.int i) (ls.map .int)) else .fail) = _
  rw [if_pos ⟨h, isPy_int, isPyL_ints⟩, inD_ints]
@[simp] theorem nin_ints {i : Int} {ls : List Int} {n m : Nat} (h : m ≤ 1) : cmpD .nin (.int i, n) (.lst (ls.map .int), m) = .ok (!decide (i ∈ ls)) := by
  show (if m ≤ 1 ∧ isPy 60 (.int i) = true ∧ isPyL 60 (ls.map .int) = true then Res.ok (!inD (.int i) (ls.map .int)) else .fail) = _
  rw [if_pos ⟨h, isPy_int, isPyL_ints⟩, inD_ints]
theorem tab_upI {n : Int} : (tab n fun i => D.int i) = (upI n).map .int := by simp [tab, upI]
theorem erase_map : ∀ {ls : List Int} {k : Nat}, (ls.map D.int).eraseIdx k = (ls.eraseIdx k).map .int
  | [], _ => rfl
  | _ :: _, 0 => rfl
  | x :: ls, k + 1 => by simp only [List.map_cons, List.eraseIdx_cons_succ, erase_map]
theorem erase_mem : ∀ {ls : List Int}, ls.Nodup → ∀ {p : Nat} {x y : Int}, ls[p]? = some x → (y ∈ ls.eraseIdx p ↔ y ∈ ls ∧ y ≠ x)
  | [], _, p, x, y, h => by simp at h
  | a :: ls, nd, 0, x, y, h => by
    simp at h
    subst h
    obtain ⟨h1, h2⟩ := List.nodup_cons.mp nd
    rw [List.eraseIdx_cons_zero, List.mem_cons]
    constructor
    · intro hy; exact ⟨.inr hy, fun z => h1 (by rw [← z]; exact hy)⟩
    · rintro ⟨hy | hy, ne⟩
      · exact absurd hy ne
      · exact hy
  | a :: ls, nd, p + 1, x, y, h => by
    obtain ⟨h1, h2⟩ := List.nodup_cons.mp nd
    have h : ls[p]? = some x := by simpa using h
    rw [List.eraseIdx_cons_succ, List.mem_cons, List.mem_cons, erase_mem h2 h]
    have hx := List.mem_of_getElem? h
    constructor
    · rintro (hy | ⟨hy, ne⟩)
      · exact ⟨.inl hy, fun z => h1 (by rw [← hy, z]; exact hx)⟩
      · exact ⟨.inr hy, ne⟩
    · rintro ⟨hy | hy, ne⟩
      · exact .inl hy
      · exact .inr ⟨hy, ne⟩
/-- what is drawn by taking numbers out of those left -/
structure Drawn (N k : Int) (F : Int → Int) (ls : List Int) : Prop where
  nd : ls.Nodup
  len : (ls.length : Int) = N - k
  mem : ∀ x ∈ ls, 0 ≤ x ∧ x < N
  rng : ∀ c, 0 ≤ c → c < k → 0 ≤ F c ∧ F c < N ∧ F c ∉ ls
  inj : ∀ c d, 0 ≤ c → c < k → 0 ≤ d → d < k → F c = F d → c = d
theorem Drawn.start {N : Int} {F : Int → Int} (h : 0 ≤ N) : Drawn N 0 F (upI N) := ⟨nodup_upI, by rw [len_upI]; omega, fun x h => mem_upI.mp h, fun c h0 h1 => by omega, fun c d h0 h1 => by omega⟩
theorem Drawn.step {N k x : Int} {p : Nat} {F : Int → Int} {ls : List Int} (d : Drawn N k F ls) (k0 : 0 ≤ k) (hx : ls[p]? = some x) (hF : F k = x) : Drawn N (k + 1) F (ls.eraseIdx p) := by
  have hp := (List.getElem?_eq_some_iff.mp hx).1
  have hm := List.mem_of_getElem? hx
  obtain ⟨x0, x1⟩ := d.mem x hm
  refine ⟨d.nd.eraseIdx p, ?_, fun y hy => d.mem y ((erase_mem d.nd hx).mp hy).1, fun c c0 c1 => ?_, fun c e c0 c1 e0 e1 h => ?_⟩
  · have := d.len
    rw [List.length_eraseIdx_of_lt hp]
    omega
  · by_cases q : c = k
    · subst q
      rw [hF]
      exact ⟨x0, x1, fun z => ((erase_mem d.nd hx).mp z).2 rfl⟩
    · obtain ⟨a1, a2, a3⟩ := d.rng c c0 (by omega)
      exact ⟨a1, a2, fun z => a3 ((erase_mem d.nd hx).mp z).1⟩
  · by_cases q : c = k
    · by_cases q2 : e = k
      · omega
      · obtain ⟨_, _, a3⟩ := d.rng e e0 (by omega)
        rw [← h, q, hF] at a3
        exact absurd hm a3
    · by_cases q2 : e = k
      · obtain ⟨_, _, a3⟩ := d.rng c c0 (by omega)
        rw [h, q2, hF] at a3
        exact absurd hm a3
      · exact d.inj c e c0 (by omega) e0 (by omega) h
theorem Drawn.cg {N k : Int} {F F' : Int → Int} {ls : List Int} (d : Drawn N k F ls) (h : ∀ c, 0 ≤ c → c < k → F' c = F c) : Drawn N k F' ls :=
  ⟨d.nd, d.len, d.mem, fun c c0 c1 => by rw [h c c0 c1]; exact d.rng c c0 c1, fun c e c0 c1 e0 e1 q => d.inj c e c0 c1 e0 e1 (by rw [← h c c0 c1, ← h e e0 e1]; exact q)⟩
@[simp] theorem pop_ints {ls : List Int} {p : Int} {x : Int} (h0 : 0 ≤ p) (h1 : p < 1000000) (hx : ls[p.toNat]? = some x) : popC (.lst (ls.map .int), 1) [.int p] = some ((.lst ((ls.eraseIdx p.toNat).map .int), 1), .int x) := by
  have hl : p.toNat < ls.length := (List.getElem?_eq_some_iff.mp hx).1
  have hs : seqIndex? p (ls.map D.int).length = some p.toNat := by
    unfold seqIndex?
    have e : (if p < 0 then p + ((ls.map D.int).length : Int) else p) = p := if_neg (by omega)
    rw [e]
    exact if_pos (by simp only [List.length_map, Bool.and_eq_true, decide_eq_true_eq]; omega)
  show (pop1 (.lst (ls.map .int)) (.int p)).map _ = _
  have e : pop1 (.lst (ls.map .int)) (.int p) = some (.lst ((ls.eraseIdx p.toNat).map .int), .int x) := by
    show (if -(2 ^ 63) ≤ p ∧ p < 2 ^ 63 then (seqIndex? p (ls.map D.int).length).bind fun k => ((ls.map D.int)[k]?).map fun y => (D.lst ((ls.map D.int).eraseIdx k), y) else none) = _
    rw [if_pos (by omega), hs]
    show ((ls.map D.int)[p.toNat]?).map _ = _
    rw [List.getElem?_map, hx]
    simp only [Option.map_some]
    rw [erase_map]
  rw [e]; rfl
/-! ### dicts of whole numbers -/
def dints (ls : List Int) : D := .dic false (ls.map .int) (ls.map fun _ => .bl true)
theorem keyEq_int {i j : Int} : keyEq false (.int i) (.int j) = decide (i = j) := by
  simp [keyEq, keyOf]
theorem look_ints {i : Int} : ∀ {ls : List Int}, (dicLook false (ls.map .int) (ls.map fun _ => D.bl true) (.int i)).isSome = decide (i ∈ ls)
  | [] => by simp [dicLook]
  | x :: ls => by
    rw [List.map_cons, List.map_cons]
    unfold dicLook
    rw [keyEq_int]
    by_cases q : x = i
    · subst q; simp
    · rw [if_neg (by simpa using q), look_ints]
      simp [show ¬(i = x) from fun z => q z.symm]
@[simp] theorem inn_dints {i : Int} {ls : List Int} {n m : Nat} : cmpD .inn (.int i, n) (dints ls, m) = .ok (decide (i ∈ ls)) := by
  show (if isKey false (.int i) then Res.ok (dicLook false (ls.map .int) (ls.map fun _ => D.bl true) (.int i)).isSome else .fail) = _
  rw [if_pos (by rfl), look_ints]
theorem any_ints {i : Int} : ∀ {ls : List Int}, ((ls.map D.int).any fun k => keyEq false k (.int i)) = decide (i ∈ ls)
  | [] => rfl
  | x :: ls => by
    rw [List.map_cons, List.any_cons, any_ints, keyEq_int]
    by_cases q : x = i
    · subst q; simp
    · simp [q, show ¬(i = x) from fun z => q z.symm]
@[simp] theorem put_dints {i : Int} {ls : List Int} (h : i ∉ ls) (hl : (ls.length : Int) < 16777216) : put1 (dints ls) (.int i) (.bl true) = some (dints (ls ++ [i])) := by
  show (if isKey false (.int i) ∧ (ls.map D.int).length < cap then some (D.dic false (dicPut false (ls.map .int) (ls.map fun _ => D.bl true) (.int i) (.bl true)).1 (dicPut false (ls.map .int) (ls.map fun _ => D.bl true) (.int i) (.bl true)).2) else none) = _
  rw [if_pos ⟨rfl, by rw [List.length_map]; unfold cap; omega⟩]
  have e : dicPut false (ls.map .int) (ls.map fun _ => D.bl true) (.int i) (.bl true) = ((ls ++ [i]).map .int, (ls ++ [i]).map fun _ => D.bl true) := by
    unfold dicPut
    rw [any_ints, if_neg (by simpa using h)]
    simp
  rw [e]; rfl
@[simp] theorem dints_nil : D.dic false [] [] = dints [] := rfl
/-! ### entries made in any order -/
def ents (r c : Int) (E : Int → Int → Option (Int × Int)) : D := .lst (tab r fun k => .lst (tab c fun j => eD (E k j)))
theorem ents_cg {r c : Int} {E E' : Int → Int → Option (Int × Int)} (h : ∀ k, 0 ≤ k → k < r → ∀ j, 0 ≤ j → j < c → E k j = E' k j) : ents r c E = ents r c E' := by
  unfold ents
  rw [tab_cg rfl fun k k0 k1 => by rw [tab_cg rfl fun j j0 j1 => by rw [h k k0 k1 j j0 j1]]]
theorem sti2_tab {r c p q : Int} {A : Int → Int → D} {y : D} {Γ : Env} {i n m k : Nat} (h0 : 0 ≤ p) (h1 : p < r) (h2 : 0 ≤ q) (h3 : q < c) : sti2G Γ i (.ok (.lst (tab r fun i => .lst (tab c (A i))), 2)) (.ok (.int p, n)) (.ok (.int q, m)) (.ok (y, k)) = .nx (Γ.set i (some (.lst (tab r fun i => .lst (tab c fun j => if i = p ∧ j = q then y else A i j)), 2))) := by
  obtain ⟨a, rfl, ha⟩ := toN h0 h1
  have e1 : innerAt (.lst (tab r fun i => .lst (tab c (A i))), 2) (.int (a : Int)) = some (tab r fun i => .lst (tab c (A i)), a, tab c (A a)) := by
    show (if 2 = 2 then (ixN (tab r fun i => D.lst (tab c (A i))).length (a : Int)).bind _ else none) = _
    have e : ixN (tab r fun i => D.lst (tab c (A i))).length (a : Int) = some a := by
      unfold ixN
      rw [if_pos (by omega), if_pos (by rw [tab_len]; omega), Int.toNat_natCast]
    rw [if_pos rfl, e]
    show (match (tab r fun i => D.lst (tab c (A i)))[a]? with | some (.lst m) => _ | _ => none) = _
    rw [tab_get h1]
  show optO (innerAt (.lst (tab r fun i => .lst (tab c (A i))), 2) (.int (a : Int))) _ = _
  rw [e1]
  show optO (put1 (.lst (tab c (A a))) (.int q) y) _ = _
  rw [put1_tab h2 h3]
  show Out.nx _ = _
  congr 2
  show some (D.lst _, 2) = some (D.lst _, 2)
  congr 3
  refine List.ext_getElem? fun j => ?_
  rw [List.getElem?_set]
  by_cases hj : (j : Int) < r
  · by_cases e2 : a = j
    · subst e2
      rw [if_pos rfl, if_pos (by rw [tab_len]; omega), tab_get hj]
      congr 2
      refine tab_cg rfl fun z _ _ => ?_
      by_cases q2 : z = q
      · simp [q2]
      · simp [q2]
    · rw [if_neg e2, tab_get hj, tab_get hj]
      congr 2
      refine tab_cg rfl fun z _ _ => ?_
      simp [show ¬((j : Int) = (a : Int)) by omega]
  · have n1 : ∀ f, (tab r f)[j]? = none := fun f => List.getElem?_eq_none (by rw [tab_len]; omega)
    have nj : ¬(a = j) := by omega
    rw [n1, n1, if_neg nj]
@[simp] theorem sti2_ents {r c p q y z : Int} {E : Int → Int → Option (Int × Int)} {Γ : Env} {i n m k : Nat} (h0 : 0 ≤ p) (h1 : p < r) (h2 : 0 ≤ q) (h3 : q < c) : sti2G Γ i (.ok (ents r c E, 2)) (.ok (.int p, n)) (.ok (.int q, m)) (.ok (.tup [.int y, .int z], k)) = .nx (Γ.set i (some (ents r c fun i j => if i = p ∧ j = q then some (y, z) else E i j, 2))) := by
  unfold ents
  rw [sti2_tab h0 h1 h2 h3]
  congr 3
  refine Prod.ext ?_ rfl
  show D.lst _ = D.lst _
  congr 1
  refine tab_cg rfl fun a _ _ => ?_
  congr 1
  refine tab_cg rfl fun b _ _ => ?_
  by_cases q2 : a = p ∧ b = q
  · simp only [q2, and_self, if_true, eD]
  · simp only [q2, if_false]
/-! ### a walk that returns -/
theorem for_ret {G : Glb} {t : TG} {b k : SC} {F : Int → D} {n a : Int} {d : D} {m : Nat} (I : Int → Env → Prop) {Γ : Env} (ha0 : 0 ≤ a) (ha : a < n) (h0 : I 0 Γ) (st : ∀ i Γ, 0 ≤ i → i < a → I i Γ → okO (I (i + 1)) ((asgT t (F i, 0) Γ).out Γ (exE G b)))
    (hx : ∀ Γ, I a Γ → (asgT t (F a, 0) Γ).out Γ (exE G b) = .ret d m) : thenG (forG G t b Γ (tab n F)) G k = .ret d m := by
  obtain ⟨q, rfl⟩ : ∃ q : Nat, n = q := ⟨n.toNat, by omega⟩
  obtain ⟨a', rfl⟩ : ∃ a' : Nat, a = a' := ⟨a.toNat, by omega⟩
  have key : ∀ (l k : Nat) (Γ : Env), k + l = a' → I k Γ → forRun (fun d Γ1 => asgT t (d, 0) Γ1) (fun Γ1 => ex G b Γ1) ((List.range' k (q - k)).map fun (j : Nat) => F (j : Int)) Γ = .ret d m := by
    intro l
    induction l with
    | zero =>
      intro k Γ e h
      have e : k = a' := by omega
      subst e
      have e2 := hx Γ h
      obtain ⟨r, er⟩ : ∃ r, q - k = r + 1 := ⟨q - k - 1, by omega⟩
      rw [er, List.range'_succ, List.map_cons]
      unfold forRun
      cases hq : asgT t (F k, 0) Γ with
      | ok Γ1 =>
        rw [hq] at e2
        simp only [Res.out_ok, exE_eq] at e2
        dsimp only
        rw [e2]
      | exc c ns ds => rw [hq] at e2; cases e2
      | fail => rw [hq] at e2; cases e2
    | succ l ih =>
      intro k Γ e h
      obtain ⟨Γ2, e2, h2⟩ := okO_ex (st k Γ (by omega) (by omega) h)
      have e3 := ih (k + 1) Γ2 (by omega) (by push_cast; exact h2)
      obtain ⟨r, er⟩ : ∃ r, q - k = r + 1 := ⟨q - k - 1, by omega⟩
      have er2 : q - (k + 1) = r := by omega
      rw [er2] at e3
      rw [er, List.range'_succ, List.map_cons]
      unfold forRun
      cases hq : asgT t (F k, 0) Γ with
      | ok Γ1 =>
        rw [hq] at e2
        simp only [Res.out_ok, exE_eq] at e2
        dsimp only
        rcases e2 with e2 | e2 <;> rw [e2] <;> exact e3
      | exc c ns ds => rw [hq] at e2; rcases e2 with e2 | e2 <;> cases e2
      | fail => rw [hq] at e2; rcases e2 with e2 | e2 <;> cases e2
  have := key a' 0 Γ (by omega) h0
  unfold forG
  rw [show tab (q : Int) F = (List.range' 0 (q - 0)).map fun (j : Nat) => F (j : Int) by simp [tab, List.range_eq_range'], this]
  rfl
theorem for_finr {G : Glb} {t : TG} {b k : SC} {F : Int → D} {n a : Int} {d : D} {m : Nat} (I : Int → Env → Prop) {Γ : Env} (ha0 : 0 ≤ a) (ha : a < n) (h0 : I 0 Γ) (st : ∀ i Γ, 0 ≤ i → i < a → I i Γ → okO (I (i + 1)) ((asgT t (F i, 0) Γ).out Γ (exE G b)))
    (hx : ∀ Γ, I a Γ → (asgT t (F a, 0) Γ).out Γ (exE G b) = .ret d m) : finR (thenG (forG G t b Γ (tab n F)) G k) = .ok (d, m) := by
  rw [for_ret I ha0 ha h0 st hx]; rfl
/-- the first of the numbers below n of a kind -/
theorem first_of {n : Int} {P : Int → Prop} : (∀ c, 0 ≤ c → c < n → ¬P c) ∨ ∃ a, 0 ≤ a ∧ a < n ∧ P a ∧ ∀ c, 0 ≤ c → c < a → ¬P c := by
  by_cases h : ∃ c, 0 ≤ c ∧ c < n ∧ P c
  · right
    obtain ⟨c, c0, c1, hc⟩ := h
    have key : ∀ m : Nat, ∀ c : Int, c.toNat = m → 0 ≤ c → c < n → P c → ∃ a, 0 ≤ a ∧ a < n ∧ P a ∧ ∀ c, 0 ≤ c → c < a → ¬P c := by
      intro m
      induction m using Nat.strongRecOn with
      | ind m ih =>
        intro c e c0 c1 hc
        by_cases q : ∃ d, 0 ≤ d ∧ d < c ∧ P d
        · obtain ⟨d, d0, d1, hd⟩ := q
          exact ih d.toNat (by omega) d rfl d0 (by omega) hd
        · exact ⟨c, c0, c1, hc, fun d d0 d1 hd => q ⟨d, d0, d1, hd⟩⟩
    exact key _ c rfl c0 c1 hc
  · exact .inl fun c c0 c1 hc => h ⟨c, c0, c1, hc⟩
end Ev
/-! Pt: namings: tables of pairs, tuples or lists. -/
namespace Ev
open PySem PySem.Spec L2
theorem upI_succ {c : Int} (h : 0 ≤ c) : upI (c + 1) = upI c ++ [c] := by
  have e : (c + 1).toNat = c.toNat + 1 := by omega
  unfold upI
  rw [e, List.range_succ, List.map_append]
  simp only [List.map_cons, List.map_nil]
  rw [show ((c.toNat : Nat) : Int) = c by omega]
@[simp] theorem upI_0 : upI 0 = [] := rfl
theorem len_upI' {c : Int} (h : 0 ≤ c) : ((upI c).length : Int) = c := by rw [len_upI]; omega
@[simp] theorem abs_i {i : Int} {n : Nat} : biD .abs [(.int i, n)] = .ok (.int (i.natAbs : Int), 0) := by simp only [biD, bi1D, absD]; congr 3; omega
def nam (b b2 : Bool) (n : Int) (A B : Int → Int) : D := sq b (tab n fun c => sq b2 [.int (A c), .int (B c)])
section
variable {b b2 : Bool} {n N : Int} {A B : Int → Int} {k : Nat} {Γ : Env}
@[simp] theorem asg_sq {ts : List TG} {l : List D} : asgT (.tp ts) (sq b l, 0) Γ = asgL ts l Γ := by cases b <;> simp [sq, asgT]
@[simp] theorem len_nam (h : 0 ≤ n) : biD .len [(nam b b2 n A B, k)] = .ok (.int n, 0) := by rw [nam, len_sq, tab_leni h]
@[simp] theorem seq_nam0 {fz : Bool} : seqItems fz (nam b b2 n A B, 0) = .ok (tab n fun c => sq b2 [.int (A c), .int (B c)]) := seq_sq (.inl rfl)
@[simp] theorem seq_nam1 : seqItems false (nam b b2 n A B, 1) = .ok (tab n fun c => sq b2 [.int (A c), .int (B c)]) := seq_sq (.inr ⟨rfl, Nat.le_refl _⟩)
@[simp] theorem idx_nam {i : Int} (h : 0 ≤ i) (h2 : i < n) : idxD (nam b b2 n A B, 0) (.int i) = .ok (sq b2 [.int (A i), .int (B i)], 0) := by rw [nam, idx_sq, atI_tab h h2]; rfl
@[simp] theorem tuple_nam (h : k ≤ 1) : biD .tuple [(nam b b2 n A B, k)] = .ok (nam true b2 n A B, 0) := tup_sq h
@[simp] theorem list_nam (h : k ≤ 1) : biD .list [(nam b b2 n A B, k)] = .ok (nam false b2 n A B, 1) := lst_sq h
@[simp] theorem idx_sq2_0 {x y : D} : idxD (sq b [x, y], 0) (.int 0) = .ok (x, 0) := by rw [idx_sq]; rfl
@[simp] theorem idx_sq2_1 {x y : D} : idxD (sq b [x, y], 0) (.int 1) = .ok (y, 0) := by rw [idx_sq]; rfl
@[simp] theorem list_sq2 {x y : D} : biD .list [(sq b [x, y], 0)] = .ok (.lst [x, y], 1) := lst_sq (Nat.zero_le _)
@[simp] theorem isPy_nam {k : Nat} : isPy (k + 2) (nam b b2 n A B) = true := by rw [nam, isPy_sq]; exact isPyL_tab fun _ => by rw [isPy_sq]; simp
theorem ptr_nam : ptr b n A B = nam b true n A B := rfl
@[simp] theorem pls_l : D.lst (tab n fun c => .lst [.int (A c), .int (B c)]) = nam false false n A B := rfl
@[simp] theorem pls_t : D.tup (tab n fun c => .lst [.int (A c), .int (B c)]) = nam true false n A B := rfl
theorem nam_cg {m : Int} {A' B' : Int → Int} (e : n = m) (h : ∀ c, 0 ≤ c → c < m → A c = A' c ∧ B c = B' c) : nam b b2 n A B = nam b b2 m A' B' := by
  unfold nam; rw [tab_cg e fun i h1 h2 => by rw [(h i h1 h2).1, (h i h1 h2).2]]
theorem sti2_rows {r p q : Int} {R : Int → List D} {y : D} {i n1 m1 k1 : Nat} (h0 : 0 ≤ p) (h1 : p < r) (h2 : 0 ≤ q) (h3 : q < (R p).length) : sti2G Γ i (.ok (.lst (tab r fun i => .lst (R i)), 2)) (.ok (.int p, n1)) (.ok (.int q, m1)) (.ok (y, k1)) = .nx (Γ.set i (some (.lst (tab r fun i => .lst (if i = p then (R p).set q.toNat y else R i)), 2))) := by
  obtain ⟨a, rfl, ha⟩ := toN h0 h1
  have e1 : innerAt (.lst (tab r fun i => .lst (R i)), 2) (.int (a : Int)) = some (tab r fun i => .lst (R i), a, R a) := by
    show (if 2 = 2 then (ixN (tab r fun i => D.lst (R i)).length (a : Int)).bind _ else none) = _
    have e : ixN (tab r fun i => D.lst (R i)).length (a : Int) = some a := by
      unfold ixN
      rw [if_pos (by omega), if_pos (by rw [tab_len]; omega), Int.toNat_natCast]
    rw [if_pos rfl, e]
    show (match (tab r fun i => D.lst (R i))[a]? with | some (.lst m) => _ | _ => none) = _
    rw [tab_get h1]
  have e2 : put1 (.lst (R a)) (.int q) y = some (.lst ((R a).set q.toNat y)) := by
    show (ixN (R a).length q).map _ = _
    have e : ixN (R a).length q = some q.toNat := by
      unfold ixN
      rw [if_pos h2, if_pos h3]
    rw [e]; rfl
  show optO (innerAt (.lst (tab r fun i => .lst (R i)), 2) (.int (a : Int))) _ = _
  rw [e1]
  show optO (put1 (.lst (R a)) (.int q) y) _ = _
  rw [e2]
  show Out.nx _ = _
  congr 2
  show some (D.lst _, 2) = some (D.lst _, 2)
  congr 3
  refine List.ext_getElem? fun j => ?_
  rw [List.getElem?_set]
  by_cases hj : (j : Int) < r
  · by_cases e2 : a = j
    · subst e2
      rw [if_pos rfl, if_pos (by rw [tab_len]; omega), tab_get hj]
      simp
    · rw [if_neg e2, tab_get hj, tab_get hj]
      simp [show ¬((j : Int) = (a : Int)) by omega]
  · have n1 : ∀ f, (tab r f)[j]? = none := fun f => List.getElem?_eq_none (by rw [tab_len]; omega)
    have nj : ¬(a = j) := by omega
    rw [n1, n1, if_neg nj]
@[simp] theorem sti2_nam0 {p y : Int} {i n1 m1 k1 : Nat} (h0 : 0 ≤ p) (h1 : p < n) : sti2G Γ i (.ok (nam false false n A B, 2)) (.ok (.int p, n1)) (.ok (.int 0, m1)) (.ok (.int y, k1)) = .nx (Γ.set i (some (nam false false n (fun c => if c = p then y else A c) B, 2))) := by
  show sti2G Γ i (.ok (.lst (tab n fun c => .lst [.int (A c), .int (B c)]), 2)) _ _ _ = _
  rw [sti2_rows (R := fun c => [.int (A c), .int (B c)]) h0 h1 (Int.le_refl 0) (by simp)]
  congr 3
  refine Prod.ext ?_ rfl
  show D.lst _ = D.lst _
  congr 1
  refine tab_cg rfl fun c _ _ => ?_
  by_cases q : c = p
  · subst q; simp; rfl
  · simp [q]; rfl
@[simp] theorem sti2_nam1 {p y : Int} {i n1 m1 k1 : Nat} (h0 : 0 ≤ p) (h1 : p < n) : sti2G Γ i (.ok (nam false false n A B, 2)) (.ok (.int p, n1)) (.ok (.int 1, m1)) (.ok (.int y, k1)) = .nx (Γ.set i (some (nam false false n A (fun c => if c = p then y else B c), 2))) := by
  show sti2G Γ i (.ok (.lst (tab n fun c => .lst [.int (A c), .int (B c)]), 2)) _ _ _ = _
  rw [sti2_rows (R := fun c => [.int (A c), .int (B c)]) h0 h1 (by omega) (by simp)]
  congr 3
  refine Prod.ext ?_ rfl
  show D.lst _ = D.lst _
  congr 1
  refine tab_cg rfl fun c _ _ => ?_
  by_cases q : c = p
  · subst q; simp; rfl
  · simp [q]; rfl
@[simp] theorem idx_nam2 {i : Int} (h : 0 ≤ i) (h2 : i < n) : idxD (nam false false n A B, 2) (.int i) = .ok (.lst [.int (A i), .int (B i)], 1) := by
  show idxD (.lst _, 2) _ = _
  rw [idx_l, atI_tab h h2]; rfl
@[simp] theorem slc_nam_hi {j : Int} (hk : k ≤ 1) (h : 0 ≤ j) (hn : 0 ≤ n) : slcD (nam b b2 n A B, k) none (some j) = .ok (nam b b2 (if j ≤ n then j else n) A B, if b then 0 else 1) := by
  unfold nam; rw [slc_sq hk, cut_min h hn]
@[simp] theorem add_nam1 {k2 : Nat} {x y : Int} (hk : k ≤ 1) (hk2 : k2 ≤ 1) (h : 0 ≤ n) (h2 : n < 16777216) : binD .add (nam false false n A B, k) (.lst [.lst [.int x, .int y]], k2) = .ok (nam false false (n + 1) (fun i => if i < n then A i else x) (fun i => if i < n then B i else y), 1) := by
  show binD .add (.lst _, k) _ = _
  rw [add_l, if_pos ⟨hk, hk2, by simp only [tab_len, List.length_cons, List.length_nil]; unfold cap; omega⟩, tab_snoc h]
  unfold nam
  show Res.ok (D.lst _, 1) = Res.ok (D.lst _, 1)
  congr 3
  refine tab_cg rfl fun i _ _ => ?_
  dsimp only
  split <;> rfl
/-- a pair that a naming may not have -/
def BadN (N : Int) (A B : Int → Int) (c : Int) : Prop := ¬(B c = 1 ∨ B c = -1) ∨ ¬(0 ≤ A c ∧ A c < N) ∨ A c ∈ (upI c).map A
theorem goodN {c : Int} (h : ¬BadN N A B c) : (B c = 1 ∨ B c = -1) ∧ (0 ≤ A c ∧ A c < N) ∧ A c ∉ (upI c).map A := by
  unfold BadN at h
  refine ⟨Classical.byContradiction fun z => h (.inl z), Classical.byContradiction fun z => h (.inr (.inl z)), fun z => h (.inr (.inr z))⟩
theorem bij_nam (h : ∀ c, 0 ≤ c → c < N → ¬BadN N A B c) : ∃ g, Bij N A g := by
  refine bij_of (fun c c0 c1 => (goodN (h c c0 c1)).2.1) fun c d c0 c1 d0 d1 e => ?_
  have key : ∀ c d, 0 ≤ c → c < d → d < N → A c ≠ A d := fun c d c0 cd d1 e => (goodN (h d (by omega) d1)).2.2 (by
    rw [← e]
    exact List.mem_map.mpr ⟨c, mem_upI.mpr ⟨c0, cd⟩, rfl⟩)
  rcases Int.lt_trichotomy c d with q | q | q
  · exact absurd e (key c d c0 q d1)
  · exact q
  · exact absurd e.symm (key d c d0 q c1)
end
end Ev
/-! Pure part: dicts of pairs, of ints; the ordered pairs below n; the items of parts. -/
namespace Ev
open PySem PySem.Spec L2
/-! ### a dict from pairs of ints to ints -/
def dpr (ks : List (Int × Int)) (f : Int × Int → Int) : D := .dic true (ks.map prD) (ks.map fun p => .int (f p))
section
variable {a b : Int} {p q : Int × Int} {ks : List (Int × Int)} {f : Int × Int → Int} {n m k : Nat}
theorem isKey_pr : isKey true (prD p) = true := by simp [isKey, prD, keyT, keysG, keyOf]
theorem keyEq_pr : keyEq true (prD p) (prD q) = decide (p = q) := by
  obtain ⟨a, b⟩ := p
  obtain ⟨c, d⟩ := q
  simp [keyEq, prD, keyT, keysG, keyOf]
theorem look_pr : ∀ {ks : List (Int × Int)}, dicLook true (ks.map prD) (ks.map fun p => D.int (f p)) (prD q) = if q ∈ ks then some (.int (f q)) else none
  | [] => rfl
  | p :: ks => by
    rw [List.map_cons, List.map_cons, dicLook, keyEq_pr, look_pr (ks := ks)]
    by_cases e : p = q
    · subst e; simp
    · have e2 : ¬q = p := fun z => e z.symm
      simp [e, e2]
theorem any_pr : ∀ {ks : List (Int × Int)}, ((ks.map prD).any fun k => keyEq true k (prD q)) = decide (q ∈ ks)
  | [] => rfl
  | p :: ks => by
    rw [List.map_cons, List.any_cons, keyEq_pr, any_pr (ks := ks)]
    by_cases e : p = q
    · subst e; simp
    · have e2 : ¬q = p := fun z => e z.symm
      simp [e, e2]
theorem zw_pr {y : Int} : ∀ {ks : List (Int × Int)}, List.zipWith (fun k v => if keyEq true k (prD q) then D.int y else v) (ks.map prD) (ks.map fun p => D.int (f p)) = ks.map fun p => .int (if p = q then y else f p)
  | [] => rfl
  | p :: ks => by
    rw [List.map_cons, List.map_cons, List.zipWith_cons_cons, keyEq_pr, zw_pr (ks := ks), List.map_cons]
    by_cases e : p = q
    · simp [e]
    · simp [e]
/-- a key put in -/
def addk (ks : List (Int × Int)) (p : Int × Int) : List (Int × Int) := if p ∈ ks then ks else ks ++ [p]
theorem mem_addk : q ∈ addk ks p ↔ q ∈ ks ∨ q = p := by
  unfold addk
  split
  · constructor
    · exact .inl
    · rintro (h | h)
      · exact h
      · subst h; assumption
  · simp
theorem addk_nodup (h : ks.Nodup) : (addk ks p).Nodup := by
  unfold addk
  split
  · exact h
  · rename_i hp
    refine List.nodup_append.mpr ⟨h, by simp, fun x hx y hy e => ?_⟩
    have : y = p := by simpa using hy
    subst this; subst e
    exact hp hx
theorem addk_len : (addk ks p).length ≤ ks.length + 1 := by
  unfold addk
  split
  · omega
  · simp
@[simp] theorem dgetX_pr {y : Res (D × Nat)} {d : Res (List (D × Nat))} : dgetX y d (dpr ks f, n) = bind2 (dgetF (dpr ks f, n)) y d := rfl
@[simp] theorem dget_pr (h : (a, b) ∉ ks → f (a, b) = 0) : dgetD (dpr ks f) (.tup [.int a, .int b]) (.int 0) = .ok (.int (f (a, b)), 0) := by
  show dgetD (dpr ks f) (prD (a, b)) (.int 0) = _
  unfold dgetD dpr
  dsimp only
  rw [isKey_pr, if_pos rfl, look_pr]
  by_cases e : (a, b) ∈ ks
  · rw [if_pos e]; rfl
  · rw [if_neg e, h e]; rfl
@[simp] theorem put_pr {y : Int} (hl : (ks.length : Int) < 16777216) : put1 (dpr ks f) (.tup [.int a, .int b]) (.int y) = some (dpr (addk ks (a, b)) fun q => if q = (a, b) then y else f q) := by
  show put1 (dpr ks f) (prD (a, b)) (.int y) = _
  unfold put1 dpr
  dsimp only
  rw [if_pos ⟨isKey_pr, by rw [List.length_map]; unfold cap; omega⟩]
  unfold dicPut addk
  rw [any_pr]
  by_cases e : (a, b) ∈ ks
  · simp only [e, decide_true, if_true]
    rw [zw_pr]
  · simp only [e, decide_false, Bool.false_eq_true, if_false]
    congr 1
    simp only [List.map_append, List.map_cons, List.map_nil, if_true]
    congr 2
    refine List.map_congr_left fun p hp => ?_
    have hne : ¬p = (a, b) := fun z => e (by rw [← z]; exact hp)
    rw [if_neg hne]
@[simp] theorem idx_pr (h : (a, b) ∈ ks) : idxD (dpr ks f, n) (.tup [.int a, .int b]) = .ok (.int (f (a, b)), 0) := by
  show idxD (dpr ks f, n) (prD (a, b)) = _
  unfold idxD dpr
  dsimp only
  rw [isKey_pr, if_pos rfl, look_pr, if_pos h]; rfl
@[simp] theorem list_pr : biD .list [(dpr ks f, n)] = .ok (.lst (ks.map prD), 1) := rfl
theorem prsD_map : ∀ {ks : List (Int × Int)}, prsD (ks.map prD) = some ks
  | [] => rfl
  | (a, b) :: ks => by
    show (prsD (ks.map prD)).map ((a, b) :: ·) = _
    rw [prsD_map]; rfl
@[simp] theorem sorted_pr (h : n ≤ 1) : biD .sorted [(.lst (ks.map prD), n)] = .ok (.lst ((ks.mergeSort lexLe).map prD), 1) := by
  show sortD n (.lst (ks.map prD)) = _
  unfold sortD
  dsimp only
  rw [if_pos h]
  unfold sortL
  cases ks with
  | nil => simp [intsD]
  | cons p ks =>
    have e : intsD ((p :: ks).map prD) = none := rfl
    rw [e]
    dsimp only
    rw [prsD_map]
end
/-! ### a dict from ints to ints -/
def dii (ks : List Int) (f : Int → Int) : D := .dic false (ks.map .int) (ks.map fun i => .int (f i))
section
variable {a q : Int} {ks : List Int} {f : Int → Int} {n m k : Nat}
theorem look_ii : ∀ {ks : List Int}, dicLook false (ks.map .int) (ks.map fun i => D.int (f i)) (.int q) = if q ∈ ks then some (.int (f q)) else none
  | [] => rfl
  | p :: ks => by
    rw [List.map_cons, List.map_cons, dicLook, keyEq_int, look_ii (ks := ks)]
    by_cases e : p = q
    · subst e; simp
    · have e2 : ¬q = p := fun z => e z.symm
      simp [e, e2]
theorem zw_ii {y : Int} : ∀ {ks : List Int}, List.zipWith (fun k v => if keyEq false k (.int q) then D.int y else v) (ks.map .int) (ks.map fun i => D.int (f i)) = ks.map fun i => .int (if i = q then y else f i)
  | [] => rfl
  | p :: ks => by
    rw [List.map_cons, List.map_cons, List.zipWith_cons_cons, keyEq_int, zw_ii (ks := ks), List.map_cons]
    by_cases e : p = q
    · simp [e]
    · simp [e]
def addi (ks : List Int) (p : Int) : List Int := if p ∈ ks then ks else ks ++ [p]
theorem mem_addi {p : Int} : q ∈ addi ks p ↔ q ∈ ks ∨ q = p := by
  unfold addi
  split
  · constructor
    · exact .inl
    · rintro (h | h)
      · exact h
      · subst h; assumption
  · simp
theorem addi_len {p : Int} : (addi ks p).length ≤ ks.length + 1 := by
  unfold addi
  split
  · omega
  · simp
@[simp] theorem dgetX_ii {y : Res (D × Nat)} {d : Res (List (D × Nat))} : dgetX y d (dii ks f, n) = bind2 (dgetF (dii ks f, n)) y d := rfl
@[simp] theorem dget_ii (h : a ∉ ks → f a = 0) : dgetD (dii ks f) (.int a) (.int 0) = .ok (.int (f a), 0) := by
  unfold dgetD dii
  dsimp only
  rw [if_pos (show isKey false (.int a) = true from rfl), look_ii]
  by_cases e : a ∈ ks
  · rw [if_pos e]; rfl
  · rw [if_neg e, h e]; rfl
@[simp] theorem put_ii {y : Int} (hl : (ks.length : Int) < 16777216) : put1 (dii ks f) (.int a) (.int y) = some (dii (addi ks a) fun q => if q = a then y else f q) := by
  unfold put1 dii
  dsimp only
  rw [if_pos ⟨rfl, by rw [List.length_map]; unfold cap; omega⟩]
  unfold dicPut addi
  rw [any_ints]
  by_cases e : a ∈ ks
  · simp only [e, decide_true, if_true]
    rw [zw_ii]
  · simp only [e, decide_false, Bool.false_eq_true, if_false]
    congr 1
    simp only [List.map_append, List.map_cons, List.map_nil, if_true]
    congr 2
    refine List.map_congr_left fun p hp => ?_
    have hne : ¬p = a := fun z => e (by rw [← z]; exact hp)
    rw [if_neg hne]
end
/-! ### comprehensions with a test over any list; sums -/
section
variable {G : Glb} {Γ : Env} {t : TG} {m : Nat} {e : EC} {c : TC} {cs : List TC}
theorem comp_filt {α : Type} {F g : α → D} {p : α → Bool} : ∀ {l : List α}, (∀ x ∈ l, ∃ Γ1, asgT t (F x, 0) Γ = .ok Γ1 ∧ tss G (c :: cs) Γ1 = .ok (p x) ∧ (p x = true → ∃ n, ev G e Γ1 = .ok (g x, n) ∧ (m = 0 ∨ n = m))) →
    compG G t (c :: cs) m e Γ (l.map F) = .ok ((l.filter p).map g)
  | [], _ => rfl
  | x :: l, h => by
    obtain ⟨Γ1, h1, h2, h3⟩ := h x List.mem_cons_self
    have ih := comp_filt (l := l) fun y hy => h y (List.mem_cons_of_mem _ hy)
    unfold compG at ih ⊢
    rw [List.map_cons]
    unfold compAll
    rw [h1]
    dsimp only
    rw [h2]
    cases hp : p x with
    | false =>
      dsimp only
      rw [ih, List.filter_cons_of_neg (by rw [hp]; decide)]
    | true =>
      obtain ⟨n, h4, h5⟩ := h3 hp
      dsimp only
      rw [h4, one1_okP h5]
      dsimp only
      rw [ih, List.filter_cons_of_pos hp]
      rfl
theorem capL_len {l : List D} (h : (l.length : Int) ≤ 16777216) : capL m (.ok l) = .ok (.lst l, m + 1) := by
  unfold capL
  simp only [Res.bind_ok]
  rw [if_pos (by unfold cap; omega)]
theorem sum_map {α : Type} {l : List α} {g : α → Int} {k : Nat} (h : k ≤ 1) : biD .sum [(.lst (l.map fun p => D.int (g p)), k)] = .ok (.int (l.map g).sum, 0) := by
  have e : (l.map fun p => D.int (g p)) = (l.map g).map .int := by rw [List.map_map]; rfl
  rw [e]
  rcases (by omega : k = 0 ∨ k = 1) with rfl | rfl
  · exact sum_0
  · exact sum_1
@[simp] theorem inn_t2 {x a b : Int} {n m : Nat} : cmpD .inn (.int x, n) (.tup [.int a, .int b], m) = .ok (decide (x = a) || decide (x = b)) := by
  show (if isPy 60 (.int x) = true ∧ isPyL 60 [.int a, .int b] = true then Res.ok (inD (.int x) [.int a, .int b]) else .fail) = _
  rw [if_pos ⟨isPy_int, isPyL_ints (ls := [a, b])⟩]
  have := inD_ints (i := x) (ls := [a, b])
  rw [show [D.int a, .int b] = [a, b].map .int from rfl, this]
  simp
@[simp] theorem seq_rot {fz : Bool} {l : List D} {n : Nat} : seqItems fz (.rot l, n) = .ok l := rfl
end
/-! ### the ordered pairs below n -/
def lexLt (a b : Int × Int) : Prop := a.1 < b.1 ∨ (a.1 = b.1 ∧ a.2 < b.2)
theorem sorted_ext : ∀ {l m : List (Int × Int)}, l.Pairwise lexLt → m.Pairwise lexLt → (∀ x, x ∈ l ↔ x ∈ m) → l = m
  | [], [], _, _, _ => rfl
  | [], y :: m, _, _, h => nomatch (h y).mpr List.mem_cons_self
  | x :: l, [], _, _, h => nomatch (h x).mp List.mem_cons_self
  | x :: l, y :: m, hl, hm, h => by
    obtain ⟨l1, l2⟩ := List.pairwise_cons.mp hl
    obtain ⟨m1, m2⟩ := List.pairwise_cons.mp hm
    have e : x = y := by
      rcases List.mem_cons.mp ((h x).mp List.mem_cons_self) with e | e
      · exact e
      · rcases List.mem_cons.mp ((h y).mpr List.mem_cons_self) with e' | e'
        · exact e'.symm
        · have a := m1 x e
          have b := l1 y e'
          unfold lexLt at a b
          omega
    subst e
    have irr : ∀ z : Int × Int, ¬lexLt z z := fun z h => by unfold lexLt at h; omega
    rw [sorted_ext l2 m2 fun z => ⟨fun hz => ?_, fun hz => ?_⟩]
    · rcases List.mem_cons.mp ((h z).mp (List.mem_cons_of_mem _ hz)) with e | e
      · subst e; exact absurd (l1 z hz) (irr z)
      · exact e
    · rcases List.mem_cons.mp ((h z).mpr (List.mem_cons_of_mem _ hz)) with e | e
      · subst e; exact absurd (m1 z hz) (irr z)
      · exact e
def rowp (n a : Int) : List (Int × Int) := (upI (n - (a + 1))).map fun k => (a, a + 1 + k)
def pairs (n : Int) : List (Int × Int) := (upI n).flatMap (rowp n)
theorem mem_rowp {n a : Int} {p : Int × Int} : p ∈ rowp n a ↔ p.1 = a ∧ a < p.2 ∧ p.2 < n := by
  unfold rowp
  rw [List.mem_map]
  constructor
  · rintro ⟨k, hk, rfl⟩
    have := mem_upI.mp hk
    exact ⟨rfl, by show a < a + 1 + k; omega, by show a + 1 + k < n; omega⟩
  · rintro ⟨rfl, h1, h2⟩
    exact ⟨p.2 - (p.1 + 1), mem_upI.mpr (by omega), by ext <;> simp <;> omega⟩
theorem mem_pairs {n : Int} {p : Int × Int} : p ∈ pairs n ↔ 0 ≤ p.1 ∧ p.1 < p.2 ∧ p.2 < n := by
  unfold pairs
  rw [List.mem_flatMap]
  constructor
  · rintro ⟨a, ha, hp⟩
    have := mem_upI.mp ha
    have := mem_rowp.mp hp
    omega
  · intro h
    exact ⟨p.1, mem_upI.mpr (by omega), mem_rowp.mpr (by omega)⟩
theorem upI_lt {n : Int} : (upI n).Pairwise (· < ·) := by
  unfold upI
  rw [List.pairwise_map]
  exact List.pairwise_lt_range.imp fun h => by omega
theorem pairs_lt {n : Int} : (pairs n).Pairwise lexLt := by
  unfold pairs
  rw [List.pairwise_flatMap]
  refine ⟨fun a _ => ?_, upI_lt.imp fun {a b} h x hx y hy => .inl ?_⟩
  · unfold rowp
    rw [List.pairwise_map]
    exact upI_lt.imp fun h => .inr ⟨rfl, by simp only; omega⟩
  · rw [(mem_rowp.mp hx).1, (mem_rowp.mp hy).1]; exact h
theorem sort_pairs {n : Int} {ks : List (Int × Int)} {p : Int × Int → Bool} (nd : ks.Nodup) (h1 : ∀ q ∈ ks, q ∈ pairs n) (h2 : ∀ q, p q = true → q ∈ ks) : (ks.mergeSort lexLe).filter p = (pairs n).filter p := by
  have pm : (ks.mergeSort lexLe).Perm ks := List.mergeSort_perm _ _
  have so := List.pairwise_mergeSort lexLe_trans lexLe_total ks
  have nd2 : (ks.mergeSort lexLe).Pairwise (· ≠ ·) := pm.nodup_iff.mpr nd
  have lt : (ks.mergeSort lexLe).Pairwise lexLt := (so.and nd2).imp fun {a b} h => by
    obtain ⟨h, e⟩ := h
    simp only [lexLe, decide_eq_true_eq] at h
    unfold lexLt
    rcases h with h | ⟨h, h'⟩
    · exact .inl h
    · refine .inr ⟨h, ?_⟩
      by_cases q : a.2 = b.2
      · exact absurd (Prod.ext h q) e
      · omega
  refine sorted_ext (lt.filter _) (pairs_lt.filter _) fun x => ?_
  rw [List.mem_filter, List.mem_filter, pm.mem_iff]
  constructor
  · rintro ⟨a, b⟩; exact ⟨h1 x a, b⟩
  · rintro ⟨a, b⟩; exact ⟨h2 x b, b⟩
/-! ### the items of a part -/
def tr3 (b : Bool) (m : Int) (P Q S : Int → Int) : D := sq b (tab m fun i => .tup [.int (P i), .int (Q i), .int (S i)])
def tr2 (b : Bool) (m : Int) (P S : Int → Int) : D := sq b (tab m fun i => .tup [.int (P i), .int (S i)])
@[simp] theorem seq_tr3 {b fz : Bool} {m : Int} {P Q S : Int → Int} : seqItems fz (tr3 b m P Q S, 0) = .ok (tab m fun i => .tup [.int (P i), .int (Q i), .int (S i)]) := seq_sq (.inl rfl)
@[simp] theorem seq_tr2 {b fz : Bool} {m : Int} {P S : Int → Int} : seqItems fz (tr2 b m P S, 0) = .ok (tab m fun i => .tup [.int (P i), .int (S i)]) := seq_sq (.inl rfl)
theorem tr3_l {m : Int} {P Q S : Int → Int} : D.lst (tab m fun i => .tup [.int (P i), .int (Q i), .int (S i)]) = tr3 false m P Q S := rfl
theorem tr2_l {m : Int} {P S : Int → Int} : D.lst (tab m fun i => .tup [.int (P i), .int (S i)]) = tr2 false m P S := rfl
def kp (a b : Int) : Int × Int := (if b < a then b else a, if a < b then b else a)
theorem kp_def {a b : Int} : (if b < a then b else a, if a < b then b else a) = kp a b := rfl
def TiesOk (n m : Int) (P Q : Int → Int) : Prop := ∀ i, 0 ≤ i → i < m → P i ≠ Q i ∧ 0 ≤ P i ∧ P i < n ∧ 0 ≤ Q i ∧ Q i < n
theorem kp_mem {n m i : Int} {P Q : Int → Int} (h : TiesOk n m P Q) (h0 : 0 ≤ i) (h1 : i < m) : kp (P i) (Q i) ∈ pairs n := by
  have := h i h0 h1
  unfold kp
  rw [mem_pairs]
  dsimp only
  split <;> split <;> omega
def tsum (m : Int) (P Q S : Int → Int) (p : Int × Int) : Int := sumN m fun i => if kp (P i) (Q i) = p then S i else 0
theorem tsum_succ {m : Int} {P Q S : Int → Int} {p : Int × Int} (h : 0 ≤ m) : tsum (m + 1) P Q S p = tsum m P Q S p + if kp (P m) (Q m) = p then S m else 0 := sumN_succ h
theorem tsum_0 {P Q S : Int → Int} {p : Int × Int} : tsum 0 P Q S p = 0 := rfl
theorem tsum_step {m : Int} {P Q S : Int → Int} (h : 0 ≤ m) : (fun q => if q = kp (P m) (Q m) then tsum m P Q S (kp (P m) (Q m)) + S m else tsum m P Q S q) = tsum (m + 1) P Q S := by
  funext q
  rw [tsum_succ h]
  by_cases e : q = kp (P m) (Q m)
  · subst e; simp
  · have e2 : ¬kp (P m) (Q m) = q := fun z => e z.symm
    simp [e, e2]
/-- the sum of one kind of place -/
def psum (m : Int) (P S : Int → Int) (x : Int) : Int := sumN m fun i => if P i = x then S i else 0
theorem psum_succ {m : Int} {P S : Int → Int} {x : Int} (h : 0 ≤ m) : psum (m + 1) P S x = psum m P S x + if P m = x then S m else 0 := sumN_succ h
theorem psum_0 {P S : Int → Int} {p : Int} : psum 0 P S p = 0 := rfl
theorem psum_step {m : Int} {P S : Int → Int} (h : 0 ≤ m) : (fun q => if q = P m then psum m P S (P m) + S m else psum m P S q) = psum (m + 1) P S := by
  funext q
  rw [psum_succ h]
  by_cases e : q = P m
  · subst e; simp
  · have e2 : ¬P m = q := fun z => e z.symm
    simp [e, e2]
/-- of pairs in order -/
def wsum (m : Int) (P Q S : Int → Int) (p : Int × Int) : Int := sumN m fun i => if (P i, Q i) = p then S i else 0
theorem wsum_succ {m : Int} {P Q S : Int → Int} {p : Int × Int} (h : 0 ≤ m) : wsum (m + 1) P Q S p = wsum m P Q S p + if (P m, Q m) = p then S m else 0 := sumN_succ h
theorem wsum_0 {P Q S : Int → Int} {p : Int × Int} : wsum 0 P Q S p = 0 := rfl
theorem wsum_step {m : Int} {P Q S : Int → Int} (h : 0 ≤ m) : (fun q => if q = (P m, Q m) then wsum m P Q S (P m, Q m) + S m else wsum m P Q S q) = wsum (m + 1) P Q S := by
  funext q
  rw [wsum_succ h]
  by_cases e : q = (P m, Q m)
  · subst e; simp
  · have e2 : ¬(P m, Q m) = q := fun z => e z.symm
    simp [e, e2]
/-- the springs of a part that are not 0, in order -/
def tiesL (n : Int) (f : Int × Int → Int) : List (Int × Int) := (pairs n).filter fun p => !decide (f p = 0)
def tieD (n : Int) (f : Int × Int → Int) : D := .tup ((tiesL n f).map fun p => .tup [.int p.1, .int p.2, .int (f p)])
/-- sums over lists -/
theorem sum_filter0 {α : Type} {g : α → Int} {p : α → Bool} : ∀ {l : List α}, ((l.filter p).map g).sum = (l.map fun x => if p x then g x else 0).sum
  | [] => rfl
  | x :: l => by
    cases h : p x with
    | true => simp [List.filter_cons_of_pos h, sum_filter0 (l := l), h]
    | false => simp [List.filter_cons_of_neg (by rw [h]; decide : ¬p x = true), sum_filter0 (l := l), h]
theorem sum_plus {α : Type} {f g : α → Int} : ∀ {l : List α}, (l.map fun x => f x + g x).sum = (l.map f).sum + (l.map g).sum
  | [] => rfl
  | x :: l => by simp only [List.map_cons, List.sum_cons, sum_plus (l := l)]; omega
theorem sum_zero {α : Type} : ∀ {l : List α}, (l.map fun _ => (0 : Int)).sum = 0
  | [] => rfl
  | x :: l => by simp only [List.map_cons, List.sum_cons, sum_zero (l := l)]; rfl
theorem sum_pick {α : Type} [DecidableEq α] {q : α} {v : Int} : ∀ {l : List α}, l.Nodup → q ∈ l → (l.map fun x => if q = x then v else 0).sum = v
  | [], _, h => nomatch h
  | x :: l, nd, h => by
    obtain ⟨n1, n2⟩ := List.nodup_cons.mp nd
    rw [List.map_cons, List.sum_cons]
    by_cases e : q = x
    · subst e
      have : (l.map fun x => if q = x then v else 0) = l.map fun _ => (0 : Int) := List.map_congr_left fun y hy => by
        have hne : ¬q = y := fun z => n1 (by rw [z]; exact hy)
        rw [if_neg hne]
      rw [this, sum_zero, if_pos rfl]; omega
    · rw [sum_pick n2 ((List.mem_cons.mp h).resolve_left e), if_neg e]; omega
theorem pairs_nodup {n : Int} : (pairs n).Nodup := pairs_lt.imp fun {a b} h e => by subst e; unfold lexLt at h; omega
/-- what the springs at x add up to -/
theorem tie_weight {n m x : Int} {P Q S : Int → Int} (h0 : 0 ≤ m) (hg : TiesOk n m P Q) : (((tiesL n (tsum m P Q S)).filter fun p => decide (x = p.1) || decide (x = p.2)).map (tsum m P Q S)).sum = psum m P S x + psum m Q S x := by
  unfold tiesL
  rw [List.filter_filter, sum_filter0]
  have e1 : ((pairs n).map fun p => if ((decide (x = p.1) || decide (x = p.2)) && !decide (tsum m P Q S p = 0)) = true then tsum m P Q S p else 0) = (pairs n).map fun p => if x = p.1 ∨ x = p.2 then tsum m P Q S p else 0 := by
    refine List.map_congr_left fun p _ => ?_
    by_cases e : tsum m P Q S p = 0
    · simp [e]
    · simp [e]
  rw [e1]
  revert hg
  refine sumN_ind (P := fun m => TiesOk n m P Q → ((pairs n).map fun p => if x = p.1 ∨ x = p.2 then tsum m P Q S p else 0).sum = psum m P S x + psum m Q S x) ?_ (fun j hj ih hg => ?_) m h0
  · intro _
    have : ((pairs n).map fun p => if x = p.1 ∨ x = p.2 then tsum 0 P Q S p else 0) = (pairs n).map fun _ => (0 : Int) := List.map_congr_left fun p _ => by rw [tsum_0]; split <;> rfl
    rw [this, sum_zero, psum_0, psum_0]; rfl
  · have ih := ih fun i a b => hg i a (by omega)
    have e2 : ((pairs n).map fun p => if x = p.1 ∨ x = p.2 then tsum (j + 1) P Q S p else 0) = (pairs n).map fun p => (if x = p.1 ∨ x = p.2 then tsum j P Q S p else 0) + (if kp (P j) (Q j) = p then (if x = (kp (P j) (Q j)).1 ∨ x = (kp (P j) (Q j)).2 then S j else 0) else 0) := by
      refine List.map_congr_left fun p _ => ?_
      rw [tsum_succ hj]
      by_cases e : kp (P j) (Q j) = p
      · subst e
        simp only [if_true]
        split <;> omega
      · simp only [e, if_false]
        split <;> omega
    rw [e2, sum_plus, ih, sum_pick pairs_nodup (kp_mem hg hj (by omega)), psum_succ hj, psum_succ hj]
    have := hg j hj (by omega)
    unfold kp
    dsimp only
    split <;> split <;> split <;> split <;> split <;> omega
theorem sum_le {α : Type} {f : α → Nat} {c : Nat} : ∀ {l : List α}, (∀ x ∈ l, f x ≤ c) → (l.map f).sum ≤ l.length * c
  | [], _ => by simp
  | x :: l, h => by
    have h1 := h x List.mem_cons_self
    have h2 := sum_le (l := l) fun y hy => h y (List.mem_cons_of_mem _ hy)
    simp only [List.map_cons, List.sum_cons, List.length_cons]
    rw [Nat.add_mul]
    omega
theorem pairs_len {n : Int} (h0 : 0 ≤ n) (h : n ≤ 4000) : ((pairs n).length : Int) ≤ 16000000 := by
  have e : (pairs n).length ≤ (upI n).length * 4000 := by
    unfold pairs
    rw [List.length_flatMap]
    refine sum_le fun a _ => ?_
    unfold rowp
    rw [List.length_map, len_upI]
    rename_i ha
    have := mem_upI.mp ha
    omega
  rw [len_upI] at e
  omega
theorem tiesL_len {n : Int} {f : Int × Int → Int} (h0 : 0 ≤ n) (h : n ≤ 4000) : ((tiesL n f).length : Int) ≤ 16000000 := by
  have := List.length_filter_le (fun p => !decide (f p = 0)) (pairs n)
  have := pairs_len h0 h
  unfold tiesL
  omega
@[simp] theorem seq_tieD {n : Int} {f : Int × Int → Int} {fz : Bool} {k : Nat} : seqItems fz (tieD n f, k) = .ok ((tiesL n f).map fun p => .tup [.int p.1, .int p.2, .int (f p)]) := rfl
/-- a part as it stands -/
def partD (n K : Int) (f : Int × Int → Int) (g : Int → Int) (w : Int × Int → Int) : D := .ins "Part" ["places", "kinds", "ties", "grounds", "strengths"] [.int n, .int K, tieD n f, vec true n g, mat true true K n fun k x => w (k, x)]
@[simp] theorem idx_mat2 {b2 : Bool} {r c i : Int} {A : Int → Int → Int} (h : 0 ≤ i) (h2 : i < r) : idxD (mat false b2 r c A, 2) (.int i) = .ok (vec b2 c (A i), 1) := by
  show idxD (.lst _, 2) _ = _
  rw [idx_lt h h2]
@[simp] theorem idx_vec1 {b : Bool} {n i : Int} {f : Int → Int} (h : 0 ≤ i) (h2 : i < n) : idxD (vec b n f, 1) (.int i) = .ok (.int (f i), 0) := by
  cases b
  · show idxD (.lst _, 1) _ = _
    rw [idx_lt h h2]
  · show idxD (.tup _, 1) _ = _
    rw [idx_tt h h2]
/-- what the law writes of a part -/
def linesD (n K m : Int) (P Q S : Int → Int) (m2 : Int) (P2 S2 : Int → Int) (m3 : Int) (P3 Q3 S3 : Int → Int) : D := .lst [.int n, .int K, tr3 false m P Q S, tr2 false m2 P2 S2, tr3 false m3 P3 Q3 S3]
section
variable {n K m m2 m3 : Int} {P Q S P2 S2 P3 Q3 S3 : Int → Int} {k : Nat}
@[simp] theorem idx_lines0 : idxD (linesD n K m P Q S m2 P2 S2 m3 P3 Q3 S3, 0) (.int 0) = .ok (.int n, 0) := rfl
@[simp] theorem idx_lines1 : idxD (linesD n K m P Q S m2 P2 S2 m3 P3 Q3 S3, 0) (.int 1) = .ok (.int K, 0) := rfl
@[simp] theorem idx_lines2 : idxD (linesD n K m P Q S m2 P2 S2 m3 P3 Q3 S3, 0) (.int 2) = .ok (tr3 false m P Q S, 0) := rfl
@[simp] theorem idx_lines3 : idxD (linesD n K m P Q S m2 P2 S2 m3 P3 Q3 S3, 0) (.int 3) = .ok (tr2 false m2 P2 S2, 0) := rfl
@[simp] theorem idx_lines4 : idxD (linesD n K m P Q S m2 P2 S2 m3 P3 Q3 S3, 0) (.int 4) = .ok (tr3 false m3 P3 Q3 S3, 0) := rfl
end
theorem kp_1 {a b n : Int} (h0 : 0 ≤ a) (h1 : a < n) (h2 : 0 ≤ b) (h3 : b < n) : (0 ≤ (if b < a then b else a) ∧ (if b < a then b else a) < n) ∧ 0 ≤ (if a < b then b else a) ∧ (if a < b then b else a) < n := by
  split <;> split <;> omega
theorem tstep2 {m : Int} {P Q S : Int → Int} (h : 0 ≤ m) : (fun a b => if (a = if Q m < P m then Q m else P m) ∧ b = if P m < Q m then Q m else P m then tsum m P Q S (if Q m < P m then Q m else P m, if P m < Q m then Q m else P m) + S m else tsum m P Q S (a, b)) = fun a b => tsum (m + 1) P Q S (a, b) := by
  funext a b
  rw [← tsum_step h]
  simp only [kp, Prod.mk.injEq]
theorem pstep2 {m : Int} {P Q S : Int → Int} (h : 0 ≤ m) (ne : P m ≠ Q m) : (fun c => if c = Q m then psum m P S (Q m) + psum m Q S (Q m) + S m else if c = P m then psum m P S (P m) + psum m Q S (P m) + S m else psum m P S c + psum m Q S c) = fun x => psum (m + 1) P S x + psum (m + 1) Q S x := by
  funext x
  rw [psum_succ h, psum_succ h]
  by_cases e1 : x = Q m
  · have e2 : ¬P m = x := fun z => ne (z.trans e1)
    rw [if_pos e1, if_neg e2, if_pos e1.symm, e1]; omega
  · have e1' : ¬Q m = x := fun z => e1 z.symm
    rw [if_neg e1, if_neg e1']
    by_cases e2 : x = P m
    · rw [if_pos e2, if_pos e2.symm, e2]; omega
    · have e2' : ¬P m = x := fun z => e2 z.symm
      rw [if_neg e2, if_neg e2']; omega
theorem pstep1 {m : Int} {P S : Int → Int} {w : Int → Int} (h : 0 ≤ m) : (fun c => if c = P m then w (P m) + psum m P S (P m) + S m else w c + psum m P S c) = fun x => w x + psum (m + 1) P S x := by
  funext x
  rw [psum_succ h]
  by_cases e1 : x = P m
  · rw [if_pos e1, if_pos e1.symm, e1]; omega
  · have e1' : ¬P m = x := fun z => e1 z.symm
    rw [if_neg e1, if_neg e1']; omega
theorem wstep2 {m : Int} {P Q S : Int → Int} (h : 0 ≤ m) : (fun a b => if a = P m ∧ b = Q m then wsum m P Q S (P m, Q m) + S m else wsum m P Q S (a, b)) = fun a b => wsum (m + 1) P Q S (a, b) := by
  funext a b
  rw [← wsum_step h]
  simp only [Prod.mk.injEq]
/-- the springs as the law writes them -/
def sprL (f : Int × Int → Int) (l : List (Int × Int)) : D := .lst ((l.filter fun p => !decide (f p = 0)).map fun p => .lst [.int p.1, .int p.2, .int (f p)])
theorem spr_app {f : Int × Int → Int} {l : List (Int × Int)} {Γ : Env} {i k : Nat} {a b : Int} (hl : (l.length : Int) < 16777216) : appC (.ok (.lst [.int a, .int b, .int (f (a, b))], k)) Γ i (sprL f l, 1) = .nx (Γ.set i (some (.lst (((l.filter fun p => !decide (f p = 0)).map fun p => .lst [.int p.1, .int p.2, .int (f p)]) ++ [.lst [.int a, .int b, .int (f (a, b))]]), 1))) := by
  unfold sprL
  rw [appC_l]
  rw [List.length_map]
  have := List.length_filter_le (fun p => !decide (f p = 0)) l
  omega
theorem spr_snoc {f : Int × Int → Int} {l : List (Int × Int)} {a b : Int} : sprL f (l ++ [(a, b)]) = if f (a, b) = 0 then sprL f l else .lst (((l.filter fun p => !decide (f p = 0)).map fun p => .lst [.int p.1, .int p.2, .int (f p)]) ++ [.lst [.int a, .int b, .int (f (a, b))]]) := by
  unfold sprL
  rw [List.filter_append]
  by_cases e : f (a, b) = 0
  · simp [e]
  · simp [e]
theorem upI_snoc {n : Int} (h : 0 ≤ n) : upI (n + 1) = upI n ++ [n] := by
  unfold upI
  rw [show (n + 1).toNat = n.toNat + 1 by omega, List.range_succ, List.map_append, List.map_cons, List.map_nil, Int.toNat_of_nonneg h]
def rowq (a j : Int) : List (Int × Int) := (upI j).map fun k => (a, a + 1 + k)
theorem rowq_snoc {a j : Int} (h : 0 ≤ j) : rowq a (j + 1) = rowq a j ++ [(a, a + 1 + j)] := by
  unfold rowq
  rw [upI_snoc h, List.map_append]; rfl
def pairsU (n i : Int) : List (Int × Int) := (upI i).flatMap (rowp n)
theorem pairsU_snoc {n i : Int} (h : 0 ≤ i) : pairsU n (i + 1) = pairsU n i ++ rowq i (n - (i + 1)) := by
  unfold pairsU
  rw [upI_snoc h, List.flatMap_append]
  simp only [List.flatMap_cons, List.flatMap_nil, List.append_nil]
  rfl
theorem pairsU_len {n i : Int} (h0 : 0 ≤ i) (h1 : i ≤ n) (h : n ≤ 4000) : ((pairsU n i).length : Int) ≤ 16000000 := by
  have e : (pairsU n i).length ≤ (upI i).length * 4000 := by
    unfold pairsU
    rw [List.length_flatMap]
    refine sum_le fun a ha => ?_
    unfold rowp
    rw [List.length_map, len_upI]
    have := mem_upI.mp ha
    omega
  rw [len_upI] at e
  omega
theorem rowq_len {a j : Int} : (rowq a j).length = j.toNat := by unfold rowq; rw [List.length_map, len_upI]
section
variable {G : Glb} {n K : Int} {f w : Int × Int → Int} {g : Int → Int} {k : Nat}
@[simp] theorem att_places (h : G.okA "Part" "places" = true) : attC G "places" (partD n K f g w, k) = .ok (.int n, 0) := by
  show (if G.okA "Part" "places" = true then _ else _) = _
  rw [if_pos h]; rfl
@[simp] theorem att_pkinds (h : G.okA "Part" "kinds" = true) : attC G "kinds" (partD n K f g w, k) = .ok (.int K, 0) := by
  show (if G.okA "Part" "kinds" = true then _ else _) = _
  rw [if_pos h]; rfl
@[simp] theorem att_pties (h : G.okA "Part" "ties" = true) : attC G "ties" (partD n K f g w, k) = .ok (tieD n f, 0) := by
  show (if G.okA "Part" "ties" = true then _ else _) = _
  rw [if_pos h]; rfl
@[simp] theorem att_pgrounds (h : G.okA "Part" "grounds" = true) : attC G "grounds" (partD n K f g w, k) = .ok (vec true n g, 0) := by
  show (if G.okA "Part" "grounds" = true then _ else _) = _
  rw [if_pos h]; rfl
@[simp] theorem att_pstrengths (h : G.okA "Part" "strengths" = true) : attC G "strengths" (partD n K f g w, k) = .ok (mat true true K n fun k x => w (k, x), 0) := by
  show (if G.okA "Part" "strengths" = true then _ else _) = _
  rw [if_pos h]; rfl
@[simp] theorem knows_part {cl : List String} (h : cl.contains "Part" = true) : knows cl (partD n K f g w) = true := h
@[simp] theorem isT_part {sb : String → String → Bool} {t : String} : isT sb (partD n K f g w) t = sb "Part" t := rfl
theorem mth_part {m : String} {i : Nat} {r : Res (List (D × Nat))} (h : ["places", "kinds", "ties", "grounds", "strengths"].contains m = false) : mthF G "Part" m i r (partD n K f g w, k) = r.bind (mthC G "Part" m i (partD n K f g w)) := by
  refine mthF_eq ?_
  show (("Part" == "Part") && !(["places", "kinds", "ties", "grounds", "strengths"].contains m)) = true
  rw [h]; rfl
end
theorem wsum_col {m K x : Int} {P Q S : Int → Int} (k0 : 0 ≤ K) (m0 : 0 ≤ m) (h : ∀ i, 0 ≤ i → i < m → 0 ≤ P i ∧ P i < K) : (sumN K fun k => wsum m P Q S (k, x)) = psum m Q S x := by
  revert h
  refine sumN_ind (P := fun m => (∀ i, 0 ≤ i → i < m → 0 ≤ P i ∧ P i < K) → (sumN K fun k => wsum m P Q S (k, x)) = psum m Q S x) (fun _ => ?_) (fun j hj ih h => ?_) m m0
  · rw [psum_0]
    exact sumN_zero k0
  · have ih := ih fun i a b => h i a (by omega)
    have e : (sumN K fun k => wsum (j + 1) P Q S (k, x)) = sumN K fun k => wsum j P Q S (k, x) + (if P j = k then (if Q j = x then S j else 0) else 0) := by
      refine sumN_congr rfl fun k _ _ => ?_
      rw [wsum_succ hj]
      simp only [Prod.mk.injEq]
      by_cases a : P j = k <;> by_cases b : Q j = x <;> simp [a, b]
    obtain ⟨p0, p1⟩ := h j hj (by omega)
    rw [e, sumN_plus k0, ih, sumN_pick p0 p1, psum_succ hj]
theorem map_tabL {α : Type} [Inhabited α] {L : List α} {g : α → D} : L.map g = tab (L.length : Int) fun i => g (L.getD i.toNat default) := by
  refine List.ext_getElem? fun j => ?_
  by_cases h : j < L.length
  · rw [tab_get (by omega), List.getElem?_map, List.getElem?_eq_getElem h]
    simp [List.getD, h]
  · rw [List.getElem?_eq_none (by rw [List.length_map]; omega), List.getElem?_eq_none (by rw [tab_len]; omega)]
/-! ### insert in a list of ints -/
theorem ins_list {M j : Int} {F : Int → D} {Y : D} (h0 : 0 ≤ j) (h1 : j ≤ M) : (tab M F).take j.toNat ++ [Y] ++ (tab M F).drop j.toNat = tab (M + 1) fun x => if x < j then F x else if x = j then Y else F (x - 1) := by
  have lt : ((tab M F).take j.toNat).length = j.toNat := by rw [List.length_take, tab_len]; omega
  refine List.ext_getElem? fun i => ?_
  rw [List.append_assoc]
  by_cases a : i < j.toNat
  · rw [List.getElem?_append_left (by omega), List.getElem?_take_of_lt a, tab_get (by omega), tab_get (by omega), if_pos (by omega)]
  · rw [List.getElem?_append_right (by omega), lt]
    by_cases e : i = j.toNat
    · rw [e, Nat.sub_self, tab_get (by omega), if_neg (by omega), if_pos (by omega)]
      rfl
    · obtain ⟨q, hq⟩ : ∃ q, i - j.toNat = q + 1 := ⟨i - j.toNat - 1, by omega⟩
      rw [hq, List.singleton_append, List.getElem?_cons_succ, List.getElem?_drop]
      by_cases hm : (i : Int) < M + 1
      · rw [tab_get (by omega), tab_get (by omega), if_neg (by omega), if_neg (by omega)]
        congr 2
        omega
      · rw [List.getElem?_eq_none (by rw [tab_len]; omega), List.getElem?_eq_none (by rw [tab_len]; omega)]
def insF (f : Int → Int) (j y : Int) (x : Int) : Int := if x < j then f x else if x = j then y else f (x - 1)
@[simp] theorem insC_vec {M j y : Int} {f : Int → Int} {Γ : Env} {i n k : Nat} (h0 : 0 ≤ j) (h1 : j ≤ M) (h2 : M < 16777216) : insC (.ok (.int j, n)) (.ok (.int y, k)) i Γ (vec false M f, 1) = .nx (Γ.set i (some (vec false (M + 1) (insF f j y), 1))) := by
  show insC (.ok (.int j, n)) (.ok (.int y, k)) i Γ (.lst (tab M fun i => .int (f i)), 1) = _
  rw [insC_ok (by rw [tab_len]; omega) h0 (by omega), ins_list h0 h1]
  congr 2
  show some (D.lst _, 1) = some (D.lst _, 1)
  congr 3
  refine tab_cg rfl fun x _ _ => ?_
  unfold insF
  split
  · rfl
  · split <;> rfl
theorem insF_at {f : Int → Int} {j y : Int} : insF f j y j = y := by unfold insF; rw [if_neg (by omega), if_pos rfl]
@[simp] theorem lstN_vec {k : Nat} {n : Int} {f : Int → Int} : lstN (k + 1) (vec false n f) = true := by
  show lstN (k + 1) (.lst (tab n fun i => .int (f i))) = true
  rw [lstN_l, List.all_eq_true]
  intro d hd
  unfold tab at hd
  obtain ⟨i, _, rfl⟩ := List.mem_map.mp hd
  cases k <;> rfl
@[simp] theorem isPy_tieD {k : Nat} {n : Int} {f : Int × Int → Int} : isPy (k + 2) (tieD n f) = true := by
  unfold tieD
  rw [isPy_tup]
  refine isPyL_all fun d hd => ?_
  obtain ⟨p, _, rfl⟩ := List.mem_map.mp hd
  rw [isPy_tup]
  exact isPyL_ints (ls := [p.1, p.2, f p])
@[simp] theorem noL_vec {n : Int} {f : Int → Int} : noL (vec true n f) = true := by
  show noL (.tup (tab n fun i => .int (f i))) = true
  rw [noL_tup]
  unfold tab
  generalize List.range n.toNat = l
  induction l with
  | nil => rfl
  | cons x l ih => rw [List.map_cons, noLs_cons, ih]; simp
@[simp] theorem noL_mat {r c : Int} {A : Int → Int → Int} : noL (mat true true r c A) = true := by
  show noL (.tup (tab r fun i => vec true c (A i))) = true
  rw [noL_tup]
  unfold tab
  generalize List.range r.toNat = l
  induction l with
  | nil => rfl
  | cons x l ih => rw [List.map_cons, noLs_cons, ih]; simp
@[simp] theorem noL_tieD {n : Int} {f : Int × Int → Int} : noL (tieD n f) = true := by
  unfold tieD
  rw [noL_tup]
  generalize tiesL n f = l
  induction l with
  | nil => rfl
  | cons x l ih => rw [List.map_cons, noLs_cons, ih]; simp
@[simp] theorem noL_part {n K : Int} {f w : Int × Int → Int} {g : Int → Int} : noL (partD n K f g w) = true := by
  unfold partD
  rw [noL_ins]
  simp
end Ev
/-! Pure part: sides of any shape (entries as lists or tuples, rows of any lengths). -/
namespace Ev
open PySem PySem.Spec L2
def ent (b3 : Bool) (o s : Int) : D := sq b3 [.int o, .int s]
def row (b2 b3 : Bool) (n : Int) (o s : Int → Int) : D := sq b2 (tab n fun c => ent b3 (o c) (s c))
def rag (b b2 b3 : Bool) (K : Int) (W : Int → Int) (O S : Int → Int → Int) : D := sq b (tab K fun k => row b2 b3 (W k) (O k) (S k))
section
variable {b b2 b3 : Bool} {K n c : Int} {W o s : Int → Int} {O S : Int → Int → Int} {x y : Int} {m : Nat}
theorem pts_rag : pts b b2 K n O S = rag b b2 true K (fun _ => n) O S := rfl
theorem ent_t : D.tup [.int x, .int y] = ent true x y := rfl
@[simp] theorem idx_ent0 : idxD (ent b3 x y, 0) (.int 0) = .ok (.int x, 0) := by cases b3 <;> rfl
@[simp] theorem idx_ent1 : idxD (ent b3 x y, 0) (.int 1) = .ok (.int y, 0) := by cases b3 <;> rfl
@[simp] theorem seq_ent {fz : Bool} : seqItems fz (ent b3 x y, 0) = .ok [.int x, .int y] := seq_sq (.inl rfl)
@[simp] theorem list_ent : biD .list [(ent b3 x y, 0)] = .ok (ent false x y, 1) := lst_sq (by omega)
@[simp] theorem tuple_ent : biD .tuple [(ent b3 x y, 0)] = .ok (ent true x y, 0) := tup_sq (by omega)
@[simp] theorem asg_ent {ts : List TG} {Γ : Env} : asgT (.tp ts) (ent b3 x y, 0) Γ = asgL ts [.int x, .int y] Γ := by
  cases b3
  · show asgT (.tp ts) (.lst [.int x, .int y], 0) Γ = _
    simp only [asgT]
    rw [if_pos (by omega)]
  · exact asg_tp
@[simp] theorem len_row (h : 0 ≤ n) : biD .len [(row b2 b3 n o s, m)] = .ok (.int n, 0) := by rw [row, len_sq, tab_leni h]
@[simp] theorem len_rag (h : 0 ≤ K) : biD .len [(rag b b2 b3 K W O S, m)] = .ok (.int K, 0) := by rw [rag, len_sq, tab_leni h]
@[simp] theorem idx_row (h : 0 ≤ c) (h2 : c < n) : idxD (row b2 b3 n o s, 0) (.int c) = .ok (ent b3 (o c) (s c), 0) := by rw [row, idx_sq, atI_tab h h2]; rfl
@[simp] theorem idx_rag (h : 0 ≤ c) (h2 : c < K) : idxD (rag b b2 b3 K W O S, 0) (.int c) = .ok (row b2 b3 (W c) (O c) (S c), 0) := by rw [rag, idx_sq, atI_tab h h2]; rfl
@[simp] theorem seq_row {fz : Bool} : seqItems fz (row b2 b3 n o s, 0) = .ok (tab n fun c => ent b3 (o c) (s c)) := seq_sq (.inl rfl)
@[simp] theorem seq_rag {fz : Bool} : seqItems fz (rag b b2 b3 K W O S, 0) = .ok (tab K fun k => row b2 b3 (W k) (O k) (S k)) := seq_sq (.inl rfl)
@[simp] theorem knows_ent {cl : List String} : knows cl (ent b3 x y) = true := knows_sq
@[simp] theorem knows_row {cl : List String} : knows cl (row b2 b3 n o s) = true := knows_sq
@[simp] theorem knows_rag {cl : List String} : knows cl (rag b b2 b3 K W O S) = true := knows_sq
theorem isT_sq {sb : String → String → Bool} {t : String} {l : List D} : isT sb (sq b l) t = (t == if b then "tuple" else "list") := by cases b <;> rfl
theorem isT_sql {sb : String → String → Bool} {l : List D} : isT sb (sq b l) "list" = !b := by cases b <;> (rw [isT_sq]; decide)
theorem isT_sqt {sb : String → String → Bool} {l : List D} : isT sb (sq b l) "tuple" = b := by cases b <;> (rw [isT_sq]; decide)
@[simp] theorem isT_entl {sb : String → String → Bool} : isT sb (ent b3 x y) "list" = !b3 := isT_sql
@[simp] theorem isT_entt {sb : String → String → Bool} : isT sb (ent b3 x y) "tuple" = b3 := isT_sqt
@[simp] theorem isT_rowl {sb : String → String → Bool} : isT sb (row b2 b3 n o s) "list" = !b2 := isT_sql
@[simp] theorem isT_rowt {sb : String → String → Bool} : isT sb (row b2 b3 n o s) "tuple" = b2 := isT_sqt
@[simp] theorem isT_ragl {sb : String → String → Bool} : isT sb (rag b b2 b3 K W O S) "list" = !b := isT_sql
@[simp] theorem isT_ragt {sb : String → String → Bool} : isT sb (rag b b2 b3 K W O S) "tuple" = b := isT_sqt
theorem isPy_two {k : Nat} {a b : Int} : isPy (k + 1) (.tup [.int a, .int b]) = true := by rw [isPy_tup]; exact isPyL_ints (ls := [a, b])
@[simp] theorem eqD_ent {a b : Int} : eqD (ent true x y) (.tup [.int a, .int b]) = .ok (decide (x = a) && decide (y = b)) := by
  show eqD (.tup [.int x, .int y]) _ = _
  rw [eqD_ok isPy_two isPy_two]
  simp
@[simp] theorem nin_t2 {x a b : Int} {n m : Nat} : cmpD .nin (.int x, n) (.tup [.int a, .int b], m) = .ok (!(decide (x = a) || decide (x = b))) := by
  show (if isPy 60 (.int x) = true ∧ isPyL 60 [.int a, .int b] = true then Res.ok (!inD (.int x) [.int a, .int b]) else .fail) = _
  rw [if_pos ⟨isPy_int, isPyL_ints (ls := [a, b])⟩]
  have := inD_ints (i := x) (ls := [a, b])
  rw [show [D.int a, .int b] = [a, b].map .int from rfl, this]
  simp
theorem row_l : D.lst (tab n fun c => ent b3 (o c) (s c)) = row false b3 n o s := rfl
theorem row_t : D.tup (tab n fun c => ent b3 (o c) (s c)) = row true b3 n o s := rfl
theorem rag_l : D.lst (tab K fun k => row b2 b3 (W k) (O k) (S k)) = rag false b2 b3 K W O S := rfl
theorem rag_t : D.tup (tab K fun k => row b2 b3 (W k) (O k) (S k)) = rag true b2 b3 K W O S := rfl
@[simp] theorem idx_rag2 (h : 0 ≤ c) (h2 : c < K) : idxD (rag false b2 b3 K W O S, 2) (.int c) = .ok (row b2 b3 (W c) (O c) (S c), 1) := by
  show idxD (.lst _, 2) _ = _
  rw [idx_lt h h2]
@[simp] theorem idx_row1 (h : 0 ≤ c) (h2 : c < n) : idxD (row false b3 n o s, 1) (.int c) = .ok (ent b3 (o c) (s c), 0) := by
  show idxD (.lst _, 1) _ = _
  rw [idx_lt h h2]
@[simp] theorem add_row (h : 0 ≤ n) (h2 : n < 16777210) : binD .add (row false false n o s, 1) (.lst [.lst [.int x, .int y]], 1) = .ok (row false false (n + 1) (fun c => if c < n then o c else x) (fun c => if c < n then s c else y), 1) := by
  show binD .add (.lst _, 1) _ = _
  rw [add_l, if_pos ⟨by omega, by omega, by simp only [tab_len, List.length_cons, List.length_nil]; unfold cap; omega⟩]
  show Res.ok (D.lst _, 1) = Res.ok (D.lst _, 1)
  congr 3
  rw [tab_snoc h]
  refine tab_cg rfl fun c _ _ => ?_
  by_cases e : c < n <;> simp [e, ent, sq]
@[simp] theorem slc_row {j : Int} (h : 0 ≤ j) (h2 : j ≤ n) : slcD (row false b3 n o s, 1) none (some j) = .ok (row false b3 j o s, 1) := by
  rw [row, slc_sq (by omega), cut_hi h h2]
  rfl
def upF {α : Type} (f : Int → α) (k : Int) (v : α) (i : Int) : α := if i = k then v else f i
@[simp] theorem sti_rag {Γ : Env} {i k : Nat} {n' : Int} {o' s' : Int → Int} (h : 0 ≤ c) (h2 : c < K) : stiC Γ i (rag false false b3 K W O S, 2) (.int c, k) (row false b3 n' o' s', 1) = .nx (Γ.set i (some (rag false false b3 K (upF W c n') (upF O c o') (upF S c s'), 2))) := by
  obtain ⟨a, rfl, ha⟩ := toN h h2
  have e : putN (rag false false b3 K W O S, 2) (.int (a : Int)) (row false b3 n' o' s', 1) = some (rag false false b3 K (upF W a n') (upF O a o') (upF S a s')) := by
    show (if 2 = 1 + 1 ∧ 1 ≤ 1 then (ixN (tab K fun k => row false b3 (W k) (O k) (S k)).length (a : Int)).map _ else none) = _
    have e1 : ixN (tab K fun k => row false b3 (W k) (O k) (S k)).length (a : Int) = some a := by
      unfold ixN
      rw [if_pos (by omega), if_pos (by rw [tab_len]; omega), Int.toNat_natCast]
    rw [if_pos (by omega), e1]
    show some (D.lst _) = some (D.lst _)
    congr 2
    refine List.ext_getElem? fun j => ?_
    rw [List.getElem?_set]
    by_cases hj : (j : Int) < K
    · by_cases e2 : a = j
      · subst e2
        rw [if_pos rfl, if_pos (by rw [tab_len]; omega), tab_get hj]
        simp [upF]
      · rw [if_neg e2, tab_get hj, tab_get hj]
        have e3 : ¬(j : Int) = a := by omega
        simp only [upF, if_neg e3]
    · have e2 : a ≠ j := by omega
      rw [if_neg e2, List.getElem?_eq_none (by rw [tab_len]; omega), List.getElem?_eq_none (by rw [tab_len]; omega)]
  unfold stiC
  rw [if_neg (show ¬(2 : Nat) = 1 by decide)]
  dsimp only
  rw [e]
  rfl
@[simp] theorem sti2_rag {p q : Int} {Γ : Env} {i k m l : Nat} (h0 : 0 ≤ p) (h1 : p < K) (h2 : 0 ≤ q) (h3 : q < n) : sti2G Γ i (.ok (rag false false false K (fun _ => n) O S, 2)) (.ok (.int p, k)) (.ok (.int q, m)) (.ok (.lst [.int x, .int y], l)) = .nx (Γ.set i (some (rag false false false K (fun _ => n) (fun i j => if i = p ∧ j = q then x else O i j) (fun i j => if i = p ∧ j = q then y else S i j), 2))) := by
  show sti2G Γ i (.ok (.lst (tab K fun i => .lst (tab n fun j => ent false (O i j) (S i j))), 2)) _ _ _ = _
  rw [sti2_tab h0 h1 h2 h3]
  congr 3
  show (D.lst _, 2) = (D.lst _, 2)
  congr 2
  refine tab_cg rfl fun i _ _ => ?_
  show D.lst _ = D.lst _
  congr 1
  refine tab_cg rfl fun j _ _ => ?_
  by_cases e : i = p ∧ j = q
  · simp only [if_pos e]; rfl
  · simp only [if_neg e]
end
end Ev
namespace Lk08
open PySem PySem.Spec L2 Ev
section
variable {b b2 b3 : Bool} {K N n c x y : Int} {W o s : Int → Int} {O S : Int → Int → Int}
theorem frozen_r2 : f_frozen_r2 [.int x] = .ok (.int x, 0) := by
  simp -implicitDefEqProofs [frozen_r2_run, c_frozen_r2]
theorem frozen_r3 : f_frozen_r3 [ent b3 x y] = .ok (ent true x y, 0) := by
  cases b3 <;> simp -implicitDefEqProofs [frozen_r3_run, c_frozen_r3, frozen_r2, ent_t]
theorem frozen_r4 (h : n ≤ 1000) : f_frozen_r4 [row b2 b3 n o s] = .ok (row true true n o s, 0) := by
  cases b2 <;>
  simp -implicitDefEqProofs (disch := first | omega | (simp <;> omega) | fail) [frozen_r4_run, c_frozen_r4, frozen_r3, row_t]
theorem frozen_r5 (hr : K ≤ 1000) (h : ∀ k, 0 ≤ k → k < K → W k ≤ 1000) : f_frozen_r5 [rag b b2 b3 K W O S] = .ok (rag true true true K W O S, 0) := by
  cases b <;>
  simp -implicitDefEqProofs (disch := first | omega | (exact h _ (by omega) (by omega)) | (simp <;> omega) | fail) [frozen_r5_run, c_frozen_r5, frozen_r4, rag_t]
/-- an entry that is not good -/
def badE (n : Int) (o s : Int → Int) (c : Int) : Prop := ¬(0 ≤ o c ∧ o c < n ∧ (s c = 1 ∨ s c = -1) ∧ o (o c) = c ∧ s (o c) = s c)
theorem good_no (c0 : 0 ≤ c) (c1 : c < n) (h : badE n o s c) : f_is_good_entry [row b2 true n o s, .int c] = .ok (.bl false, 0) := by
  have n0 : 0 ≤ n := by omega
  by_cases h1 : 0 ≤ o c
  · by_cases h2 : o c < n
    · by_cases h3 : s c = 1 ∨ s c = -1
      · have h4 : ¬(o (o c) = c ∧ s (o c) = s c) := fun z => h ⟨h1, h2, h3, z.1, z.2⟩
        have e4 : (decide (o (o c) = c) && decide (s (o c) = s c)) = false := by
          by_cases z1 : o (o c) = c
          · have z2 : ¬s (o c) = s c := fun z => h4 ⟨z1, z⟩
            simp [z1, z2]
          · simp [z1]
        have e3 : (!decide ((1 : Int) = s c) && !decide (-1 = s c)) = false := by rcases h3 with q | q <;> rw [q] <;> rfl
        simp -implicitDefEqProofs (disch := first | omega | (simp <;> omega) | fail) [is_good_entry_run, c_is_good_entry, e3, e4]
      · have e3 : (!decide ((1 : Int) = s c) && !decide (-1 = s c)) = true := by
          have z1 : ¬1 = s c := fun z => h3 (.inl z.symm)
          have z2 : ¬-1 = s c := fun z => h3 (.inr z.symm)
          simp [z1, z2]
        simp -implicitDefEqProofs (disch := first | omega | (simp <;> omega) | fail) [is_good_entry_run, c_is_good_entry, e3]
    · simp -implicitDefEqProofs (disch := first | omega | (simp <;> omega) | fail) [is_good_entry_run, c_is_good_entry]
  · simp -implicitDefEqProofs (disch := first | omega | (simp <;> omega) | fail) [is_good_entry_run, c_is_good_entry]
theorem good_yes (c0 : 0 ≤ c) (c1 : c < n) (h : ¬badE n o s c) : f_is_good_entry [row b2 true n o s, .int c] = .ok (.bl true, 0) := by
  have n0 : 0 ≤ n := by omega
  obtain ⟨h1, h2, h3, h4, h5⟩ := Classical.not_not.mp h
  have e3 : (!decide ((1 : Int) = s c) && !decide (-1 = s c)) = false := by rcases h3 with q | q <;> rw [q] <;> rfl
  simp -implicitDefEqProofs (disch := first | omega | (simp <;> omega) | fail) [is_good_entry_run, c_is_good_entry, e3, h4, h5]
end
end Lk08
namespace Lk08
open PySem PySem.Spec L2 Ev
section
variable {b b2 b3 : Bool} {K N n c x y : Int} {W o s : Int → Int} {O S : Int → Int → Int}
theorem for_finx {G : Glb} {t : Ev.TG} {b k : SC} {F : Int → D} {n a : Int} {c : String} {ns : List String} {ds : List D} (I : Int → Ev.Env → Prop) {Γ : Ev.Env} (ha0 : 0 ≤ a) (ha : a < n) (h0 : I 0 Γ) (st : ∀ i Γ, 0 ≤ i → i < a → I i Γ → okO (I (i + 1)) ((asgT t (F i, 0) Γ).out Γ (exE G b)))
    (hx : ∀ Γ, I a Γ → ∃ Γ', (asgT t (F a, 0) Γ).out Γ (exE G b) = .exc c ns ds Γ' ∧ (asgT t (F a, 0) Γ).bind (fun _ => .ok ()) = .ok ()) : finR (thenG (forG G t b Γ (tab n F)) G k) = .exc c ns ds := by
  obtain ⟨Γ', h⟩ := for_exc (k := k) I ha0 ha h0 st hx
  rw [h]; rfl
theorem chk_B (k0 : 1 ≤ K) (w0 : W 0 = 0) : f_checked_sides [rag true true true K W O S] = .exc "BadPlan" ["copy", "kind"] [.non, .int 0] := by
  have e1 : ¬K = 0 := by omega
  simp -implicitDefEqProofs (disch := first | omega | (simp <;> omega) | fail) [checked_sides_run, c_checked_sides, e1, w0]
theorem chk_C {a : Int} (k1 : K ≤ 1000) (hw : ∀ k, 0 ≤ k → k < K → 0 ≤ W k ∧ W k ≤ 1000) (w0 : 1 ≤ W 0) (a0 : 0 ≤ a) (a1 : a < K) (h : ∀ k, 0 ≤ k → k < a → W k = W 0) (ha : W a ≠ W 0) : f_checked_sides [rag true true true K W O S] = .exc "BadPlan" ["copy", "kind"] [.non, .int a] := by
  have e1 : ¬K = 0 := by omega
  have e2 : ¬W 0 = 0 := by omega
  obtain ⟨w1, w2⟩ := hw 0 (by omega) (by omega)
  simp -implicitDefEqProofs (disch := first | omega | (simp <;> omega) | fail) [checked_sides_run, c_checked_sides, e1, e2]
  refine for_finx (I := fun i Γ => ∃ x y z, Γ = [some (rag true true true K W O S, 0), x, y, z]) a0 a1 ⟨_, _, _, rfl⟩ (fun i Γ i0 i1 ⟨x, y, z, e⟩ => ?_) fun Γ ⟨x, y, z, e⟩ => ?_
  · subst e
    obtain ⟨w3, w4⟩ := hw i i0 (by omega)
    have e3 := h i i0 i1
    simp -implicitDefEqProofs (disch := first | omega | (simp <;> omega) | fail) [e3]
  · subst e
    obtain ⟨w3, w4⟩ := hw a a0 a1
    simp -implicitDefEqProofs (disch := first | omega | (simp <;> omega) | fail) [ha]
theorem chk_D {a p : Int} (k1 : K ≤ 1000) (n0 : 1 ≤ N) (n1 : N ≤ 1000) (a0 : 0 ≤ a) (a1 : a < K) (h : ∀ k, 0 ≤ k → k < a → ∀ c, 0 ≤ c → c < N → ¬badE N (O k) (S k) c) (p0 : 0 ≤ p) (p1 : p < N) (hp : badE N (O a) (S a) p) (hq : ∀ c, 0 ≤ c → c < p → ¬badE N (O a) (S a) c) :
    f_checked_sides [rag true true true K (fun _ => N) O S] = .exc "BadPlan" ["copy", "kind"] [.int p, .int a] := by
  have e1 : ¬K = 0 := by omega
  have e2 : ¬N = 0 := by omega
  simp -implicitDefEqProofs (disch := first | omega | (simp <;> omega) | fail) [checked_sides_run, c_checked_sides, e1, e2]
  refine for_fin (I := fun i Γ => ∃ x y, Γ = [some (rag true true true K (fun _ => N) O S, 0), x, y, none]) (by omega) ⟨_, _, rfl⟩ (fun i Γ i0 i1 ⟨x, y, e⟩ => ?_) fun Γ ⟨x, y, e⟩ => ?_
  · subst e
    simp -implicitDefEqProofs (disch := first | omega | (simp <;> omega) | fail)
  · subst e
    simp -implicitDefEqProofs (disch := first | omega | (simp <;> omega) | fail)
    refine for_finx (I := fun i Γ => ∃ x y z, Γ = [some (rag true true true K (fun _ => N) O S, 0), x, y, z]) a0 a1 ⟨_, _, _, rfl⟩ (fun i Γ i0 i1 ⟨x, y, z, e⟩ => ?_) fun Γ ⟨x, y, z, e⟩ => ?_
    · subst e
      simp -implicitDefEqProofs (disch := first | omega | (simp <;> omega) | fail)
      refine for_ok (I := fun j Γ => ∃ z, Γ = [some (rag true true true K (fun _ => N) O S, 0), some (.int i, 0), some (row true true N (O i) (S i), 0), z]) (by omega) ⟨_, rfl⟩ (fun j Γ j0 j1 ⟨z, e⟩ => ?_) fun Γ ⟨z, e⟩ => ?_
      · subst e
        have e3 := good_yes (b2 := true) j0 j1 (h i i0 i1 j j0 j1)
        simp -implicitDefEqProofs (disch := first | omega | (simp <;> omega) | fail) [e3]
      · subst e
        simp -implicitDefEqProofs
    · subst e
      simp -implicitDefEqProofs (disch := first | omega | (simp <;> omega) | fail)
      refine for_exc (I := fun j Γ => ∃ z, Γ = [some (rag true true true K (fun _ => N) O S, 0), some (.int a, 0), some (row true true N (O a) (S a), 0), z]) p0 p1 ⟨_, rfl⟩ (fun j Γ j0 j1 ⟨z, e⟩ => ?_) fun Γ ⟨z, e⟩ => ?_
      · subst e
        have e3 := good_yes (b2 := true) j0 (by omega) (hq j j0 j1)
        simp -implicitDefEqProofs (disch := first | omega | (simp <;> omega) | fail) [e3]
      · subst e
        have e3 := good_no (b2 := true) p0 p1 hp
        simp -implicitDefEqProofs (disch := first | omega | (simp <;> omega) | fail) [e3]
end
end Lk08
namespace Lk08
open PySem PySem.Spec L2 Ev
section
variable {b b2 b3 : Bool} {K N n c x y : Int} {W o s : Int → Int} {O S : Int → Int → Int}
theorem chk_E (k0 : 1 ≤ K) (k1 : K ≤ 1000) (n0 : 1 ≤ N) (n1 : N ≤ 1000) (h : ∀ k, 0 ≤ k → k < K → ∀ c, 0 ≤ c → c < N → ¬badE N (O k) (S k) c) :
    f_checked_sides [rag true true true K (fun _ => N) O S] = .ok (rag true true true K (fun _ => N) O S, 0) := by
  have e1 : ¬K = 0 := by omega
  have e2 : ¬N = 0 := by omega
  simp -implicitDefEqProofs (disch := first | omega | (simp <;> omega) | fail) [checked_sides_run, c_checked_sides, e1, e2]
  refine for_fin (I := fun i Γ => ∃ x y, Γ = [some (rag true true true K (fun _ => N) O S, 0), x, y, none]) (by omega) ⟨_, _, rfl⟩ (fun i Γ i0 i1 ⟨x, y, e⟩ => ?_) fun Γ ⟨x, y, e⟩ => ?_
  · subst e
    simp -implicitDefEqProofs (disch := first | omega | (simp <;> omega) | fail)
  · subst e
    simp -implicitDefEqProofs (disch := first | omega | (simp <;> omega) | fail)
    refine for_fin (I := fun i Γ => ∃ x y z, Γ = [some (rag true true true K (fun _ => N) O S, 0), x, y, z]) (by omega) ⟨_, _, _, rfl⟩ (fun i Γ i0 i1 ⟨x, y, z, e⟩ => ?_) fun Γ ⟨x, y, z, e⟩ => ?_
    · subst e
      simp -implicitDefEqProofs (disch := first | omega | (simp <;> omega) | fail)
      refine for_ok (I := fun j Γ => ∃ z, Γ = [some (rag true true true K (fun _ => N) O S, 0), some (.int i, 0), some (row true true N (O i) (S i), 0), z]) (by omega) ⟨_, rfl⟩ (fun j Γ j0 j1 ⟨z, e⟩ => ?_) fun Γ ⟨z, e⟩ => ?_
      · subst e
        have e3 := good_yes (b2 := true) j0 j1 (h i i0 i1 j j0 j1)
        simp -implicitDefEqProofs (disch := first | omega | (simp <;> omega) | fail) [e3]
      · subst e
        simp -implicitDefEqProofs
    · subst e
      simp -implicitDefEqProofs
theorem plan_E (k0 : 1 ≤ K) (k1 : K ≤ 1000) (n0 : 1 ≤ N) (n1 : N ≤ 1000) (h : ∀ k, 0 ≤ k → k < K → ∀ c, 0 ≤ c → c < N → ¬badE N (O k) (S k) c) : f_Plan_init [rag b b2 b3 K (fun _ => N) O S] = .ok (planD K N O S, 0) := by
  have e1 := frozen_r5 (b := b) (b2 := b2) (b3 := b3) (W := fun _ => N) (O := O) (S := S) k1 fun _ _ _ => n1
  have e2 := chk_E k0 k1 n0 n1 h
  simp -implicitDefEqProofs (disch := first | omega | assumption | (simp <;> omega) | fail) [Plan_init_run, c_Plan_init, e1, e2]
  rfl
theorem plan_x {d : D} {a : Int} (k1 : K ≤ 1000) (hw : ∀ k, 0 ≤ k → k < K → W k ≤ 1000) (h : f_checked_sides [rag true true true K W O S] = .exc "BadPlan" ["copy", "kind"] [d, .int a]) : f_Plan_init [rag b b2 b3 K W O S] = .exc "BadPlan" ["copy", "kind"] [d, .int a] := by
  have e1 := frozen_r5 (b := b) (b2 := b2) (b3 := b3) (W := W) (O := O) (S := S) k1 hw
  simp -implicitDefEqProofs (disch := first | omega | assumption | (simp <;> omega) | fail) [Plan_init_run, c_Plan_init, e1, h]
theorem told_x {d : D} {v : D} {a : Int} (h : f_Plan_init [v] = .exc "BadPlan" ["copy", "kind"] [d, .int a]) : f__law_told [v] = .ok (.tup [.int a, d], 0) := by
  simp -implicitDefEqProofs (disch := first | omega | assumption | (simp <;> omega) | fail) [_law_told_run, c__law_told, h, tryG_in]
theorem told_ok {v d : D} (h : f_Plan_init [v] = .ok (d, 0)) : f__law_told [v] = .ok (.tup [], 0) := by
  simp -implicitDefEqProofs (disch := first | omega | assumption | (simp <;> omega) | fail) [_law_told_run, c__law_told, h]
/-! the law's own look -/
theorem flt_B (k0 : 1 ≤ K) (w0 : W 0 = 0) : f__law_fault [rag b b2 b3 K W O S] = .ok (.tup [.int 0, .non], 0) := by
  have e1 : ¬K = 0 := by omega
  simp -implicitDefEqProofs (disch := first | omega | (simp <;> omega) | fail) [_law_fault_run, c__law_fault, e1, w0]
theorem flt_C {a : Int} (k1 : K ≤ 1000) (hw : ∀ k, 0 ≤ k → k < K → 0 ≤ W k ∧ W k ≤ 1000) (w0 : 1 ≤ W 0) (a0 : 0 ≤ a) (a1 : a < K) (h : ∀ k, 0 ≤ k → k < a → W k = W 0) (ha : W a ≠ W 0) : f__law_fault [rag b b2 b3 K W O S] = .ok (.tup [.int a, .non], 0) := by
  have e1 : ¬K = 0 := by omega
  have e2 : ¬W 0 = 0 := by omega
  obtain ⟨w1, w2⟩ := hw 0 (by omega) (by omega)
  simp -implicitDefEqProofs (disch := first | omega | (simp <;> omega) | fail) [_law_fault_run, c__law_fault, e1, e2]
  refine for_finr (I := fun i Γ => ∃ x, Γ = [some (rag b b2 b3 K W O S, 0), x, none, none, none]) a0 a1 ⟨_, rfl⟩ (fun i Γ i0 i1 ⟨x, e⟩ => ?_) fun Γ ⟨x, e⟩ => ?_
  · subst e
    obtain ⟨w3, w4⟩ := hw i i0 (by omega)
    have e3 := h i i0 i1
    simp -implicitDefEqProofs (disch := first | omega | (simp <;> omega) | fail) [e3]
  · subst e
    obtain ⟨w3, w4⟩ := hw a a0 a1
    simp -implicitDefEqProofs (disch := first | omega | (simp <;> omega) | fail) [ha]
def FltI (b b2 b3 : Bool) (K N : Int) (O S : Int → Int → Int) (i j : Int) (Γ : Ev.Env) : Prop := ∃ z u v, Γ = [some (rag b b2 b3 K (fun _ => N) O S, 0), some (.int i, 0), z, u, v]
theorem flt_E (k0 : 1 ≤ K) (k1 : K ≤ 1000) (n0 : 1 ≤ N) (n1 : N ≤ 1000) (h : ∀ k, 0 ≤ k → k < K → ∀ c, 0 ≤ c → c < N → ¬badE N (O k) (S k) c) : f__law_fault [rag b b2 b3 K (fun _ => N) O S] = .ok (.tup [], 0) := by
  have e1 : ¬K = 0 := by omega
  have e2 : ¬N = 0 := by omega
  simp -implicitDefEqProofs (disch := first | omega | (simp <;> omega) | fail) [_law_fault_run, c__law_fault, e1, e2]
  refine for_fin (I := fun i Γ => ∃ x, Γ = [some (rag b b2 b3 K (fun _ => N) O S, 0), x, none, none, none]) (by omega) ⟨_, rfl⟩ (fun i Γ i0 i1 ⟨x, e⟩ => ?_) fun Γ ⟨x, e⟩ => ?_
  · subst e
    simp -implicitDefEqProofs (disch := first | omega | (simp <;> omega) | fail)
  · subst e
    simp -implicitDefEqProofs (disch := first | omega | (simp <;> omega) | fail)
    refine for_fin (I := fun i Γ => ∃ x z u v, Γ = [some (rag b b2 b3 K (fun _ => N) O S, 0), x, z, u, v]) (by omega) ⟨_, _, _, _, rfl⟩ (fun i Γ i0 i1 ⟨x, z, u, v, e⟩ => ?_) fun Γ ⟨x, z, u, v, e⟩ => ?_
    · subst e
      simp -implicitDefEqProofs (disch := first | omega | (simp <;> omega) | fail)
      refine for_ok (I := FltI b b2 b3 K N O S i) (by omega) ⟨_, _, _, rfl⟩ (fun j Γ j0 j1 ⟨z, u, v, e⟩ => ?_) fun Γ ⟨z, u, v, e⟩ => ?_
      · subst e
        obtain ⟨h1, h2, h3, h4, h5⟩ := Classical.not_not.mp (h i i0 i1 j j0 j1)
        have e3 : (S i j).natAbs = 1 := by omega
        simp -implicitDefEqProofs (disch := first | omega | (simp <;> omega) | fail) [e3, h4, h5]
        exact ⟨_, _, _, rfl⟩
      · subst e
        simp -implicitDefEqProofs
    · subst e
      simp -implicitDefEqProofs
theorem flt_D {a p : Int} (k1 : K ≤ 1000) (n0 : 1 ≤ N) (n1 : N ≤ 1000) (a0 : 0 ≤ a) (a1 : a < K) (h : ∀ k, 0 ≤ k → k < a → ∀ c, 0 ≤ c → c < N → ¬badE N (O k) (S k) c) (p0 : 0 ≤ p) (p1 : p < N) (hp : badE N (O a) (S a) p) (hq : ∀ c, 0 ≤ c → c < p → ¬badE N (O a) (S a) c) :
    f__law_fault [rag b b2 b3 K (fun _ => N) O S] = .ok (.tup [.int a, .int p], 0) := by
  have e1 : ¬K = 0 := by omega
  have e2 : ¬N = 0 := by omega
  simp -implicitDefEqProofs (disch := first | omega | (simp <;> omega) | fail) [_law_fault_run, c__law_fault, e1, e2]
  refine for_fin (I := fun i Γ => ∃ x, Γ = [some (rag b b2 b3 K (fun _ => N) O S, 0), x, none, none, none]) (by omega) ⟨_, rfl⟩ (fun i Γ i0 i1 ⟨x, e⟩ => ?_) fun Γ ⟨x, e⟩ => ?_
  · subst e
    simp -implicitDefEqProofs (disch := first | omega | (simp <;> omega) | fail)
  · subst e
    simp -implicitDefEqProofs (disch := first | omega | (simp <;> omega) | fail)
    refine for_finr (I := fun i Γ => ∃ x z u v, Γ = [some (rag b b2 b3 K (fun _ => N) O S, 0), x, z, u, v]) a0 a1 ⟨_, _, _, _, rfl⟩ (fun i Γ i0 i1 ⟨x, z, u, v, e⟩ => ?_) fun Γ ⟨x, z, u, v, e⟩ => ?_
    · subst e
      simp -implicitDefEqProofs (disch := first | omega | (simp <;> omega) | fail)
      refine for_ok (I := FltI b b2 b3 K N O S i) (by omega) ⟨_, _, _, rfl⟩ (fun j Γ j0 j1 ⟨z, u, v, e⟩ => ?_) fun Γ ⟨z, u, v, e⟩ => ?_
      · subst e
        obtain ⟨h1, h2, h3, h4, h5⟩ := Classical.not_not.mp (h i i0 i1 j j0 j1)
        have e3 : (S i j).natAbs = 1 := by omega
        simp -implicitDefEqProofs (disch := first | omega | (simp <;> omega) | fail) [e3, h4, h5]
        exact ⟨_, _, _, rfl⟩
      · subst e
        simp -implicitDefEqProofs
    · subst e
      simp -implicitDefEqProofs (disch := first | omega | (simp <;> omega) | fail)
      refine for_ret (I := FltI b b2 b3 K N O S a) p0 p1 ⟨_, _, _, rfl⟩ (fun j Γ j0 j1 ⟨z, u, v, e⟩ => ?_) fun Γ ⟨z, u, v, e⟩ => ?_
      · subst e
        obtain ⟨h1, h2, h3, h4, h5⟩ := Classical.not_not.mp (hq j j0 j1)
        have e3 : (S a j).natAbs = 1 := by omega
        simp -implicitDefEqProofs (disch := first | omega | (simp <;> omega) | fail) [e3, h4, h5]
        exact ⟨_, _, _, rfl⟩
      · subst e
        by_cases h1 : 0 ≤ O a p
        · by_cases h2 : O a p < N
          · by_cases h3 : S a p = 1 ∨ S a p = -1
            · have e3 : (S a p).natAbs = 1 := by omega
              by_cases h4 : O a (O a p) = p
              · have h5 : ¬S a (O a p) = S a p := fun z => hp ⟨h1, h2, h3, h4, z⟩
                simp -implicitDefEqProofs (disch := first | omega | (simp <;> omega) | fail) [e3, h4, h5]
              · simp -implicitDefEqProofs (disch := first | omega | (simp <;> omega) | fail) [e3, h4]
            · have e3 : ¬(S a p).natAbs = 1 := by omega
              have e4 : ¬((S a p).natAbs : Int) = 1 := by omega
              simp -implicitDefEqProofs (disch := first | omega | (simp <;> omega) | fail) [e3, e4]
          · simp -implicitDefEqProofs (disch := first | omega | (simp <;> omega) | fail)
        · simp -implicitDefEqProofs (disch := first | omega | (simp <;> omega) | fail)
/-- the program and the law tell the same -/
theorem told_fault (k0 : 1 ≤ K) (k1 : K ≤ 1000) (hw : ∀ k, 0 ≤ k → k < K → 0 ≤ W k ∧ W k ≤ 1000) : ∃ d, f__law_told [rag b b2 b3 K W O S] = .ok (.tup d, 0) ∧ f__law_fault [rag b b2 b3 K W O S] = .ok (.tup d, 0) ∧ isPyL 59 d = true := by
  have hw' : ∀ k, 0 ≤ k → k < K → W k ≤ 1000 := fun k a c => (hw k a c).2
  by_cases w0 : W 0 = 0
  · exact ⟨_, told_x (plan_x k1 hw' (chk_B k0 w0)), flt_B k0 w0, rfl⟩
  · have hw0 := hw 0 (by omega) (by omega)
    rcases first_of (n := K) (P := fun k => W k ≠ W 0) with h | ⟨a, a0, a1, ha, hb⟩
    · have hW : rag b b2 b3 K W O S = rag b b2 b3 K (fun _ => W 0) O S := by
        unfold rag
        congr 1
        exact tab_cg rfl fun k i0 i1 => by rw [Classical.not_not.mp (h k i0 i1)]
      rw [hW]
      rcases first_of (n := K) (P := fun k => ∃ c, 0 ≤ c ∧ c < W 0 ∧ badE (W 0) (O k) (S k) c) with g | ⟨a, a0, a1, ⟨c, c0, c1, hc⟩, gb⟩
      · have hg : ∀ k, 0 ≤ k → k < K → ∀ c, 0 ≤ c → c < W 0 → ¬badE (W 0) (O k) (S k) c := fun k i0 i1 c j0 j1 z => g k i0 i1 ⟨c, j0, j1, z⟩
        exact ⟨_, told_ok (plan_E k0 k1 (by omega) hw0.2 hg), flt_E k0 k1 (by omega) hw0.2 hg, rfl⟩
      · have hg : ∀ k, 0 ≤ k → k < a → ∀ c, 0 ≤ c → c < W 0 → ¬badE (W 0) (O k) (S k) c := fun k i0 i1 c j0 j1 z => gb k i0 i1 ⟨c, j0, j1, z⟩
        rcases first_of (n := W 0) (P := badE (W 0) (O a) (S a)) with q | ⟨p, p0, p1, hp, hq⟩
        · exact absurd hc (q c c0 c1)
        · exact ⟨_, told_x (plan_x k1 (fun _ _ _ => hw0.2) (chk_D k1 (by omega) hw0.2 a0 a1 hg p0 p1 hp hq)), flt_D k1 (by omega) hw0.2 a0 a1 hg p0 p1 hp hq, isPyL_ints (ls := [a, p])⟩
    · have hb' : ∀ k, 0 ≤ k → k < a → W k = W 0 := fun k i0 i1 => Classical.not_not.mp (hb k i0 i1)
      exact ⟨_, told_x (plan_x k1 hw' (chk_C k1 hw (by omega) a0 a1 hb' ha)), flt_C k1 hw (by omega) a0 a1 hb' ha, rfl⟩
end
end Lk08
namespace Lk08
open PySem PySem.Spec L2 Ev
section
variable {b b2 b3 : Bool} {K N n c x y : Int} {W o s r : Int → Int} {O S : Int → Int → Int}
/-- what spoilt sides look like -/
def Spo (K N : Int) (u : Prop) (v : Res (D × Nat)) : Prop := ∃ W O S, v = .ok (rag false false false K W O S, 2) ∧ (∀ k, 0 ≤ k → k < K → 0 ≤ W k ∧ W k ≤ N + 1) ∧ (u → W = fun _ => N)
theorem spoilt_ok (k0 : 1 ≤ K) (k1 : K ≤ 1000) (n0 : 1 ≤ N) (n1 : N ≤ 100) (r2 : 0 ≤ r 2 ∧ r 2 < 9) : ∀ u : Prop, (u → r 2 ≠ 6 ∧ r 2 ≠ 7) → Spo K N u (f__law_spoilt [rag b b2 b3 K (fun _ => N) O S, vec false 3 r]) := by
  intro u hu
  have q1 := Int.fmod_nonneg_of_pos (r 0) (show 0 < K by omega)
  have q2 := Int.fmod_lt_of_pos (r 0) (show 0 < K by omega)
  have q3 := Int.fmod_nonneg_of_pos (r 1) (show 0 < N by omega)
  have q4 := Int.fmod_lt_of_pos (r 1) (show 0 < N by omega)
  have hb : ∀ (p : Int) (v : Int), 0 ≤ v → v ≤ N + 1 → ∀ k, 0 ≤ k → k < K → 0 ≤ upF (fun _ => N) p v k ∧ upF (fun _ => N) p v k ≤ N + 1 := fun p v v0 v1 k _ _ => by
    unfold upF
    by_cases e : k = p
    · rw [if_pos e]; omega
    · rw [if_neg e]
      show 0 ≤ N ∧ N ≤ N + 1
      omega
  by_cases h6 : r 2 = 6
  · simp -implicitDefEqProofs (disch := first | omega | (simp <;> omega) | fail) [_law_spoilt_run, c__law_spoilt, row_l, rag_l, h6, mod_i]
    exact ⟨_, _, _, rfl, hb _ _ (by omega) (by omega), fun z => absurd h6 (hu z).1⟩
  · by_cases h7 : r 2 = 7
    · simp -implicitDefEqProofs (disch := first | omega | (simp <;> omega) | fail) [_law_spoilt_run, c__law_spoilt, row_l, rag_l, h7, mod_i]
      exact ⟨_, _, _, rfl, hb _ _ (by omega) (by omega), fun z => absurd h7 (hu z).2⟩
    · by_cases h8 : r 2 = 8
      · simp -implicitDefEqProofs (disch := first | omega | (simp <;> omega) | fail) [_law_spoilt_run, c__law_spoilt, row_l, rag_l, h8, mod_i]
        exact ⟨_, _, _, rfl, fun k _ _ => by omega, fun z => rfl⟩
      · rcases (by omega : r 2 = 0 ∨ r 2 = 1 ∨ r 2 = 2 ∨ r 2 = 3 ∨ r 2 = 4 ∨ r 2 = 5) with e | e | e | e | e | e <;>
        · simp -implicitDefEqProofs (disch := first | omega | (simp <;> omega) | fail) [_law_spoilt_run, c__law_spoilt, row_l, rag_l, e, mod_i, atI, ixN]
          exact ⟨_, _, _, rfl, fun k _ _ => by omega, fun z => rfl⟩
end
end Lk08
namespace Lk08
open PySem PySem.Spec L2 Ev
section
variable {b b2 b3 : Bool} {K N n c k x y : Int} {W o s r : Int → Int} {O S : Int → Int → Int}
theorem ent_mat (n0 : 0 ≤ N) (n1 : N ≤ 1000) : f_entries_matrix [ptr b N o s] = .ok (mat true true N N (fun r c => if o r = c then s r else 0), 0) := by
  simp -implicitDefEqProofs (disch := first | omega | (simp <;> omega) | fail) [entries_matrix_run, c_entries_matrix]
theorem matrix_ok (k0 : 0 ≤ k) (k1 : k < K) (n0 : 0 ≤ N) (n1 : N ≤ 1000) : f_Plan_matrix [planD K N O S, .int k] = .ok (mat true true N N (fun r c => if O k r = c then S k r else 0), 0) := by
  simp -implicitDefEqProofs (disch := first | omega | (simp <;> omega) | fail) [Plan_matrix_run, c_Plan_matrix, ent_mat]
theorem across_ok (k0 : 0 ≤ k) (k1 : k < K) (c0 : 0 ≤ c) (c1 : c < N) : f_Plan_across [planD K N O S, .int c, .int k] = .ok (.tup [.int (O k c), .int (S k c)], 0) := by
  simp -implicitDefEqProofs (disch := first | omega | (simp <;> omega) | fail) [Plan_across_run, c_Plan_across]
theorem across_copy (h : ¬(0 ≤ c ∧ c < N)) : f_Plan_across [planD K N O S, .int c, .int k] = .exc "NoCopy" ["copy"] [.int c] := by
  by_cases q : 0 ≤ c
  · simp -implicitDefEqProofs (disch := first | omega | (simp <;> omega) | fail) [Plan_across_run, c_Plan_across]
  · simp -implicitDefEqProofs (disch := first | omega | (simp <;> omega) | fail) [Plan_across_run, c_Plan_across]
theorem across_kind (c0 : 0 ≤ c) (c1 : c < N) (h : ¬(0 ≤ k ∧ k < K)) : f_Plan_across [planD K N O S, .int c, .int k] = .exc "NoKind" ["kind"] [.int k] := by
  by_cases q : 0 ≤ k
  · simp -implicitDefEqProofs (disch := first | omega | (simp <;> omega) | fail) [Plan_across_run, c_Plan_across]
  · simp -implicitDefEqProofs (disch := first | omega | (simp <;> omega) | fail) [Plan_across_run, c_Plan_across]
theorem matrix_kind (h : ¬(0 ≤ k ∧ k < K)) : f_Plan_matrix [planD K N O S, .int k] = .exc "NoKind" ["kind"] [.int k] := by
  by_cases q : 0 ≤ k
  · simp -implicitDefEqProofs (disch := first | omega | (simp <;> omega) | fail) [Plan_matrix_run, c_Plan_matrix]
  · simp -implicitDefEqProofs (disch := first | omega | (simp <;> omega) | fail) [Plan_matrix_run, c_Plan_matrix]
theorem no_copy (h : ¬(0 ≤ c ∧ c < N)) : f__law_no [.int 0, planD K N O S, .int c, .int k] = .ok (.tup [.str "copy", .int c], 0) := by
  have hp : plainM "across" = true := by decide
  have e := across_copy (K := K) (k := k) (O := O) (S := S) h
  simp -implicitDefEqProofs (disch := first | omega | assumption | (simp <;> omega) | decide | fail) [_law_no_run, c__law_no, mth_plan, e, tryG_in]
theorem no_kind0 (c0 : 0 ≤ c) (c1 : c < N) (h : ¬(0 ≤ k ∧ k < K)) : f__law_no [.int 0, planD K N O S, .int c, .int k] = .ok (.tup [.str "kind", .int k], 0) := by
  have hp : plainM "across" = true := by decide
  have e := across_kind (K := K) (k := k) (O := O) (S := S) c0 c1 h
  simp -implicitDefEqProofs (disch := first | omega | assumption | (simp <;> omega) | decide | fail) [_law_no_run, c__law_no, mth_plan, e, tryG_in]
theorem no_kind1 (h : ¬(0 ≤ k ∧ k < K)) : f__law_no [.int 1, planD K N O S, .int c, .int k] = .ok (.tup [.str "kind", .int k], 0) := by
  have hp : plainM "matrix" = true := by decide
  have e := matrix_kind (N := N) (O := O) (S := S) h
  simp -implicitDefEqProofs (disch := first | omega | assumption | (simp <;> omega) | decide | fail) [_law_no_run, c__law_no, mth_plan, e, tryG_in]
theorem side_ok (n0 : 0 ≤ N) (n1 : N ≤ 1000) (hg : Goods N o s) : f__law_side [ptr b N o s] = .ok (mat false false N N (fun r c => if o r = c then s r else 0), 2) := by
  simp -implicitDefEqProofs (disch := first | omega | (simp <;> omega) | fail) [_law_side_run, c__law_side]
  refine for_fin (I := fun i Γ => ∃ x, Γ = [some (ptr b N o s, 0), some (.int N, 0), some (mat false false N N (fun r c => if c < i ∧ o c = r then s c else 0), 2), x]) n0 ⟨none, ?_⟩ (fun i Γ i0 i1 ⟨x, e⟩ => ?_) fun Γ ⟨x, e⟩ => ?_
  · rw [show mat false false N N (fun r c => if c < 0 ∧ o c = r then s c else 0) = mat false false N N fun _ _ => 0 from mat_cg rfl rfl fun r _ _ c c0 _ => if_neg (by omega)]
  · subst e
    obtain ⟨g1, g2, g3, g4, g5⟩ := hg i i0 i1
    simp -implicitDefEqProofs (disch := first | omega | assumption | (simp <;> omega) | fail)
    refine mat_cg rfl rfl fun r _ _ c _ _ => ?_
    by_cases e1 : c = i
    · subst e1
      by_cases e2 : r = o c
      · rw [if_pos ⟨e2, rfl⟩, if_pos ⟨by omega, e2.symm⟩]
      · rw [if_neg fun z => e2 z.1, if_neg fun z => by omega, if_neg fun z => e2 z.2.symm]
    · rw [if_neg fun z => e1 z.2]
      by_cases e2 : c < i ∧ o c = r
      · rw [if_pos e2, if_pos ⟨by omega, e2.2⟩]
      · rw [if_neg e2, if_neg fun z => e2 ⟨by omega, z.2⟩]
  · subst e
    simp -implicitDefEqProofs (disch := first | omega | assumption | (simp <;> omega) | fail)
    refine mat_cg rfl rfl fun r r0 r1 c c0 c1 => ?_
    obtain ⟨g1, g2, g3, g4, g5⟩ := hg c c0 c1
    obtain ⟨h1, h2, h3, h4, h5⟩ := hg r r0 r1
    by_cases e1 : o c = r
    · have e2 : o r = c := by rw [← e1]; exact g4
      rw [if_pos ⟨c1, e1⟩, if_pos e2, ← e1, g5]
    · have e2 : ¬o r = c := fun z => e1 (by rw [← z]; exact h4)
      rw [if_neg fun z => e1 z.2, if_neg e2]
end
end Lk08
namespace Lk08
open PySem PySem.Spec L2 Ev
section
variable {b b2 b3 : Bool} {K N n c k x y : Int} {W o s r : Int → Int} {O S : Int → Int → Int}
theorem law_sides_ok {x : Int} (k0 : 1 ≤ K) (k1 : K ≤ 16) (n0 : 1 ≤ N) (n1 : N ≤ 30) : ∃ O S, (∀ k, 0 ≤ k → k < K → Goods N (O k) (S k)) ∧ f__law_sides [.int x, .int N, .int K] = .ok (pts false false K N O S, 1) := by
  have hm : mulOk N K := mulOk_l (by omega)
  obtain ⟨nk, hnk⟩ : ∃ nk : Nat, N * K = nk := ⟨(N * K).toNat, by rw [Int.toNat_of_nonneg (Int.mul_nonneg (by omega) (by omega))]⟩
  have hnk2 : nk ≤ 1000 := by
    have := Int.mul_le_mul n1 k1 (by omega) (by omega)
    omega
  have esz : binD .mul (.lst [.int 60], 1) (.int (N * K), 0) = .ok (.lst (List.replicate nk (.int 60)), 1) := by rw [hnk, mul_one (by omega) (by omega)]
  have hsz : ∀ (i : Nat) m, (List.replicate nk (60 : Int))[i]? = some m → m = 60 := fun i m h => List.eq_of_mem_replicate (List.mem_of_getElem? h)
  obtain ⟨dg, hr, hat⟩ : ∃ dg : Int → Int, f__law_digits [.int x, .lst (List.replicate nk (.int 60))] = .ok (vec false nk dg, 1) ∧ ∀ i, 0 ≤ dg i ∧ dg i < 60 := by
    obtain ⟨rs, hd, hr⟩ := digits_ok (G := G__law_digits) (x := x) (ns := List.replicate nk 60) (fun i m h => by rw [hsz i m h]; omega) (by rw [List.length_replicate]; exact hnk2)
    have hr : f__law_digits [.int x, .lst ((List.replicate nk (60 : Int)).map .int)] = .ok (.lst (rs.map .int), 1) := by rw [_law_digits_run]; exact hr
    have hlen : (rs.length : Int) = nk := by rw [hd.len, List.length_replicate]
    rw [lst_vec hlen, List.map_replicate] at hr
    exact ⟨_, hr, fun i => ⟨(hd.at_ i).1, (hd.at_ i).2 _ (by omega) fun m h => by rw [hsz _ m h]; omega⟩⟩
  have he : ∀ k : Int, ∃ o s, Goods N o s ∧ f__law_entries [vec false N (fun i => dg (i + k * N)), .int N] = .ok (ptr false N o s, 1) := fun k => by
    obtain ⟨o, s, a, b⟩ := entries_ok (G := G__law_entries) (n := N) (m := N) (b := false) (rw_ := fun i => dg (i + k * N)) (by omega) (by omega) (Int.le_refl N) fun i _ _ => hat _
    exact ⟨o, s, a, by rw [_law_entries_run]; exact b⟩
  obtain ⟨O, S, hg, hc⟩ : ∃ O S : Int → Int → Int, (∀ k, Goods N (O k) (S k)) ∧ ∀ k, f__law_entries [vec false N (fun i => dg (i + k * N)), .int N] = .ok (ptr false N (O k) (S k), 1) :=
    ⟨fun k => Classical.choose (he k), fun k => Classical.choose (Classical.choose_spec (he k)), fun k => (Classical.choose_spec (Classical.choose_spec (he k))).1, fun k => (Classical.choose_spec (Classical.choose_spec (he k))).2⟩
  refine ⟨O, S, fun k _ _ => hg k, ?_⟩
  have hlo : ∀ k : Int, 0 ≤ k → 0 ≤ k * N := fun k h => Int.mul_nonneg h (by omega)
  have hhi : ∀ k : Int, 0 ≤ k → k < K → k * N + N ≤ nk := fun k h h1 => by
    have := Int.mul_le_mul_of_nonneg_right (show k + 1 ≤ K by omega) (show 0 ≤ N by omega)
    rw [← hnk, Int.mul_comm N K]
    rw [Int.add_mul, Int.one_mul] at this
    exact this
  have hNN : ∀ k : Int, k * N + N - k * N = N := fun k => by omega
  have hmk : ∀ k : Int, mulOk k N := fun k => mulOk_r (by omega)
  simp -implicitDefEqProofs (disch := first | omega | exact hm | exact hmk _ | (refine hlo _ ?_; omega) | (refine hhi _ ?_ ?_ <;> omega) | (simp <;> omega) | fail) [_law_sides_run, c__law_sides, mul_i, esz, hr, hNN, hc]
theorem law_tuples_ok (k1 : K ≤ 1000) (n1 : N ≤ 1000) : f__law_tuples [pts b b2 K N O S] = .ok (pts true true K N O S, 0) := by
  simp -implicitDefEqProofs (disch := first | omega | (simp <;> omega) | fail) [_law_tuples_run, c__law_tuples]
theorem par_ok : Par := by
  intro d hd
  have : d = c_Plan_init ∨ ∀ c, d.kd ≠ .mk c ∧ ∀ ps, d.kd ≠ .mb c ps := by
    simp only [codes, List.mem_cons, List.not_mem_nil, or_false] at hd
    rcases hd with h | h | h | h | h | h | h | h | h | h | h | h | h | h | h | h | h | h | h | h | h | h | h <;> subst h <;> first | exact .inl rfl | exact .inr fun c => ⟨(fun h => by cases h), (fun ps h => by cases h)⟩
  rcases this with h | h
  · subst h
    intro c hc fns me l
    have ec : c = "Plan" := by
      rcases hc with h | ⟨ps, h⟩
      · cases h; rfl
      · cases h
    subst ec
    have hA : ({ GG with fns := fns } : Glb).okA = GG.okA := rfl
    revert hA
    generalize ({ GG with fns := fns } : Glb) = G
    intro hA
    by_cases hl : l.length = c_Plan_init.a
    · refine (mk_eq hl).trans (Eq.trans ?_ (mk_eq hl).symm)
      obtain ⟨x, rfl⟩ : ∃ x, l = [x] := by
        match l, hl with
        | [x], _ => exact ⟨x, rfl⟩
      simp -implicitDefEqProofs [c_Plan_init, hA]
      generalize (consR (nthF G.fns _ [x]) (Res.ok [])).bind (callF G _) = r
      cases r with
      | fail => simp
      | exc c ns ds => simp
      | ok d =>
        obtain ⟨d, n⟩ := d
        simp -implicitDefEqProofs [hA]
        cases h1 : biD .len [(d, 0)] with
        | fail => simp
        | exc c ns ds => simp
        | ok y =>
          obtain ⟨y, n1⟩ := y
          simp -implicitDefEqProofs [hA]
          cases h2 : idxD (d, 0) (.int 0) with
          | fail => simp [consR]
          | exc c ns ds => simp
          | ok z =>
            simp
            cases h3 : biD .len [z] with
            | fail => simp
            | exc c ns ds => simp
            | ok w =>
              obtain ⟨w, n3⟩ := w
              simp -implicitDefEqProofs [hA]
    · unfold runMk
      rw [if_neg hl, if_neg hl]
  · intro c hc
    rcases hc with hc | ⟨ps, hc⟩
    · exact absurd hc (h c).1
    · exact absurd hc ((h c).2 ps)
theorem len_ok (k0 : 0 < K) (n0 : 0 ≤ N) : f_Plan___len__ [planD K N O S] = .ok (.int N, 0) := by
  simp -implicitDefEqProofs (disch := first | omega | (simp <;> omega) | fail) [Plan___len___run, c_Plan___len__]
theorem row_ll : D.lst (tab n fun c => .lst [.int (o c), .int (s c)]) = row false false n o s := rfl
theorem isPy_rag {m : Nat} : isPy (m + 3) (rag b b2 b3 K W O S) = true := by
  rw [rag, isPy_sq]
  refine isPyL_tab fun k => ?_
  rw [row, isPy_sq]
  refine isPyL_tab fun c => ?_
  rw [ent, isPy_sq]
  exact isPyL_ints (ls := [O k c, S k c])
theorem lstN_rag : lstN 3 (rag false false false K W O S) = true := by
  show lstN 3 (.lst (tab K fun k => .lst (tab (W k) fun c => .lst [.int (O k c), .int (S k c)]))) = true
  rw [lstN_l, List.all_eq_true]
  intro d hd
  unfold tab at hd
  obtain ⟨i, _, rfl⟩ := List.mem_map.mp hd
  rw [lstN_l, List.all_eq_true]
  intro d hd
  obtain ⟨i, _, rfl⟩ := List.mem_map.mp hd
  rw [lstN_l]
  simp
theorem noL_planD : noL (planD K N O S) = true := by
  show noL (.ins _ _ [.tup (tab K fun k => .tup (tab N fun c => .tup [.int (O k c), .int (S k c)])), .int K, .int N]) = true
  have inner : ∀ (l : List Nat) (f : Nat → D), (∀ i, noL (f i) = true) → noLs (l.map f) = true := fun l f h => by
    induction l with
    | nil => rfl
    | cons x l ih => rw [List.map_cons, noLs_cons, ih, h]; rfl
  rw [noL_ins]
  simp only [noLs_cons, noL_int, noLs_nil, Bool.and_true, noL_tup]
  exact inner _ _ fun i => by rw [noL_tup]; exact inner _ _ fun j => by simp
theorem chk_A : f_checked_sides [rag true true true 0 W O S] = .exc "BadPlan" ["copy", "kind"] [.non, .int 0] := by
  simp -implicitDefEqProofs (disch := first | omega | (simp <;> omega) | fail) [checked_sides_run, c_checked_sides]
theorem told_1 : f__law_told [.lst []] = .ok (.tup [.int 0, .non], 0) :=
  told_x (v := rag false true true 0 (fun _ => 0) (fun _ _ => 0) fun _ _ => 0) (plan_x (by omega) (fun k a c => by omega) chk_A)
theorem told_2 : f__law_told [.tup []] = .ok (.tup [.int 0, .non], 0) :=
  told_x (v := rag true true true 0 (fun _ => 0) (fun _ _ => 0) fun _ _ => 0) (plan_x (by omega) (fun k a c => by omega) chk_A)
theorem told_3 : f__law_told [.lst [.lst [], .lst [.tup [.int 0, .int 1]]]] = .ok (.tup [.int 0, .non], 0) :=
  told_x (v := rag false false true 2 (fun k => k) (fun _ _ => 0) fun _ _ => 1) (plan_x (by omega) (fun k a c => by omega) (chk_B (by omega) rfl))
/-- given[0][0][1] = 5; given[0].append(..) -/
theorem two_ok {G : Glb} {m m2 : Nat} {e : EC} {R : SC} {Γ : Ev.Env} {d : D × Nat} (k0 : 1 ≤ K) (n0 : 1 ≤ N) (n1 : N ≤ 1000) (hi : Γ[4]? = some (some (rag false false false K (fun _ => N) O S, 3))) (he : ∀ Γ, ev G e Γ = .ok d) :
    ex G ((SC.sti 4 [.lit (.int 0), .lit (.int 0), .lit (.int 1)] m (.lit (.int 5))).seq ((SC.app 4 [.lit (.int 0)] m2 e).seq R)) Γ = ex G R (Γ.set 4 none) := by
  have K0 : ((0 : Nat) : Int) < K := by omega
  have N0 : ((0 : Nat) : Int) < N := by omega
  have g0 : (tab K fun k => row false false N (O k) (S k))[0]? = some (row false false N (O 0) (S 0)) := tab_get K0
  have g1 : (tab N fun c => ent false (O 0 c) (S 0 c))[0]? = some (ent false (O 0 0) (S 0 0)) := tab_get N0
  have x0 : ∀ l : List D, 0 < l.length → ixN l.length 0 = some 0 := fun l h => by
    unfold ixN
    rw [if_pos (by omega), if_pos (by omega)]; rfl
  have L0 : 0 < (tab K fun k => row false false N (O k) (S k)).length := by rw [tab_len]; omega
  have L1 : 0 < (tab N fun c => ent false (O 0 c) (S 0 c)).length := by rw [tab_len]; omega
  have e1 : at3 (rag false false false K (fun _ => N) O S, 3) (.int 0) = some (0, tab N fun c => ent false (O 0 c) (S 0 c)) := by
    show (ixN (tab K fun k => row false false N (O k) (S k)).length 0).bind (fun j => (((tab K fun k => row false false N (O k) (S k))[j]?).bind (pAt [])).map fun l2 => (j, l2)) = _
    rw [x0 _ L0]
    show (((tab K fun k => row false false N (O k) (S k))[0]?).bind (pAt [])).map (fun l2 => (0, l2)) = _
    rw [g0]; rfl
  have e2 : at3b (rag false false false K (fun _ => N) O S) (0, tab N fun c => ent false (O 0 c) (S 0 c)) (.int 0) = some (0, [.int (O 0 0), .int (S 0 0)]) := by
    show (ixN (tab N fun c => ent false (O 0 c) (S 0 c)).length 0).bind (fun j2 => (((tab K fun k => row false false N (O k) (S k))[0]?).bind (pAt [j2])).map fun m => (j2, m)) = _
    rw [x0 _ L1]
    show (((tab K fun k => row false false N (O k) (S k))[0]?).bind (pAt [0])).map (fun m => (0, m)) = _
    rw [g0]
    show (((tab N fun c => ent false (O 0 c) (S 0 c))[0]?).bind (pAt [])).map (fun m => (0, m)) = _
    rw [g1]; rfl
  obtain ⟨Y, hY, e3⟩ : ∃ Y : List D, Y.length = N.toNat ∧ put3 (rag false false false K (fun _ => N) O S) 0 0 [.int (O 0 0), .int (S 0 0)] (.int 5) (.int 1) = some (.lst ((tab K fun k => row false false N (O k) (S k)).set 0 (.lst Y))) := by
    refine ⟨(tab N fun c => ent false (O 0 c) (S 0 c)).set 0 (.lst [.int (O 0 0), .int 5]), by rw [List.length_set, tab_len], ?_⟩
    show some (D.lst ((tab K fun k => row false false N (O k) (S k)).set 0 (pSet [0] ((tab K fun k => row false false N (O k) (S k))[0]?.getD .non) [.int (O 0 0), .int 5]))) = _
    rw [g0]; rfl
  have hi4 : 4 < Γ.length := (List.getElem?_eq_some_iff.mp hi).1
  have h1 : ex G (SC.sti 4 [.lit (.int 0), .lit (.int 0), .lit (.int 1)] m (.lit (.int 5))) Γ = .nx (Γ.set 4 (some (.lst ((tab K fun k => row false false N (O k) (S k)).set 0 (.lst Y)), 3))) := by
    simp only [ex, hi, ev, Res.out_ok, e1, optO_some, e2, e3]
  have e4 : inLen 2 ((tab K fun k => row false false N (O k) (S k)).set 0 (.lst Y)) (.int 0) = some Y.length := by
    show (ixN ((tab K fun k => row false false N (O k) (S k)).set 0 (.lst Y)).length 0).bind (fun j => ((((tab K fun k => row false false N (O k) (S k)).set 0 (.lst Y))[j]?).bind (pAt [])).map List.length) = _
    rw [x0 _ (by rw [List.length_set]; exact L0)]
    show ((((tab K fun k => row false false N (O k) (S k)).set 0 (.lst Y))[0]?).bind (pAt [])).map List.length = _
    rw [List.getElem?_set_self (by omega)]; rfl
  have h2 : ∀ Γ' : Ev.Env, Γ'[4]? = some (some (.lst ((tab K fun k => row false false N (O k) (S k)).set 0 (.lst Y)), 3)) → ex G (SC.app 4 [.lit (.int 0)] m2 e) Γ' = .nx (Γ'.set 4 none) := fun Γ' h => by
    have hz : Y.length < cap := by rw [hY]; unfold cap; omega
    simp only [ex, h, ev, Res.out_ok, e4, optO_some, he, if_pos hz]
  rw [show ex G ((SC.sti 4 [.lit (.int 0), .lit (.int 0), .lit (.int 1)] m (.lit (.int 5))).seq ((SC.app 4 [.lit (.int 0)] m2 e).seq R)) Γ = (ex G (SC.sti 4 [.lit (.int 0), .lit (.int 0), .lit (.int 1)] m (.lit (.int 5))) Γ).bind fun Γ1 => (ex G (SC.app 4 [.lit (.int 0)] m2 e) Γ1).bind fun Γ2 => ex G R Γ2 by simp only [ex]]
  rw [h1]
  show (ex G (SC.app 4 [.lit (.int 0)] m2 e) _).bind _ = _
  rw [h2 _ (List.getElem?_set_self hi4)]
  show ex G R _ = _
  rw [List.set_set]
end
end Lk08
namespace Lk08
open PySem PySem.Spec L2 Ev
@[simp] theorem sok1 : PyData.strOk (Str.ofString "copy") = true := by decide +kernel
@[simp] theorem sok2 : PyData.strOk (Str.ofString "kind") = true := by decide +kernel
section
variable {b b2 b3 : Bool} {K N n c k x y : Int} {W o s r dg : Int → Int} {O S : Int → Int → Int}
theorem nam_row : nam false false n o s = row false false n o s := rfl
theorem lend_plan : lendR (.ok (planD K N O S, 0)) = .ok (planD K N O S, 0) := lendR_ok (by rw [noLn_0]; exact noL_planD)
theorem eq_rag : eqD (rag b b2 b3 K W O S) (rag b b2 b3 K W O S) = .ok true := by rw [eqD_ok isPy_rag isPy_rag, deq_refl]
theorem good_bad (hg : ∀ k, 0 ≤ k → k < K → Goods N (O k) (S k)) : ∀ k, 0 ≤ k → k < K → ∀ c, 0 ≤ c → c < N → ¬badE N (O k) (S k) c := fun k k0 k1 c c0 c1 h => h (hg k k0 k1 c c0 c1)
theorem law_d {sc : D} {x y v w z : Option (D × Nat)} {O' S' : Int → Int → Int} (k0 : 1 ≤ K) (k1 : K ≤ 16) (n0 : 1 ≤ N) (n1 : N ≤ 30) (hg : ∀ k, 0 ≤ k → k < K → Goods N (O k) (S k)) (d9 : 0 ≤ dg 9) (hW : ∀ k, 0 ≤ k → k < K → 0 ≤ W k ∧ W k ≤ N + 1) :
    finR (ex G_law (dropS 12 c_law.code) [some (sc, 0), some (vec false 10 dg, 0), some (pts false false K N O S, 0), some (.int N, 0), none, some (planD K N O S, 0), x, y, some (rag false false false K W O' S', 0), v, w, z]) = .ok (.bl true, 0) := by
  obtain ⟨d, f1, f2, py⟩ := told_fault (b := false) (b2 := false) (b3 := false) (O := O') (S := S') k0 (show K ≤ 1000 by omega) fun k a c => ⟨(hW k a c).1, by have := (hW k a c).2; omega⟩
  have ed : eqD (.tup d) (.tup d) = .ok true := by
    have : isPy 60 (.tup d) = true := by rw [isPy_tup]; exact py
    rw [eqD_ok this this, deq_refl]
  have t1 : f__law_tuples [pts false false K N O S] = .ok (pts true true K N O S, 0) := law_tuples_ok (by omega) (by omega)
  have t2 : f__law_told [pts true true K N O S] = .ok (.tup [], 0) := told_ok (plan_E (b := true) (b2 := true) (b3 := true) k0 (by omega) n0 (by omega) (good_bad hg))
  have q1 : f__law_no [.int 0, planD K N O S, .int (N + dg 9), .int K] = .ok (.tup [.str "copy", .int (N + dg 9)], 0) := no_copy (by omega)
  have q2 : f__law_no [.int 0, planD K N O S, .int (-1), .int 0] = .ok (.tup [.str "copy", .int (-1)], 0) := no_copy (by omega)
  have q3 : f__law_no [.int 0, planD K N O S, .int 0, .int (-1)] = .ok (.tup [.str "kind", .int (-1)], 0) := no_kind0 (by omega) (by omega) (by omega)
  have q4 : f__law_no [.int 1, planD K N O S, .int 0, .int (-1 - dg 9)] = .ok (.tup [.str "kind", .int (-1 - dg 9)], 0) := no_kind1 (by omega)
  have q5 : f__law_no [.int 0, planD K N O S, .int (N - 1), .int (K + dg 9)] = .ok (.tup [.str "kind", .int (K + dg 9)], 0) := no_kind0 (by omega) (by omega) (by omega)
  have q6 : f__law_no [.int 1, planD K N O S, .int 0, .int K] = .ok (.tup [.str "kind", .int K], 0) := no_kind1 (by omega)
  simp -implicitDefEqProofs (disch := first | omega | assumption | (simp <;> omega) | fail) [c_law, dropS, f1, f2, ed, t1, t2, told_1, told_2, told_3, q1, q2, q3, q4, q5, q6]
theorem law_b {sc : D} (k0 : 1 ≤ K) (k1 : K ≤ 16) (n0 : 1 ≤ N) (n1 : N ≤ 30) (hg : ∀ k, 0 ≤ k → k < K → Goods N (O k) (S k)) (d4 : 0 ≤ dg 4 ∧ dg 4 < 9) (d7 : 0 ≤ dg 7 ∧ dg 7 < 9) (d9 : 0 ≤ dg 9) :
    finR (ex G_law (dropS 3 c_law.code) [some (sc, 0), some (vec false 10 dg, 0), some (pts false false K N O S, 0), some (.int N, 0), none, none, none, none, none, none, none, none]) = .ok (.bl true, 0) := by
  have e1 := plan_E (b := false) (b2 := false) (b3 := false) k0 (by omega) n0 (by omega) (good_bad hg)
  rw [ex_cut 3]
  generalize hR : dropS 3 (dropS 3 c_law.code) = R
  simp -implicitDefEqProofs (disch := first | omega | assumption | exact lstN_rag | exact noL_planD | exact isPy_rag | (simp <;> omega) | fail) [c_law, takeS, dropS, nam_row, row_ll, rag_l, e1, lstN_rag, lend_plan, eq_rag]
  rw [← hR]
  show finR (ex G_law ((SC.sti 4 [.lit (.int 0), .lit (.int 0), .lit (.int 1)] 0 (.lit (.int 5))).seq ((SC.app 4 [.lit (.int 0)] 1 _).seq _)) _) = _
  rw [two_ok (K := K) (N := N) (O := O) (S := S) (d := (.lst [.int 0, .int 1], 1)) k0 n0 (by omega) rfl fun Γ => by simp -implicitDefEqProofs]
  have eP : plainM "across" = true := by decide
  have eM : plainM "matrix" = true := by decide
  have t1 : f__law_tuples [pts false false K N O S] = .ok (pts true true K N O S, 0) := law_tuples_ok (by omega) (by omega)
  have t2 : f__law_told [pts true true K N O S] = .ok (.tup [], 0) := told_ok (plan_E (b := true) (b2 := true) (b3 := true) k0 (by omega) n0 (by omega) (good_bad hg))
  simp -implicitDefEqProofs (disch := first | omega | assumption | (simp <;> omega) | fail) [t1, len_ok]
  refine for_fin (I := fun i Γ => ∃ x y u v w z, Γ = [some (sc, 0), some (vec false 10 dg, 0), some (pts false false K N O S, 0), some (.int N, 0), none, some (planD K N O S, 0), x, y, u, v, w, z]) (by omega) ⟨_, _, _, _, _, _, rfl⟩ (fun i Γ i0 i1 ⟨x, y, u, v, w, z, e⟩ => ?_) fun Γ ⟨x, y, u, v, w, z, e⟩ => ?_
  · subst e
    have e2 := matrix_ok (K := K) (N := N) (O := O) (S := S) i0 i1 (by omega) (by omega)
    have e3 := side_ok (b := false) (show 0 ≤ N by omega) (by omega) (hg i i0 i1)
    simp -implicitDefEqProofs (disch := first | omega | assumption | (simp <;> omega) | decide | fail) [mth_plan, e2, e3]
    refine for_ok (I := fun j Γ => ∃ y u v w z, Γ = [some (sc, 0), some (vec false 10 dg, 0), some (pts false false K N O S, 0), some (.int N, 0), none, some (planD K N O S, 0), some (.int i, 0), y, u, v, w, z]) (by omega) ⟨_, _, _, _, _, rfl⟩ (fun j Γ j0 j1 ⟨y, u, v, w, z, e⟩ => ?_) fun Γ ⟨y, u, v, w, z, e⟩ => ?_
    · subst e
      have e4 := across_ok (K := K) (N := N) (O := O) (S := S) i0 i1 j0 j1
      simp -implicitDefEqProofs (disch := first | omega | assumption | (simp <;> omega) | decide | fail) [mth_plan, e4]
    · subst e
      simp -implicitDefEqProofs
  · subst e
    obtain ⟨W1, O1, S1, es1, hW1, hu1⟩ := spoilt_ok (b := false) (b2 := false) (b3 := true) (K := K) (N := N) (O := O) (S := S) (r := fun i => dg (i + 2)) k0 (by omega) n0 (by omega) (by simpa using d4) (dg 4 ≠ 6 ∧ dg 4 ≠ 7) (by simp)
    have es1 : f__law_spoilt [pts false false K N O S, vec false 3 fun i => dg (i + 2)] = .ok (rag false false false K W1 O1 S1, 2) := es1
    show finR (ex G_law (dropS 10 c_law.code) _) = _
    rw [ex_cut 2]
    generalize hR : dropS 2 (dropS 10 c_law.code) = R
    by_cases h8 : dg 8 = 0
    · by_cases h6 : dg 4 = 6
      · simp -implicitDefEqProofs (disch := first | omega | assumption | (simp <;> omega) | fail) [c_law, takeS, dropS, es1, h8, h6]
        rw [← hR]
        exact law_d k0 k1 n0 n1 hg d9 hW1
      · by_cases h7 : dg 4 = 7
        · simp -implicitDefEqProofs (disch := first | omega | assumption | (simp <;> omega) | fail) [c_law, takeS, dropS, es1, h8, h7]
          rw [← hR]
          exact law_d k0 k1 n0 n1 hg d9 hW1
        · have hu := hu1 ⟨h6, h7⟩
          subst hu
          obtain ⟨W2, O2, S2, es2, hW2, hu2⟩ := spoilt_ok (b := false) (b2 := false) (b3 := false) (K := K) (N := N) (O := O1) (S := S1) (r := fun i => dg (i + 5)) k0 (by omega) n0 (by omega) (by simpa using d7) False (by simp)
          simp -implicitDefEqProofs (disch := first | omega | assumption | (simp <;> omega) | fail) [c_law, takeS, dropS, es1, es2, h8, h6, h7]
          rw [← hR]
          exact law_d k0 k1 n0 n1 hg d9 hW2
    · simp -implicitDefEqProofs (disch := first | omega | assumption | (simp <;> omega) | fail) [c_law, takeS, dropS, es1, h8]
      rw [← hR]
      exact law_d k0 k1 n0 n1 hg d9 hW1
theorem of_digits {sc : D} {cl1 : Int} (h1 : f__law_cell [sc, .int 1] = .ok (.int cl1, 0)) (hd : ∀ i, 0 ≤ dg i) (d0 : dg 0 < 7) (d1 : dg 1 < 4) (d4 : dg 4 < 9) (d7 : dg 7 < 9) :
    finR (ex G_law (dropS 1 c_law.code) [some (sc, 0), some (vec false 10 dg, 0), none, none, none, none, none, none, none, none, none, none]) = .ok (.bl true, 0) := by
  obtain ⟨N, n0, n1, eN⟩ : ∃ r : Int, 1 ≤ r ∧ r ≤ 15 ∧ atI [D.int 3, D.int 4, D.int 2, D.int 5, D.int 1, D.int 9, D.int 15] (dg 0) = some (.int r) := by
    have := hd 0
    have q : dg 0 = 0 ∨ dg 0 = 1 ∨ dg 0 = 2 ∨ dg 0 = 3 ∨ dg 0 = 4 ∨ dg 0 = 5 ∨ dg 0 = 6 := by omega
    rcases q with q | q | q | q | q | q | q <;> rw [q]
    · exact ⟨3, by omega, by omega, rfl⟩
    · exact ⟨4, by omega, by omega, rfl⟩
    · exact ⟨2, by omega, by omega, rfl⟩
    · exact ⟨5, by omega, by omega, rfl⟩
    · exact ⟨1, by omega, by omega, rfl⟩
    · exact ⟨9, by omega, by omega, rfl⟩
    · exact ⟨15, by omega, by omega, rfl⟩
  have q1 := hd 1
  obtain ⟨O, S, hg, hs⟩ := law_sides_ok (x := cl1) (K := 1 + dg 1) (N := N) (by omega) (by omega) n0 (by omega)
  rw [ex_cut 2]
  generalize hR : dropS 2 (dropS 1 c_law.code) = R
  simp -implicitDefEqProofs (disch := first | omega | assumption | (simp <;> omega) | fail) [c_law, takeS, dropS, h1, hs, eN]
  rw [← hR]
  exact law_b (by omega) (by omega) n0 (by omega) hg ⟨hd 4, d4⟩ ⟨hd 7, d7⟩ (hd 9)
def SZ : List Int := [7, 4, 4, 16, 9, 4, 16, 9, 3, 4]
theorem pure_ok (ns : List Int) (hl : ns.length ≤ 63) : phi [.ro (ns.map .int)] = .ok (.bl true, 0) := by
  have hcell : ∀ k : Nat, k < 1000 → ∃ x : Int, f__law_cell [.ro (ns.map .int), .int (k : Int)] = .ok (.int x, 0) := fun k hk => by
    obtain ⟨x, hx⟩ := cell_ok (G := G__law_cell) (ns := ns) hk
    exact ⟨x, by rw [_law_cell_run]; exact hx⟩
  obtain ⟨c0, hc0⟩ := hcell 0 (by omega)
  obtain ⟨c1, hc1⟩ := hcell 1 (by omega)
  have hsz : ∀ (i : Nat) m, SZ[i]? = some m → 0 < m ∧ m < 1000000000 := by
    intro i m h
    have hm := List.mem_of_getElem? h
    have hall : ∀ m ∈ SZ, 0 < m ∧ m < 1000000000 := by decide
    exact hall m hm
  obtain ⟨rs, hd, hr⟩ := digits_ok (G := G__law_digits) (x := c0) (ns := SZ) (fun i m h => ⟨(hsz i m h).1, (hsz i m h).2⟩) (by decide)
  have hr : f__law_digits [.int c0, .lst (SZ.map .int)] = .ok (.lst (rs.map .int), 1) := by rw [_law_digits_run]; exact hr
  have hlen : (rs.length : Int) = 10 := by rw [hd.len]; rfl
  rw [lst_vec hlen] at hr
  have hat : ∀ i : Int, 0 ≤ rs.getD i.toNat 0 := fun i => (hd.at_ i).1
  have hk : ∀ (i : Int) (n : Int), 0 < n → (∀ m, SZ[i.toNat]? = some m → m ≤ n) → rs.getD i.toNat 0 < n := fun i n => (hd.at_ i).2 n
  have esz : D.lst (SZ.map .int) = .lst [.int 7, .int 4, .int 4, .int 16, .int 9, .int 4, .int 16, .int 9, .int 3, .int 4] := rfl
  rw [esz] at hr
  rw [phi_eq, law_run, ex_cut 1]
  generalize hR : dropS 1 c_law.code = R
  have hc0' : f__law_cell [.ro (ns.map .int), .int 0] = .ok (.int c0, 0) := hc0
  simp -implicitDefEqProofs (disch := first | omega | (simp <;> omega) | fail) [c_law, takeS, hc0', cap, hr]
  rw [← hR]
  exact of_digits hc1 hat (hk 0 7 (by omega) fun m h => by cases h; omega) (hk 1 4 (by omega) fun m h => by cases h; omega) (hk 4 9 (by omega) fun m h => by cases h; omega) (hk 7 9 (by omega) fun m h => by cases h; omega)
end
end Lk08
theorem PySem.Challenge.cw_tonesalike_k08_plan_checked_holds : PySem.Challenge.rw_tonesalike_k08_plan_checked.Holds := by
  exact PySem.Challenge.rw_tonesalike_k08_plan_checked_of Lk08.par_ok Lk08.pure_ok
