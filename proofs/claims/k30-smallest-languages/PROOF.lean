import PyProof.Rows.All
import Wide.All
import OpenK.AllK
import Wide.FinOn
import HandS.ForMost
import HandS.Walk
import HandS.More
import HandS.IsInst
import HandS.Conv
import HandS.Style
import HandS.Exc
import HandS.NoneIn
import HandS.SetTxt0
import HandS.Set
import HandS.SetBool
import PyProof.Rows.SortShellAny
import HandS.ExcInit
import HandS.ExcField
import HandS.ExcIs
import HandS.ClsMeth
import HandS.WordsExc
import HandS.ExcValue
import KE.GoesNew
import KE.GoesEnum
import HandS.OwnEq
import HandS.Property
import HandS.Star
import OpenK.KMeth
import HandS.GenBody
import HandS.GenYield
import HandS.GenCall
import HandS.GenList
import PyProof.GenComp
import PyProof.ListStr
import PyProof.Rows.StrStep
import PyProof.Rows.StrRev
import HandS.Lambda
import HandS.EndTab
import PySem.Challenge.RW_keepplace_k30_whole_smallest_languages
set_option Elab.async false
set_option linter.all false
set_option maxRecDepth 100000
set_option maxHeartbeats 4000000
/-! # The data layer: what an expression is worth as plain data -/
namespace Kp
open PySem PySem.Spec PyProof.Rows L2

/-! ### data -/
structure Lang where
  ks : List Str
  all : Bool
  runs : Int
  firsts : List Str
inductive D where
  | non | bl (b : Bool) | int (i : Int) | str (s : Str) | lst (xs : List D) | tup (xs : List D) | dic (kvs : List (Key × D)) | lang (L : Lang) | raw (u : V) | exc (Ce : Addr) (f : Str) (d : D) | sq (ns : List Int)
abbrev DSt := List (Option D)
def langFs (L : Lang) (f1 f4 : Addr) : List (Str × V) := [("kept_forms", .ref f1), ("is_all", .bl L.all), ("runs", .int L.runs), ("firsts", .ref f4)]
/-- an error that was caught -/
def KeptE (cls : Value) (d : Option Addr) (a : Addr) : HO := .ext fun h => ∃ (oe : Obj) (vs : Array Value), h.get? a = some oe ∧ Zc cls d oe ∧ oe.data = .fields vs
def LangAt (C : Addr) (G : Hp) (L : Lang) (v : V) : Prop := ∃ a dx f1 f4, v = .ref a ∧ G a = some (.ins C dx (langFs L f1 f4)) ∧ G f1 = some (.lst (L.ks.map .str)) ∧ G f4 = some (.lst (L.firsts.map .str))
section
variable (K : PySem.W.Frag) (C : Addr)
mutual
/-- v stands for d in G -/
def At (G : Hp) : D → V → Prop
  | .non, v => v = .non
  | .bl b, v => v = .bl b
  | .int i, v => v = .int i
  | .str s, v => v = .str s
  | .lst xs, v => ∃ a vs, v = .ref a ∧ G a = some (.lst vs) ∧ AtL G xs vs
  | .tup xs, v => ∃ a vs, v = .ref a ∧ SqT K G a vs ∧ AtL G xs vs
  | .dic kvs, v => ∃ a vs, v = .ref a ∧ G a = some (.dK vs) ∧ AtK G kvs vs
  | .lang L, v => LangAt C G L v
  | .raw u, v => v = u
  | .exc Ce f d, v => ∃ a dd u, v = .ref a ∧ G a = some (KeptE (.ref Ce) (some dd) a) ∧ G dd = some (.xd [(f, u)]) ∧ At G d u
  | .sq ns, v => ∃ a, v = .ref a ∧ SqL K G a (ns.map .int)
def AtL (G : Hp) : List D → List V → Prop
  | [], vs => vs = []
  | d :: ds, vs => ∃ v r, vs = v :: r ∧ At G d v ∧ AtL G ds r
def AtK (G : Hp) : List (Key × D) → List (Key × V) → Prop
  | [], vs => vs = []
  | (k, d) :: ds, vs => ∃ v r, vs = (k, v) :: r ∧ At G d v ∧ AtK G ds r
end
end
theorem same_t {K : PySem.W.Frag} {H H' : Hp} {a : Addr} {xs : List V} (e : Same H H') (h : SqT K H a xs) : SqT K H' a xs := by
  rcases h with (h | ⟨o, h⟩) | h
  · exact .inl (.inl (e _ _ h))
  · exact .inl (.inr ⟨o, e _ _ h⟩)
  · exact .inr h
theorem same_l {K : PySem.W.Frag} {H H' : Hp} {a : Addr} {xs : List V} (e : Same H H') (h : SqL K H a xs) : SqL K H' a xs := by
  rcases h with (h | ⟨o, h⟩) | h
  · exact .inl (.inl (e _ _ h))
  · exact .inl (.inr ⟨o, e _ _ h⟩)
  · exact .inr h
section
variable {K : PySem.W.Frag} {C : Addr} {G G' H H' : Hp}
theorem LangAt.mono {L : Lang} {v : V} (e : Same G G') (h : LangAt C G L v) : LangAt C G' L v := by
  obtain ⟨a, dx, f1, f4, h1, h2, h3, h4⟩ := h
  exact ⟨a, dx, f1, f4, h1, e _ _ h2, e _ _ h3, e _ _ h4⟩
mutual
theorem At.mono (e : Same G G') : ∀ {d : D} {v : V}, At K C G d v → At K C G' d v
  | .non, _, h => by simp only [At] at h ⊢; exact h
  | .bl _, _, h => by simp only [At] at h ⊢; exact h
  | .int _, _, h => by simp only [At] at h ⊢; exact h
  | .str _, _, h => by simp only [At] at h ⊢; exact h
  | .lst xs, v, h => by
    simp only [At] at h ⊢
    obtain ⟨a, vs, h1, h2, h3⟩ := h
    exact ⟨a, vs, h1, e _ _ h2, AtL.mono e h3⟩
  | .tup xs, v, h => by
    simp only [At] at h ⊢
    obtain ⟨a, vs, h1, h2, h3⟩ := h
    exact ⟨a, vs, h1, same_t e h2, AtL.mono e h3⟩
  | .dic kvs, v, h => by
    simp only [At] at h ⊢
    obtain ⟨a, vs, h1, h2, h3⟩ := h
    exact ⟨a, vs, h1, e _ _ h2, AtK.mono e h3⟩
  | .lang L, v, h => by
    simp only [At] at h ⊢
    exact h.mono e
  | .raw _, _, h => by simp only [At] at h ⊢; exact h
  | .exc Ce f d, v, h => by
    simp only [At] at h ⊢
    obtain ⟨a, dd, u, h1, h2, h3, h4⟩ := h
    exact ⟨a, dd, u, h1, e _ _ h2, e _ _ h3, At.mono e h4⟩
  | .sq ns, v, h => by
    simp only [At] at h ⊢
    obtain ⟨a, h1, h2⟩ := h
    exact ⟨a, h1, same_l e h2⟩
theorem AtL.mono (e : Same G G') : ∀ {ds : List D} {vs : List V}, AtL K C G ds vs → AtL K C G' ds vs
  | [], _, h => by simp only [AtL] at h ⊢; exact h
  | d :: ds, vs, h => by
    simp only [AtL] at h ⊢
    obtain ⟨v, r, h1, h2, h3⟩ := h
    exact ⟨v, r, h1, At.mono e h2, AtL.mono e h3⟩
theorem AtK.mono (e : Same G G') : ∀ {ds : List (Key × D)} {vs : List (Key × V)}, AtK K C G ds vs → AtK K C G' ds vs
  | [], _, h => by simp only [AtK] at h ⊢; exact h
  | (k, d) :: ds, vs, h => by
    simp only [AtK] at h ⊢
    obtain ⟨v, r, h1, h2, h3⟩ := h
    exact ⟨v, r, h1, At.mono e h2, AtK.mono e h3⟩
end
theorem AtL.nil : AtL K C G [] [] := by simp only [AtL]
theorem AtL.cons {d : D} {v : V} {ds : List D} {vs : List V} (h : At K C G d v) (r : AtL K C G ds vs) : AtL K C G (d :: ds) (v :: vs) := by
  simp only [AtL]
  exact ⟨v, vs, rfl, h, r⟩
theorem AtL.inv {d : D} {ds : List D} {vs : List V} (h : AtL K C G (d :: ds) vs) : ∃ v r, vs = v :: r ∧ At K C G d v ∧ AtL K C G ds r := by
  simp only [AtL] at h
  exact h
theorem AtL.inv0 {vs : List V} (h : AtL K C G [] vs) : vs = [] := by
  simp only [AtL] at h
  exact h
theorem AtL.len : ∀ {ds : List D} {vs : List V}, AtL K C G ds vs → vs.length = ds.length
  | [], _, h => by rw [h.inv0]; rfl
  | d :: ds, vs, h => by
    obtain ⟨v, r, rfl, _, h3⟩ := h.inv
    simp [h3.len]
theorem AtL.get : ∀ {ds : List D} {vs : List V} {i : Nat} {d : D}, AtL K C G ds vs → ds[i]? = some d → ∃ v, vs[i]? = some v ∧ At K C G d v
  | [], _, i, d, h, e => by simp at e
  | d0 :: ds, vs, 0, d, h, e => by
    obtain ⟨v, r, rfl, h2, _⟩ := h.inv
    simp at e
    subst e
    exact ⟨v, rfl, h2⟩
  | d0 :: ds, vs, i + 1, d, h, e => by
    obtain ⟨v, r, rfl, _, h3⟩ := h.inv
    obtain ⟨u, e1, e2⟩ := h3.get (i := i) (d := d) (by simpa using e)
    exact ⟨u, by simpa using e1, e2⟩
theorem AtL.getV {ds : List D} {vs : List V} {i : Nat} {v : V} (h : AtL K C G ds vs) (e : vs[i]? = some v) : ∃ d, ds[i]? = some d ∧ At K C G d v := by
  have hl := h.len
  have hi : i < ds.length := by
    have := (List.getElem?_eq_some_iff.mp e).1
    omega
  obtain ⟨u, e1, e2⟩ := h.get (List.getElem?_eq_getElem hi)
  rw [e] at e1
  cases e1
  exact ⟨_, List.getElem?_eq_getElem hi, e2⟩
theorem AtL.append : ∀ {ds es : List D} {vs us : List V}, AtL K C G ds vs → AtL K C G es us → AtL K C G (ds ++ es) (vs ++ us)
  | [], es, vs, us, h, h' => by rw [h.inv0]; exact h'
  | d :: ds, es, vs, us, h, h' => by
    obtain ⟨v, r, rfl, h2, h3⟩ := h.inv
    exact .cons h2 (h3.append h')
theorem AtL.snoc {ds : List D} {vs : List V} {d : D} {v : V} (h : AtL K C G ds vs) (h' : At K C G d v) : AtL K C G (ds ++ [d]) (vs ++ [v]) := h.append (.cons h' .nil)
theorem AtL.take : ∀ {ds : List D} {vs : List V} (n : Nat), AtL K C G ds vs → AtL K C G (ds.take n) (vs.take n)
  | ds, vs, 0, _ => by simp only [List.take_zero]; exact .nil
  | [], vs, n + 1, h => by rw [h.inv0]; simp only [List.take_nil]; exact .nil
  | d :: ds, vs, n + 1, h => by
    obtain ⟨v, r, rfl, h2, h3⟩ := h.inv
    simp only [List.take_succ_cons]
    exact .cons h2 (h3.take n)
theorem AtL.drop : ∀ {ds : List D} {vs : List V} (n : Nat), AtL K C G ds vs → AtL K C G (ds.drop n) (vs.drop n)
  | ds, vs, 0, h => h
  | [], vs, n + 1, h => by rw [h.inv0]; simp only [List.drop_nil]; exact .nil
  | d :: ds, vs, n + 1, h => by
    obtain ⟨v, r, rfl, h2, h3⟩ := h.inv
    simp only [List.drop_succ_cons]
    exact h3.drop n
theorem AtL.rev : ∀ {ds : List D} {vs : List V}, AtL K C G ds vs → AtL K C G ds.reverse vs.reverse
  | [], _, h => by rw [h.inv0]; exact .nil
  | d :: ds, vs, h => by
    obtain ⟨v, r, rfl, h2, h3⟩ := h.inv
    simp only [List.reverse_cons]
    exact h3.rev.snoc h2
theorem AtL.strs : ∀ {ss : List Str} {vs : List V}, AtL K C G (ss.map .str) vs → vs = ss.map .str
  | [], _, h => h.inv0
  | s :: ss, vs, h => by
    obtain ⟨v, r, rfl, h2, h3⟩ := h.inv
    simp only [At] at h2
    rw [h2, AtL.strs h3] <;> rfl
theorem AtL.of_strs : ∀ {ss : List Str}, AtL K C G (ss.map .str) (ss.map .str)
  | [] => .nil
  | s :: ss => .cons (by simp only [At]) AtL.of_strs
theorem AtL.ints : ∀ {ss : List Int} {vs : List V}, AtL K C G (ss.map .int) vs → vs = ss.map .int
  | [], _, h => h.inv0
  | s :: ss, vs, h => by
    obtain ⟨v, r, rfl, h2, h3⟩ := h.inv
    simp only [At] at h2
    rw [h2, AtL.ints h3] <;> rfl
theorem AtL.of_ints : ∀ {ss : List Int}, AtL K C G (ss.map .int) (ss.map .int)
  | [] => .nil
  | s :: ss => .cons (by simp only [At]) AtL.of_ints
theorem AtL.bls : ∀ {ss : List Bool} {vs : List V}, AtL K C G (ss.map .bl) vs → vs = ss.map .bl
  | [], _, h => h.inv0
  | s :: ss, vs, h => by
    obtain ⟨v, r, rfl, h2, h3⟩ := h.inv
    simp only [At] at h2
    rw [h2, AtL.bls h3] <;> rfl
theorem At.int' {i : Int} {v : V} (h : At K C G (.int i) v) : v = .int i := by simp only [At] at h; exact h
theorem At.str' {i : Str} {v : V} (h : At K C G (.str i) v) : v = .str i := by simp only [At] at h; exact h
theorem At.bl' {i : Bool} {v : V} (h : At K C G (.bl i) v) : v = .bl i := by simp only [At] at h; exact h
theorem At.non' {v : V} (h : At K C G .non v) : v = .non := by simp only [At] at h; exact h
theorem At.lst' {xs : List D} {v : V} (h : At K C G (.lst xs) v) : ∃ a vs, v = .ref a ∧ G a = some (.lst vs) ∧ AtL K C G xs vs := by simp only [At] at h; exact h
theorem At.tup' {xs : List D} {v : V} (h : At K C G (.tup xs) v) : ∃ a vs, v = .ref a ∧ SqT K G a vs ∧ AtL K C G xs vs := by simp only [At] at h; exact h
theorem At.raw' {u v : V} (h : At K C G (.raw u) v) : v = u := by simp only [At] at h; exact h
theorem At.raw (u : V) : At K C G (.raw u) u := by simp only [At]
theorem At.exc' {Ce : Addr} {f : Str} {d : D} {v : V} (h : At K C G (.exc Ce f d) v) : ∃ a dd u, v = .ref a ∧ G a = some (KeptE (.ref Ce) (some dd) a) ∧ G dd = some (.xd [(f, u)]) ∧ At K C G d u := by simp only [At] at h; exact h
theorem At.int (i : Int) : At K C G (.int i) (.int i) := by simp only [At]
theorem At.str (i : Str) : At K C G (.str i) (.str i) := by simp only [At]
theorem At.bl (i : Bool) : At K C G (.bl i) (.bl i) := by simp only [At]
theorem At.non : At K C G .non .non := by simp only [At]
theorem At.lst {xs : List D} {a : Addr} {vs : List V} (h : G a = some (.lst vs)) (r : AtL K C G xs vs) : At K C G (.lst xs) (.ref a) := by
  simp only [At]
  exact ⟨a, vs, rfl, h, r⟩
theorem At.tup {xs : List D} {a : Addr} {vs : List V} (h : SqT K G a vs) (r : AtL K C G xs vs) : At K C G (.tup xs) (.ref a) := by
  simp only [At]
  exact ⟨a, vs, rfl, h, r⟩
/-- data without an address -/
def flatD : D → Bool
  | .non => true | .bl _ => true | .int _ => true | .str _ => true | _ => false
def vOf : D → V
  | .non => .non | .bl b => .bl b | .int i => .int i | .str s => .str s | _ => .non
theorem At.flat {d : D} {v : V} (h : At K C G d v) (f : flatD d = true) : v = vOf d := by
  cases d <;> first | (simp only [At] at h; exact h) | cases f
theorem At.of_flat {d : D} (f : flatD d = true) : At K C G d (vOf d) := by
  cases d <;> first | (simp only [At]; rfl) | cases f
theorem flatV_vOf {d : D} (f : flatD d = true) : flatV (vOf d) = true := by
  cases d <;> first | rfl | cases f
theorem AtL.flat : ∀ {ds : List D} {vs : List V}, AtL K C G ds vs → ds.all flatD = true → vs = ds.map vOf
  | [], _, h, _ => h.inv0
  | d :: ds, vs, h, f => by
    obtain ⟨v, r, rfl, h2, h3⟩ := h.inv
    simp only [List.all_cons, Bool.and_eq_true] at f
    rw [h2.flat f.1, h3.flat f.2] <;> rfl

/-! ### how the heaps grow -/
structure Nx (G H G' H' : Hp) : Prop where
  g : Same G G'
  h : Same H H'
  s : Same G' H'
  n : ∀ b, G b = Option.none → H b ≠ Option.none → G' b = Option.none
theorem Same.new {H : Hp} {p : Addr} {o : HO} (h : H p = Option.none) : Same H (upd H p o) := fun a u e => by
  rw [upd_ne (ne_of_none e h)]
  exact e
theorem Nx.refl (s : Same G H) : Nx G H G H := ⟨Same.refl _, Same.refl _, s, fun _ h _ => h⟩
theorem Nx.trans {G1 H1 G2 H2 : Hp} (a : Nx G H G1 H1) (b : Nx G1 H1 G2 H2) : Nx G H G2 H2 :=
  ⟨a.g.trans b.g, a.h.trans b.h, b.s, fun c h1 h2 => b.n c (a.n c h1 h2) fun z => h2 (a.h.free z)⟩
theorem Nx.new {p : Addr} {o : HO} (s : Same G H) (hp : H p = Option.none) : Nx G H (upd G p o) (upd H p o) where
  g := Same.new (s.free hp)
  h := Same.new hp
  s := fun b u e => by
    by_cases hb : b = p
    · subst hb
      rw [upd_same] at e ⊢
      exact e
    · rw [upd_ne hb] at e ⊢
      exact s b u e
  n := fun b h1 h2 => by
    rw [upd_ne (fun z => h2 (by rw [z]; exact hp))]
    exact h1

/-! ### slots -/
structure Sl (K : PySem.W.Frag) (C : Addr) (G : Hp) (σ : L2.St) (γ : DSt) : Prop where
  len : σ.length = γ.length
  at_ : ∀ (i : Nat) (d : D), γ[i]? = some (some d) → ∃ v, σ[i]? = some (some v) ∧ At K C G d v
theorem Sl.mono {σ : L2.St} {γ : DSt} (h : Sl K C G σ γ) (e : Same G G') : Sl K C G' σ γ := ⟨h.len, fun i d q => by
  obtain ⟨v, h1, h2⟩ := h.at_ i d q
  exact ⟨v, h1, h2.mono e⟩⟩
theorem Sl.set {σ : L2.St} {γ : DSt} {j : Nat} {d : D} {v : V} (h : Sl K C G σ γ) (a : At K C G d v) : Sl K C G (σ.set j (some v)) (γ.set j (some d)) := ⟨by simp [h.len], fun i d' q => by
  rw [List.getElem?_set] at q ⊢
  by_cases hij : j = i
  · subst hij
    rw [if_pos rfl] at q ⊢
    by_cases hl : j < γ.length
    · rw [if_pos hl] at q
      rw [if_pos (by rw [h.len]; exact hl)]
      cases q
      exact ⟨v, rfl, a⟩
    · rw [if_neg hl] at q
      cases q
  · rw [if_neg hij] at q ⊢
    exact h.at_ i d' q⟩
theorem Sl.setN {σ : L2.St} {γ : DSt} {j : Nat} {x : Option V} (h : Sl K C G σ γ) : Sl K C G (σ.set j x) (γ.set j Option.none) := ⟨by simp [h.len], fun i d' q => by
  rw [List.getElem?_set] at q ⊢
  by_cases hij : j = i
  · subst hij
    rw [if_pos rfl] at q
    by_cases hl : j < γ.length
    · rw [if_pos hl] at q
      cases q
    · rw [if_neg hl] at q
      cases q
  · rw [if_neg hij] at q ⊢
    exact h.at_ i d' q⟩
def dwipe (γ : DSt) : List Nat → DSt
  | [] => γ
  | v :: vs => (dwipe γ vs).set v Option.none
theorem Sl.wipe {σ : L2.St} {γ : DSt} (h : Sl K C G σ γ) : ∀ vs : List Nat, Sl K C G (wipe σ vs) (dwipe γ vs)
  | [] => h
  | v :: vs => (h.wipe vs).setN
end
end Kp

/-! # The data layer: judgements, expressions -/
namespace Kp
open PySem PySem.Spec PyProof.Rows L2
/-! ### weaker readings, unions of readings -/
section
variable {X : Cx} {e : Expr}
theorem PE.weak {t t' : TE} (h : PE X e t) (w : ∀ σ H Q, t' σ H Q → t σ H Q) : PE X e t' := ⟨fun pins s σ H Q I q => h.run pins s σ H Q I (w σ H Q q)⟩
theorem PT.weak {t t' : TT} (h : PT X e t) (w : ∀ σ H Q, t' σ H Q → t σ H Q) : PT X e t' := ⟨fun pins s σ H Q I q => h.run pins s σ H Q I (w σ H Q q)⟩
theorem PW.weak {t t' : TT} (h : PW X e t) (w : ∀ σ H Q, t' σ H Q → t σ H Q) : PW X e t' := ⟨fun wh pins s σ H Q I q => h.run wh pins s σ H Q I (w σ H Q q)⟩
theorem PTs.weak {es : List Expr} {t t' : TT} (h : PTs X es t) (w : ∀ σ H Q, t' σ H Q → t σ H Q) : PTs X es t' := ⟨fun pins s σ H Q I q => h.run pins s σ H Q I (w σ H Q q)⟩
theorem PA.weak {es : List Expr} {t t' : TA} (h : PA X es t) (w : ∀ σ H Q, t' σ H Q → t σ H Q) : PA X es t' := ⟨fun pos pins s σ H Q I q => h.run pos pins s σ H Q I (w σ H Q q)⟩
theorem PS.weak {st : Stmt} {t t' : TS} (h : PS X st t) (w : ∀ D σ H, t' D σ H → t D σ H) : PS X st t' := ⟨fun pins s σ H D I q => h.run pins s σ H D I (w D σ H q)⟩
theorem PSs.weak {st : List Stmt} {t t' : TS} (h : PSs X st t) (w : ∀ D σ H, t' D σ H → t D σ H) : PSs X st t' := ⟨fun pins s σ H D I q => h.run pins s σ H D I (w D σ H q)⟩
theorem PI.weak {tg : Expr} {t t' : TI} (h : PI X tg e t) (w : ∀ σ H Q, t' σ H Q → t σ H Q) : PI X tg e t' := ⟨fun pins s σ H Q I q => h.run pins s σ H Q I (w σ H Q q)⟩
theorem PG.weak {tg : Expr} {t t' : TG} (h : PG X tg t) (w : ∀ v σ H Q, t' v σ H Q → t v σ H Q) : PG X tg t' := ⟨fun pins s σ H v u Q I r q => h.run pins s σ H v u Q I r (w v σ H Q q)⟩
theorem PO.weak {o : Option Expr} {t t' : TO} (h : PO X o t) (w : ∀ σ H Q, t' σ H Q → t σ H Q) : PO X o t' := ⟨fun pins s σ H Q I q => h.run pins s σ H Q I (w σ H Q q)⟩
theorem PE.all {ι : Sort _} {t : ι → TE} (h : ∀ i, PE X e (t i)) : PE X e (fun σ H Q => ∃ i, t i σ H Q) := ⟨fun pins s σ H Q I q => let ⟨i, q⟩ := q; (h i).run pins s σ H Q I q⟩
theorem PT.all {ι : Sort _} {t : ι → TT} (h : ∀ i, PT X e (t i)) : PT X e (fun σ H Q => ∃ i, t i σ H Q) := ⟨fun pins s σ H Q I q => let ⟨i, q⟩ := q; (h i).run pins s σ H Q I q⟩
theorem PW.all {ι : Sort _} {t : ι → TT} (h : ∀ i, PW X e (t i)) : PW X e (fun σ H Q => ∃ i, t i σ H Q) := ⟨fun wh pins s σ H Q I q => let ⟨i, q⟩ := q; (h i).run wh pins s σ H Q I q⟩
theorem PTs.all {ι : Sort _} {es : List Expr} {t : ι → TT} (h : ∀ i, PTs X es (t i)) : PTs X es (fun σ H Q => ∃ i, t i σ H Q) := ⟨fun pins s σ H Q I q => let ⟨i, q⟩ := q; (h i).run pins s σ H Q I q⟩
theorem PSs.all {ι : Sort _} {st : List Stmt} {t : ι → TS} (h : ∀ i, PSs X st (t i)) : PSs X st (fun D σ H => ∃ i, t i D σ H) := ⟨fun pins s σ H D I q => let ⟨i, q⟩ := q; (h i).run pins s σ H D I q⟩
theorem PS.all {ι : Sort _} {st : Stmt} {t : ι → TS} (h : ∀ i, PS X st (t i)) : PS X st (fun D σ H => ∃ i, t i D σ H) := ⟨fun pins s σ H D I q => let ⟨i, q⟩ := q; (h i).run pins s σ H D I q⟩
theorem PI.all {ι : Sort _} {tg : Expr} {t : ι → TI} (h : ∀ i, PI X tg e (t i)) : PI X tg e (fun σ H Q => ∃ i, t i σ H Q) := ⟨fun pins s σ H Q I q => let ⟨i, q⟩ := q; (h i).run pins s σ H Q I q⟩
end
/-! ### the readings of data -/
section
variable (K : PySem.W.Frag) (C : Addr)
def cE (γ : DSt) (d : D) : TE := fun σ H Q => ∃ G, Same G H ∧ Sl K C G σ γ ∧ ∀ v G' H', Nx G H G' H' → At K C G' d v → Q v H'
def cT (γ : DSt) (b : Bool) : TT := fun σ H Q => ∃ G, Same G H ∧ Sl K C G σ γ ∧ ∀ G' H', Nx G H G' H' → Q b H'
def cA (γ : DSt) (ds : List D) : TA := fun σ H Q => ∃ G, Same G H ∧ Sl K C G σ γ ∧ ∀ vs G' H', Nx G H G' H' → AtL K C G' ds vs → Q vs H'
def cO (γ : DSt) (o : Option Int) : TO := fun σ H Q => ∃ G, Same G H ∧ Sl K C G σ γ ∧ ∀ G' H', Nx G H G' H' → Q o H'
structure DE where
  nx : DSt → Prop
  rt : D → Prop
  bk : DSt → Prop := fun _ => False
  ct : DSt → Prop := fun _ => False
def cS (γ : DSt) (E : DE) : TS := fun Dn σ H => ∃ G, Same G H ∧ Sl K C G σ γ ∧
  (∀ σ' γ' G' H', Nx G H G' H' → Sl K C G' σ' γ' → E.nx γ' → Dn.nx σ' H') ∧ (∀ d v G' H', Nx G H G' H' → At K C G' d v → E.rt d → Dn.rt v H') ∧
  (∀ σ' γ' G' H', Nx G H G' H' → Sl K C G' σ' γ' → E.bk γ' → Dn.bk σ' H') ∧ (∀ σ' γ' G' H', Nx G H G' H' → Sl K C G' σ' γ' → E.ct γ' → Dn.ct σ' H')
/-- J walks over the data xs -/
structure WkD (J : It) (G : Hp) (xs : List D) : Prop where
  goes : ∀ i H, i < xs.length → Same G H → J.go i H
  stops : ∀ H, Same G H → J.stop xs.length H
  yields : ∀ i H v H' Gi, i < xs.length → Same G Gi → Same Gi H → J.yld i H v H' → ∃ d G', xs[i]? = some d ∧ Nx Gi H G' H' ∧ At K C G' d v
def cI (γ : DSt) (xs : List D) : TI := fun σ H R => ∃ G, Same G H ∧ Sl K C G σ γ ∧ ∀ J G' H', Nx G H G' H' → WkD K C J G' xs → R J H'
/-- a target that takes a datum to new slots -/
def cG (js : List Nat) (tgt : D → DSt → Option DSt) : TG := fun v σ H Q => ∃ G γ d γ', Same G H ∧ Sl K C G σ γ ∧ At K C G d v ∧ tgt d γ = some γ' ∧ ∀ σ', Sl K C G σ' γ' → wipe σ' js = wipe σ js → Q σ' H
end
def PD (C : Addr) (X : Cx) (e : Expr) (γ : DSt) (d : D) : Prop := PE X e (cE X.K C γ d)
def PTD (C : Addr) (X : Cx) (e : Expr) (γ : DSt) (b : Bool) : Prop := PT X e (cT X.K C γ b)
def PWD (C : Addr) (X : Cx) (e : Expr) (γ : DSt) (b : Bool) : Prop := PW X e (cT X.K C γ b)
def PTsD (C : Addr) (X : Cx) (es : List Expr) (γ : DSt) (b : Bool) : Prop := PTs X es (cT X.K C γ b)
def PAD (C : Addr) (X : Cx) (es : List Expr) (γ : DSt) (ds : List D) : Prop := PA X es (cA X.K C γ ds)
def POD (C : Addr) (X : Cx) (o : Option Expr) (γ : DSt) (i : Option Int) : Prop := PO X o (cO X.K C γ i)
def PSD (C : Addr) (X : Cx) (st : Stmt) (γ : DSt) (E : DE) : Prop := PS X st (cS X.K C γ E)
def PSsD (C : Addr) (X : Cx) (st : List Stmt) (γ : DSt) (E : DE) : Prop := PSs X st (cS X.K C γ E)
def PID (C : Addr) (X : Cx) (tg iter : Expr) (γ : DSt) (xs : List D) : Prop := PI X tg iter (cI X.K C γ xs)
def PGD (C : Addr) (X : Cx) (tg : Expr) (js : List Nat) (tgt : D → DSt → Option DSt) : Prop := PG X tg (cG X.K C js tgt)
/-! ### operators on data -/
def RD (K : PySem.W.Frag) (C : Addr) (r : R2) (x y z : D) : Prop := ∀ G H v u, Same G H → At K C G x v → At K C G y u → ∀ Q : VK, (∀ w' G' H', Nx G H G' H' → At K C G' z w' → Q w' H') → r v u H Q
def RCD (K : PySem.W.Frag) (C : Addr) (r : List V → Hp → VK → Prop) (xs : List D) (z : D) : Prop := ∀ G H vs, Same G H → AtL K C G xs vs → ∀ Q : VK, (∀ w' G' H', Nx G H G' H' → At K C G' z w' → Q w' H') → r vs H Q
section
variable {C : Addr} {X : Cx} {a b c e : Expr} {es : List Expr} {γ : DSt} {x y z d : D} {ds : List D} {pos : Pos}
theorem PD.of {e : Expr} (h : PD C X e γ d) (q : d = z) : PD C X e γ z := by rw [← q]; exact h
theorem PID.of {tg : Expr} {xs ys : List D} (h : PID C X tg e γ xs) (q : xs = ys) : PID C X tg e γ ys := by rw [← q]; exact h
theorem PTD.of {e : Expr} {p q : Bool} (h : PTD C X e γ p) (w : p = q) : PTD C X e γ q := by rw [← w]; exact h
/-- the name in slot i -/
theorem dv (i : Nat) {x : Str} {pos : Pos} (h : γ[i]? = some (some d) := by rfl) (hN : X.N[i]? = some x := by rfl) (hv : Vis X.env.scope x := by first | exact Or.inl rfl | exact Or.inr (Or.inl rfl) | exact Or.inr (Or.inr rfl)) (hd : (x == ("__debug__" : Str)) = false := by decide)
    (hcd : (x == ("__classdict__" : Str)) = false := by decide) : PD C X (.Name x pos) γ d := PE.weak (pe_var hN hv hd hcd) fun σ H Q ⟨G, s, sl, k⟩ => by
  obtain ⟨v, h1, h2⟩ := sl.at_ i d h
  exact ⟨v, h1, k v G H (Nx.refl s) h2⟩
theorem cE_c {K : PySem.W.Frag} {v : V} {d : D} (h : ∀ G, At K C G d v) : ∀ σ H Q, cE K C γ d σ H Q → tC v σ H Q := fun σ H Q ⟨G, s, sl, k⟩ => k v G H (Nx.refl s) (h G)
theorem d_int {i : Int} {j pos} : PD C X (.Constant (.int i) j pos) γ (.int i) := PE.weak pe_int (cE_c fun _ => At.int i)
theorem d_bl {i : Bool} {j pos} : PD C X (.Constant (.bool i) j pos) γ (.bl i) := PE.weak pe_bl (cE_c fun _ => At.bl i)
theorem d_non {j pos} : PD C X (.Constant .none j pos) γ .non := PE.weak pe_non (cE_c fun _ => At.non)
theorem d_str {i : Str} {j pos} : PD C X (.Constant (.str i) j pos) γ (.str i) := PE.weak pe_str (cE_c fun _ => At.str i)
/-- a module's constant -/
theorem d_glob {x : Str} {v : V} {u : Value} {pos : Pos} (hm : X.mg x = some u) (r : RelV v u) (h : ∀ G, At X.K C G d v) (hg : Gl X x := by rfl) (hd : (x == ("__debug__" : Str)) = false := by decide) : PD C X (.Name x pos) γ d := PE.weak (pe_glob hg hm r hd) (cE_c h)
theorem d_op {op : Operator} {r : R2} (ho : OpR X (binaryOp op) r) (ha : PD C X a γ x) (hb : PD C X b γ y) (hr : RD X.K C r x y z) : PD C X (.BinOp a op b pos) γ z :=
  PE.weak (pe_op ho ha hb) fun σ H Q ⟨G, s, sl, k⟩ => ⟨G, s, sl, fun v G1 H1 n1 a1 => ⟨G1, n1.s, sl.mono n1.g, fun u G2 H2 n2 a2 => hr G2 H2 v u n2.s (a1.mono n2.g) a2 Q fun w' G3 H3 n3 a3 => k w' G3 H3 ((n1.trans n2).trans n3) a3⟩⟩
theorem d_cmp {op : CmpOp} {r : R2} (ho : OpR X (compareOp op) r) (ha : PD C X a γ x) (hb : PD C X b γ y) (hr : RD X.K C r x y z) (hm : behindInMarks op b = false := by first | exact nomark _ | rfl) : PD C X (.Compare a [op] [b] pos) γ z :=
  PE.weak (pe_cmpR ho ha hb hm) fun σ H Q ⟨G, s, sl, k⟩ => ⟨G, s, sl, fun v G1 H1 n1 a1 => ⟨G1, n1.s, sl.mono n1.g, fun u G2 H2 n2 a2 => hr G2 H2 v u n2.s (a1.mono n2.g) a2 Q fun w' G3 H3 n3 a3 => k w' G3 H3 ((n1.trans n2).trans n3) a3⟩⟩
theorem t_cmp {op : CmpOp} {r : R2} {k : Bool} (ho : OpR X (compareOp op) r) (ha : PD C X a γ x) (hb : PD C X b γ y) (hr : RD X.K C r x y (.bl k)) (hm : behindInMarks op b = false := by first | exact nomark _ | rfl) : PTD C X (.Compare a [op] [b] pos) γ k :=
  PT.weak (pt_cmpR ho ha hb hm) fun σ H Q ⟨G, s, sl, q⟩ => ⟨G, s, sl, fun v G1 H1 n1 a1 => ⟨G1, n1.s, sl.mono n1.g, fun u G2 H2 n2 a2 => hr G2 H2 v u n2.s (a1.mono n2.g) a2 _ fun w' G3 H3 n3 a3 => ⟨k, a3.bl', q G3 H3 ((n1.trans n2).trans n3)⟩⟩⟩
theorem d_chain {op op' : CmpOp} {r r' : R2} {k k' : Bool} (ho : OpR X (compareOp op) r) (ho' : OpR X (compareOp op') r') (ha : PD C X a γ x) (hb : PD C X b γ y) (hc : PD C X c γ z) (hr : RD X.K C r x y (.bl k)) (hr' : k = true → RD X.K C r' y z (.bl k'))
    (hm : lastMarks [op, op'] [b, c] = false := by with_unfolding_all rfl) : PD C X (.Compare a [op, op'] [b, c] pos) γ (.bl (k && k')) :=
  PE.weak (pe_chain ho ho' ha hb hc hm) fun σ H Q ⟨G, s, sl, q⟩ => ⟨G, s, sl, fun v G1 H1 n1 a1 => ⟨G1, n1.s, sl.mono n1.g, fun u G2 H2 n2 a2 => hr G2 H2 v u n2.s (a1.mono n2.g) a2 _ fun w' G3 H3 n3 a3 => ⟨k, a3.bl', by
    cases k with
    | true =>
      refine iteT ⟨G3, n3.s, sl.mono ((n1.trans n2).trans n3).g, fun w2 G4 H4 n4 a4 => hr' rfl G4 H4 u w2 n4.s (a2.mono (n3.trans n4).g) a4 Q fun w3 G5 H5 n5 a5 => q w3 G5 H5 ((((n1.trans n2).trans n3).trans n4).trans n5) a5⟩
    | false => exact iteF (q _ G3 H3 ((n1.trans n2).trans n3) (At.bl _))⟩⟩⟩
/-! tests -/
theorem t_val {k : Bool} (h : PD C X e γ (.bl k)) (he : ∀ whole, isTrue e X.env whole = (do let v ← whole; standAt e.pos; holding [v] (truthy v)) := by intro _; rfl) : PTD C X e γ k :=
  PT.weak (pt_val h he) fun σ H Q ⟨G, s, sl, q⟩ => ⟨G, s, sl, fun v G1 H1 n1 a1 => ⟨k, a1.bl', q G1 H1 n1⟩⟩
theorem t_not {k : Bool} (h : PTD C X e γ k) : PTD C X (.UnaryOp .Not e pos) γ (!k) :=
  PT.weak (pt_not h) fun σ H Q ⟨G, s, sl, q⟩ => ⟨G, s, sl, fun G1 H1 n1 => q G1 H1 n1⟩
theorem t_of {k : Bool} (h : PWD C X e γ k) : PTD C X e γ k := PW.pt h
theorem w_and1 {k : Bool} (h : PTD C X a γ k) : PWD C X (.BoolOp .And [a] pos) γ k := pw_and1 h
theorem w_or1 {k : Bool} (h : PTD C X a γ k) : PWD C X (.BoolOp .Or [a] pos) γ k := pw_or1 h
theorem PW.guard {p : Prop} {t : TT} (h : p → PW X e t) : PW X e (fun σ H Q => p ∧ t σ H Q) := ⟨fun wh pins s σ H Q I q => (h q.1).run wh pins s σ H Q I q.2⟩
theorem PT.guard {p : Prop} {t : TT} (h : p → PT X e t) : PT X e (fun σ H Q => p ∧ t σ H Q) := ⟨fun pins s σ H Q I q => (h q.1).run pins s σ H Q I q.2⟩
theorem PE.guard {p : Prop} {t : TE} (h : p → PE X e t) : PE X e (fun σ H Q => p ∧ t σ H Q) := ⟨fun pins s σ H Q I q => (h q.1).run pins s σ H Q I q.2⟩
theorem PSs.guard {p : Prop} {st : List Stmt} {t : TS} (h : p → PSs X st t) : PSs X st (fun σ H Q => p ∧ t σ H Q) := ⟨fun pins s σ H Q I q => (h q.1).run pins s σ H Q I q.2⟩
theorem w_and {k l : Bool} (ha : PTD C X a γ k) (hb : k = true → PWD C X (.BoolOp .And (b :: es) pos) γ l) : PWD C X (.BoolOp .And (a :: b :: es) pos) γ (k && l) :=
  PW.weak (pw_and ha (PW.guard hb)) fun σ H Q ⟨G, s, sl, q⟩ => ⟨G, s, sl, fun G1 H1 n1 => by
    cases k with
    | true => exact iteT ⟨rfl, G1, n1.s, sl.mono n1.g, fun G2 H2 n2 => q G2 H2 (n1.trans n2)⟩
    | false => exact iteF (q G1 H1 n1)⟩
theorem w_or {k l : Bool} (ha : PTD C X a γ k) (hb : k = false → PWD C X (.BoolOp .Or (b :: es) pos) γ l) : PWD C X (.BoolOp .Or (a :: b :: es) pos) γ (k || l) :=
  PW.weak (pw_or ha (PW.guard hb)) fun σ H Q ⟨G, s, sl, q⟩ => ⟨G, s, sl, fun G1 H1 n1 => by
    cases k with
    | true => exact iteT (q G1 H1 n1)
    | false => exact iteF ⟨rfl, G1, n1.s, sl.mono n1.g, fun G2 H2 n2 => q G2 H2 (n1.trans n2)⟩⟩
/-! and, or, not, if as values -/
theorem d_one {op} (h : PD C X a γ d) : PD C X (.BoolOp op [a] pos) γ d := pe_one h
theorem d_and {k l : Bool} (ha : PD C X a γ (.bl k)) (hb : k = true → PD C X (.BoolOp .And (b :: es) pos) γ (.bl l)) : PD C X (.BoolOp .And (a :: b :: es) pos) γ (.bl (k && l)) :=
  PE.weak (pe_and ha (PE.guard hb)) fun σ H Q ⟨G, s, sl, q⟩ => ⟨G, s, sl, fun v G1 H1 n1 a1 => ⟨k, a1.bl', by
    cases k with
    | true => exact iteT ⟨rfl, G1, n1.s, sl.mono n1.g, fun v2 G2 H2 n2 a2 => q v2 G2 H2 (n1.trans n2) a2⟩
    | false => exact iteF (q _ G1 H1 n1 (At.bl _))⟩⟩
theorem d_or {k l : Bool} (ha : PD C X a γ (.bl k)) (hb : k = false → PD C X (.BoolOp .Or (b :: es) pos) γ (.bl l)) : PD C X (.BoolOp .Or (a :: b :: es) pos) γ (.bl (k || l)) :=
  PE.weak (pe_or ha (PE.guard hb)) fun σ H Q ⟨G, s, sl, q⟩ => ⟨G, s, sl, fun v G1 H1 n1 a1 => ⟨k, a1.bl', by
    cases k with
    | true => exact iteT (q _ G1 H1 n1 (At.bl _))
    | false => exact iteF ⟨rfl, G1, n1.s, sl.mono n1.g, fun v2 G2 H2 n2 a2 => q v2 G2 H2 (n1.trans n2) a2⟩⟩⟩
theorem d_not {k : Bool} (ha : PD C X a γ (.bl k)) : PD C X (.UnaryOp .Not a pos) γ (.bl (!k)) :=
  PE.weak (pe_not ha) fun σ H Q ⟨G, s, sl, q⟩ => ⟨G, s, sl, fun v G1 H1 n1 a1 => ⟨k, a1.bl', q _ G1 H1 n1 (At.bl _)⟩⟩
theorem d_if {k : Bool} (hc : PTD C X c γ k) (h1 : k = true → PD C X a γ d) (h2 : k = false → PD C X b γ d) : PD C X (.IfExp c a b pos) γ d :=
  PE.weak (pe_ifExp hc (PE.guard h1) (PE.guard h2)) fun σ H Q ⟨G, s, sl, q⟩ => ⟨G, s, sl, fun G1 H1 n1 => by
    cases k with
    | true => exact iteT ⟨rfl, G1, n1.s, sl.mono n1.g, fun v2 G2 H2 n2 a2 => q v2 G2 H2 (n1.trans n2) a2⟩
    | false => exact iteF ⟨rfl, G1, n1.s, sl.mono n1.g, fun v2 G2 H2 n2 a2 => q v2 G2 H2 (n1.trans n2) a2⟩⟩
/-! arguments, displays -/
theorem a_nil : PAD C X [] γ [] := PA.weak pa_nil fun σ H Q ⟨G, s, sl, k⟩ => k [] G H (Nx.refl s) .nil
theorem a_cons (h : PD C X e γ d) (r : PAD C X es γ ds) (he : starEach (e :: es) X.env = (false, eval e X.env) :: starEach es X.env := by rfl) : PAD C X (e :: es) γ (d :: ds) :=
  PA.weak (pa_cons h r he) fun σ H Q ⟨G, s, sl, k⟩ => ⟨G, s, sl, fun v G1 H1 n1 a1 => ⟨G1, n1.s, sl.mono n1.g, fun vs G2 H2 n2 a2 => k (v :: vs) G2 H2 (n1.trans n2) (.cons (a1.mono n2.g) a2)⟩⟩
theorem d_tup {x1} (h : PAD C X es γ ds) (hl : ds.length ≤ 1000) : PD C X (.Tuple es x1 pos) γ (.tup ds) :=
  PE.weak (pe_tup h) fun σ H Q ⟨G, s, sl, k⟩ => ⟨G, s, sl, fun vs G1 H1 n1 a1 => ⟨by rw [a1.len]; exact Nat.le_of_lt (small1000 hl), fun p hp => k _ _ _ (n1.trans (Nx.new n1.s hp)) (At.tup (.inl (.inl upd_same)) (a1.mono (Same.new (n1.s.free hp))))⟩⟩
theorem d_lst (h : PAD C X es γ ds) (hl : ds.length ≤ 1000) : PD C X (.List es pos) γ (.lst ds) :=
  PE.weak (pe_lst h) fun σ H Q ⟨G, s, sl, k⟩ => ⟨G, s, sl, fun vs G1 H1 n1 a1 => ⟨by rw [a1.len]; exact Nat.le_of_lt (small1000 hl), fun p hp => k _ _ _ (n1.trans (Nx.new n1.s hp)) (At.lst upd_same (a1.mono (Same.new (n1.s.free hp))))⟩⟩
/-! calls of built-ins -/
theorem d_callB {id : String} {r : List V → Hp → VK → Prop} {x : Str} {p : Pos} (hc : CallR X (.builtin id) r) (hm : X.mg x = Option.none) (ha : PAD C X (e :: es) γ ds) (hr : RCD X.K C r ds d) (hv : bootBuiltins x = some (.builtin id) := by decide +kernel) (hg : Gl X x := by rfl)
    (hn : x ≠ "__name__" := by decide) (hdb : (x == ("__debug__" : Str)) = false := by decide)
    (he : starEach (e :: es) X.env = (false, eval e X.env) :: starEach es X.env := by rfl) (hpl : (backTo pos (starEach es X.env)).any (·.1) = false := by rfl) : PD C X (.Call (.Name x p) (e :: es) [] pos) γ d :=
  PE.weak (pe_callB hc hg hm hv ha hn hdb he hpl) fun σ H Q ⟨G, s, sl, k⟩ => ⟨G, s, sl, fun vs G1 H1 n1 a1 => hr G1 H1 vs n1.s a1 Q fun w' G2 H2 n2 a2 => k w' G2 H2 (n1.trans n2) a2⟩
theorem d_callTy {T : String} {r : List V → Hp → VK → Prop} {x : Str} {p : Pos} (hc : CallR X (.type T) r) (hm : X.mg x = Option.none) (ha : PAD C X (e :: es) γ ds) (hr : RCD X.K C r ds d) (hv : bootBuiltins x = some (.type T) := by decide +kernel) (hg : Gl X x := by rfl)
    (hn : x ≠ "__name__" := by decide) (hdb : (x == ("__debug__" : Str)) = false := by decide)
    (he : starEach (e :: es) X.env = (false, eval e X.env) :: starEach es X.env := by rfl) (hpl : (backTo pos (starEach es X.env)).any (·.1) = false := by rfl) : PD C X (.Call (.Name x p) (e :: es) [] pos) γ d :=
  PE.weak (pe_callTy hc hg hm hv ha hn hdb he hpl) fun σ H Q ⟨G, s, sl, k⟩ => ⟨G, s, sl, fun vs G1 H1 n1 a1 => hr G1 H1 vs n1.s a1 Q fun w' G2 H2 n2 a2 => k w' G2 H2 (n1.trans n2) a2⟩
/-! subscripts, slices -/
theorem d_ix {r : R2} (hr : IxR X r) (ha : PD C X a γ x) (hb : PD C X b γ y) (h : RD X.K C r x y z) (hs : PlainIx b := by exact fun _ _ => rfl) : PD C X (.Subscript a b pos) γ z :=
  PE.weak (pe_ix hr ha hb hs) fun σ H Q ⟨G, s, sl, k⟩ => ⟨G, s, sl, fun v G1 H1 n1 a1 => ⟨G1, n1.s, sl.mono n1.g, fun u G2 H2 n2 a2 => h G2 H2 v u n2.s (a1.mono n2.g) a2 Q fun w' G3 H3 n3 a3 => k w' G3 H3 ((n1.trans n2).trans n3) a3⟩⟩
theorem o_none : POD C X Option.none γ Option.none := PO.weak po_none fun σ H Q ⟨G, s, sl, k⟩ => k G H (Nx.refl s)
theorem o_some {i : Int} (h : PD C X e γ (.int i)) : POD C X (some e) γ (some i) := PO.weak (po_some h) fun σ H Q ⟨G, s, sl, k⟩ => ⟨G, s, sl, fun v G1 H1 n1 a1 => ⟨i, a1.int', k G1 H1 n1⟩⟩
def RSD (K : PySem.W.Frag) (C : Addr) (r : V → Option Int → Option Int → Hp → VK → Prop) (x : D) (lo hi : Option Int) (z : D) : Prop := ∀ G H v, Same G H → At K C G x v → ∀ Q : VK, (∀ w' G' H', Nx G H G' H' → At K C G' z w' → Q w' H') → r v lo hi H Q
theorem d_sl {r : V → Option Int → Option Int → Hp → VK → Prop} {lo hi : Option Expr} {l h : Option Int} {p2 : Pos} (hr : SlR X r) (ha : PD C X a γ x) (hl : POD C X lo γ l) (hh : POD C X hi γ h) (q : RSD X.K C r x l h z) : PD C X (.Subscript a (.Slice lo hi Option.none p2) pos) γ z :=
  PE.weak (pe_slice hr ha hl hh) fun σ H Q ⟨G, s, sl, k⟩ => ⟨G, s, sl, fun v G1 H1 n1 a1 => ⟨G1, n1.s, sl.mono n1.g, fun G2 H2 n2 => ⟨G2, n2.s, sl.mono (n1.trans n2).g, fun G3 H3 n3 => q G3 H3 v n3.s (a1.mono (n2.trans n3).g) Q fun w' G4 H4 n4 a4 => k w' G4 H4 (((n1.trans n2).trans n3).trans n4) a4⟩⟩⟩
/-! methods of built-in types -/
theorem d_bm {T name id : String} {r : V → List V → Hp → VK → Prop} {o : Expr} {apos cpos : Pos} (pa : PlainAttrs T) (slot : Slot T name id) (hty : typeOf (.builtin id) = pure (.type "method_descriptor")) (hm : MtR X id r) (ho : PD C X o γ x) (ha : PAD C X (e :: es) γ ds)
    (hr : ∀ G H v us, Same G H → At X.K C G x v → AtL X.K C G ds us → ∀ Q : VK, (∀ w' G' H', Nx G H G' H' → At X.K C G' z w' → Q w' H') → r v us H Q) (ht : ∀ G H v, Same G H → At X.K C G x v → tyV X.K T v H)
    (hbase : attributeBase o name X.env (eval o X.env) = eval o X.env := by rfl) (hfew : ((backTo cpos (starEach (e :: es) X.env)).all (fun x => !x.1) && (backToKw cpos (keywordEach [] X.env)).all (fun x => x.1.isSome)
      && decide ((e :: es).length + ([] : List Keyword).length + (if ([] : List Keyword).isEmpty then 0 else 1) < 30)) = true := by rfl) (hline : (apos.endLine == cpos.line) = true := by rfl) (he : starEach (e :: es) X.env = (false, eval e X.env) :: starEach es X.env := by rfl) (hpl : (backTo cpos (starEach es X.env)).any (·.1) = false := by rfl) :
    PD C X (.Call (.Attribute o name apos) (e :: es) [] cpos) γ z :=
  PE.weak (pe_bm pa slot hty hm ho ha hbase hfew hline he hpl) fun σ H Q ⟨G, s, sl, k⟩ => ⟨G, s, sl, fun v G1 H1 n1 a1 => ⟨ht G1 H1 v n1.s a1, G1, n1.s, sl.mono n1.g, fun us G2 H2 n2 a2 => hr G2 H2 v us n2.s (a1.mono n2.g) a2 Q fun w' G3 H3 n3 a3 => k w' G3 H3 ((n1.trans n2).trans n3) a3⟩⟩
end
end Kp

/-! # The data layer: operators, walks, loops, comprehensions, statements, defs -/
namespace Kp
open PySem PySem.Spec PyProof.Rows L2
section
variable {K : PySem.W.Frag} {C : Addr} {x y z d : D}
/-! ### operators -/
theorem rd_I0 {g : Int → Int → V} {i j : Int} (h : ∀ G, At K C G z (g i j)) : RD K C (rI0 g) (.int i) (.int j) z := fun G H v u s a1 a2 Q k => ⟨i, j, a1.int', a2.int', k _ G H (Nx.refl s) (h G)⟩
theorem rd_I {c : Int → Int → Prop} {g : Int → Int → V} {i j : Int} (hc : c i j) (h : ∀ G, At K C G z (g i j)) : RD K C (rI c g) (.int i) (.int j) z := fun G H v u s a1 a2 Q k => ⟨i, j, a1.int', a2.int', hc, k _ G H (Nx.refl s) (h G)⟩
theorem rd_add {i j : Int} : RD K C (rI0 fun i j => .int (i + j)) (.int i) (.int j) (.int (i + j)) := rd_I0 fun _ => At.int _
theorem rd_sub {i j : Int} : RD K C (rI0 fun i j => .int (i - j)) (.int i) (.int j) (.int (i - j)) := rd_I0 fun _ => At.int _
theorem rd_mul {i j : Int} (h : CMul i j) : RD K C (rI CMul fun i j => .int (i * j)) (.int i) (.int j) (.int (i * j)) := rd_I h fun _ => At.int _
theorem rd_fdiv {i j : Int} (h : CDiv i j) : RD K C (rI CDiv fun i j => .int (i / j)) (.int i) (.int j) (.int (i / j)) := rd_I h fun _ => At.int _
theorem rd_shl {i j : Int} (h : CPow i j) : RD K C (rI CPow fun i j => .int (i * 2 ^ j.toNat)) (.int i) (.int j) (.int (i * 2 ^ j.toNat)) := rd_I h fun _ => At.int _
theorem rd_lt {i j : Int} : RD K C (rI0 fun i j => .bl (decide (i < j))) (.int i) (.int j) (.bl (decide (i < j))) := rd_I0 fun _ => At.bl _
theorem rd_le {i j : Int} : RD K C (rI0 fun i j => .bl (decide (i ≤ j))) (.int i) (.int j) (.bl (decide (i ≤ j))) := rd_I0 fun _ => At.bl _
theorem rd_gt {i j : Int} : RD K C (rI0 fun i j => .bl (decide (j < i))) (.int i) (.int j) (.bl (decide (j < i))) := rd_I0 fun _ => At.bl _
theorem rd_ge {i j : Int} : RD K C (rI0 fun i j => .bl (decide (j ≤ i))) (.int i) (.int j) (.bl (decide (j ≤ i))) := rd_I0 fun _ => At.bl _
theorem rd_eqI {i j : Int} : RD K C rEq (.int i) (.int j) (.bl (decide (i = j))) := fun G H v u s a1 a2 Q k => by
  rw [a1.int', a2.int']
  refine ⟨rfl, ?_⟩
  have e : decide (V.int i = V.int j) = decide (i = j) := by simp
  rw [e]
  exact k _ G H (Nx.refl s) (At.bl _)
theorem rd_neI {i j : Int} : RD K C rNe (.int i) (.int j) (.bl (!decide (i = j))) := fun G H v u s a1 a2 Q k => by
  rw [a1.int', a2.int']
  refine ⟨rfl, ?_⟩
  have e : decide (V.int i = V.int j) = decide (i = j) := by simp
  rw [e]
  exact k _ G H (Nx.refl s) (At.bl _)
theorem rd_eqS {i j : Str} : RD K C rEq (.str i) (.str j) (.bl (decide (i = j))) := fun G H v u s a1 a2 Q k => by
  rw [a1.str', a2.str']
  refine ⟨rfl, ?_⟩
  have e : decide (V.str i = V.str j) = decide (i = j) := by simp
  rw [e]
  exact k _ G H (Nx.refl s) (At.bl _)
theorem rd_neS {i j : Str} : RD K C rNe (.str i) (.str j) (.bl (!decide (i = j))) := fun G H v u s a1 a2 Q k => by
  rw [a1.str', a2.str']
  refine ⟨rfl, ?_⟩
  have e : decide (V.str i = V.str j) = decide (i = j) := by simp
  rw [e]
  exact k _ G H (Nx.refl s) (At.bl _)
theorem rd_eqB {i j : Bool} : RD K C rEq (.bl i) (.bl j) (.bl (decide (i = j))) := fun G H v u s a1 a2 Q k => by
  rw [a1.bl', a2.bl']
  refine ⟨rfl, ?_⟩
  have e : decide (V.bl i = V.bl j) = decide (i = j) := by simp
  rw [e]
  exact k _ G H (Nx.refl s) (At.bl _)
theorem rd_addS {i j : Str} (h : i.length + j.length ≤ 10000) : RD K C (fun x y H Q => ∃ i j, x = .str i ∧ y = .str j ∧ i.length + j.length ≤ sizeLine ∧ Q (.str (i ++ j)) H) (.str i) (.str j) (.str (i ++ j)) :=
  fun G H v u s a1 a2 Q k => ⟨i, j, a1.str', a2.str', Nat.le_trans h (by decide), k _ G H (Nx.refl s) (At.str _)⟩
theorem rd_cat {xs ys : List D} (h : xs.length + ys.length ≤ 10000) : RD K C rCat (.lst xs) (.lst ys) (.lst (xs ++ ys)) := fun G H v u s a1 a2 Q k => by
  obtain ⟨a, vs, rfl, g1, r1⟩ := a1.lst'
  obtain ⟨b, us, rfl, g2, r2⟩ := a2.lst'
  refine ⟨a, b, vs, us, rfl, rfl, s _ _ g1, s _ _ g2, by rw [r1.len, r2.len]; exact Nat.le_trans h (by decide), fun p hp => k _ _ _ (Nx.new s hp) (At.lst upd_same ((r1.append r2).mono (Same.new (s.free hp))))⟩
theorem rd_rep {xs : List D} {n : Int} (h0 : 0 ≤ n) (h1 : n ≤ 1000) (hl : xs.length ≤ 8) : RD K C rRep (.lst xs) (.int n) (.lst (List.replicate n.toNat xs).flatten) := fun G H v u s a1 a2 Q k => by
  obtain ⟨a, vs, rfl, g1, r1⟩ := a1.lst'
  rw [a2.int']
  have hle : vs.length * n.toNat ≤ sizeLine := by
    rw [r1.len]
    have h2 : xs.length * n.toNat ≤ 8 * 1000 := Nat.mul_le_mul hl (by omega)
    exact Nat.le_trans h2 (by decide)
  refine ⟨a, n, vs, rfl, rfl, s _ _ g1, by omega, by omega, hle, fun p hp => k _ _ _ (Nx.new s hp) (At.lst upd_same ?_)⟩
  have e : AtL K C G (List.replicate n.toNat xs).flatten (List.replicate n.toNat vs).flatten := by
    generalize n.toNat = m
    induction m with
    | zero => exact .nil
    | succ m ih =>
      simp only [List.replicate_succ, List.flatten_cons]
      exact r1.append ih
  exact e.mono (Same.new (s.free hp))
/-- in, not in a list or a tuple of flat data -/
def inD (x : D) (xs : List D) : Bool := inV (vOf x) (xs.map vOf)
theorem all_flat {xs : List D} (h : xs.all flatD = true) : (xs.map vOf).all flatV = true := by
  rw [List.all_eq_true] at h ⊢
  intro v hv
  obtain ⟨d, hd, rfl⟩ := List.mem_map.mp hv
  exact flatV_vOf (h d hd)
theorem rd_in {xs : List D} (neg : Bool) (fx : flatD x = true) (fs : xs.all flatD = true) (hy : y = .lst xs ∨ y = .tup xs) : RD K C (rIn K neg) x y (.bl (if neg then !inD x xs else inD x xs)) := fun G H v u s a1 a2 Q k => by
  rw [a1.flat fx]
  rcases hy with rfl | rfl
  · obtain ⟨a, vs, rfl, g1, r1⟩ := a2.lst'
    have e := r1.flat fs
    subst e
    exact ⟨a, _, rfl, .inl (SqL.of (s _ _ g1)), flatV_vOf fx, all_flat fs, k _ G H (Nx.refl s) (At.bl _)⟩
  · obtain ⟨a, vs, rfl, g1, r1⟩ := a2.tup'
    have e := r1.flat fs
    subst e
    exact ⟨a, _, rfl, .inr (same_t s g1), flatV_vOf fx, all_flat fs, k _ G H (Nx.refl s) (At.bl _)⟩
theorem rd_isN {b : Bool} (h : ∀ G v, At K C G x v → decide (v = V.non) = b) : RD K C (fun x y H Q => y = .non ∧ Q (.bl (decide (x = .non))) H) x .non (.bl b) := fun G H v u s a1 a2 Q k => ⟨a2.non', by rw [h G v a1]; exact k _ G H (Nx.refl s) (At.bl _)⟩
theorem rd_notN {b : Bool} (h : ∀ G v, At K C G x v → decide (v = V.non) = !b) : RD K C (fun x y H Q => y = .non ∧ Q (.bl (!decide (x = .non))) H) x .non (.bl b) := fun G H v u s a1 a2 Q k => ⟨a2.non', by rw [h G v a1, Bool.not_not]; exact k _ G H (Nx.refl s) (At.bl _)⟩
/-! ### == of data at any depth -/
mutual
def pd : D → PyData
  | .non => .none | .bl b => .bool b | .int i => .int i | .str s => .str s | .lst xs => .list (pdL xs) | .tup xs => .tuple (pdL xs) | .dic _ => .none | .lang _ => .none | .raw _ => .none | .exc _ _ _ => .none | .sq _ => .none
def pdL : List D → List PyData
  | [] => []
  | d :: ds => pd d :: pdL ds
end
mutual
def isPd : D → Bool
  | .non => true | .bl _ => true | .int _ => true | .str _ => true | .lst xs => isPdL xs | .tup xs => isPdL xs | .dic _ => false | .lang _ => false | .raw _ => false | .exc _ _ _ => false | .sq _ => false
def isPdL : List D → Bool
  | [] => true
  | d :: ds => isPd d && isPdL ds
end
mutual
theorem At.dp {G H : Hp} (s : Same G H) : ∀ {d : D} {v : V}, isPd d = true → At K C G d v → Dp K H v (pd d)
  | .non, v, _, h => by rw [h.non']; exact Dp.non
  | .bl b, v, _, h => by rw [h.bl']; exact Dp.bl b
  | .int i, v, _, h => by rw [h.int']; exact Dp.int i
  | .str i, v, _, h => by rw [h.str']; exact Dp.str i
  | .lst xs, v, p, h => by
    obtain ⟨a, vs, rfl, g, r⟩ := h.lst'
    rw [pd]
    rw [isPd] at p
    exact Dp.lst (SqL.of (s _ _ g)) (AtL.dp s p r)
  | .tup xs, v, p, h => by
    obtain ⟨a, vs, rfl, g, r⟩ := h.tup'
    rw [pd]
    rw [isPd] at p
    exact Dp.tup (same_t s g) (AtL.dp s p r)
  | .dic _, _, p, _ => by rw [isPd] at p; cases p
  | .lang _, _, p, _ => by rw [isPd] at p; cases p
  | .raw _, _, p, _ => by rw [isPd] at p; cases p
  | .exc _ _ _, _, p, _ => by rw [isPd] at p; cases p
  | .sq _, _, p, _ => by rw [isPd] at p; cases p
theorem AtL.dp {G H : Hp} (s : Same G H) : ∀ {ds : List D} {vs : List V}, isPdL ds = true → AtL K C G ds vs → DpAll K H vs (pdL ds)
  | [], vs, _, h => by rw [h.inv0, pdL]; exact DpAll.nil
  | d :: ds, vs, p, h => by
    obtain ⟨v, r, rfl, h2, h3⟩ := h.inv
    rw [isPdL, Bool.and_eq_true] at p
    rw [pdL]
    exact DpAll.cons (At.dp s p.1 h2) (AtL.dp s p.2 h3)
end
theorem rd_eqD (hx : isPd x = true) (hy : isPd y = true) (sx : SeqAt.shaped (pd x) = true) (sy : SeqAt.shaped (pd y) = true) : RD K C (rEqD K) x y (.bl (PyData.eqv (pd x) (pd y))) := fun G H v u s a1 a2 Q k =>
  ⟨pd x, pd y, a1.dp s hx, a2.dp s hy, sx, sy, k _ G H (Nx.refl s) (At.bl _)⟩
theorem rd_neD (hx : isPd x = true) (hy : isPd y = true) (sx : SeqAt.shaped (pd x) = true) (sy : SeqAt.shaped (pd y) = true) : RD K C (rNeD K) x y (.bl (!PyData.eqv (pd x) (pd y))) := fun G H v u s a1 a2 Q k =>
  ⟨pd x, pd y, a1.dp s hx, a2.dp s hy, sx, sy, k _ G H (Nx.refl s) (At.bl _)⟩
/-! ### subscripts, slices -/
theorem rd_ixL {xs : List D} {i : Nat} (h : xs[i]? = some z) : RD K C (rIxL K) (.lst xs) (.int (i : Int)) z := fun G H v u s a1 a2 Q k => by
  obtain ⟨a, vs, rfl, g, r⟩ := a1.lst'
  obtain ⟨w', e1, e2⟩ := r.get h
  exact ⟨a, vs, i, w', rfl, a2.int', SqL.of (s _ _ g), atI_nat e1, k _ G H (Nx.refl s) e2⟩
theorem rd_ixT {xs : List D} {i : Nat} (h : xs[i]? = some z) : RD K C (rIxT K) (.tup xs) (.int (i : Int)) z := fun G H v u s a1 a2 Q k => by
  obtain ⟨a, vs, rfl, g, r⟩ := a1.tup'
  obtain ⟨w', e1, e2⟩ := r.get h
  exact ⟨a, vs, i, w', rfl, a2.int', same_t s g, atI_nat e1, k _ G H (Nx.refl s) e2⟩
theorem rd_ixS {t : Str} {i c : Nat} (hl : t.length ≤ 10000) (h : t.cps.toList[i]? = some c) : RD K C rIxS (.str t) (.int (i : Int)) (.str ⟨#[c]⟩) := fun G H v u s a1 a2 Q k =>
  ⟨t, i, c, a1.str', a2.int', Nat.le_trans hl (by decide), atI_nat h, k _ G H (Nx.refl s) (At.str _)⟩
def cutD (xs : List D) (lo hi : Option Int) : List D := (xs.drop (HT.sIx xs.length 0 lo)).take (HT.sIx xs.length xs.length hi - HT.sIx xs.length 0 lo)
theorem AtL.cut {G : Hp} {xs : List D} {vs : List V} (r : AtL K C G xs vs) (lo hi : Option Int) : AtL K C G (cutD xs lo hi) (cutV vs lo hi) := by
  unfold cutD cutV
  rw [r.len]
  exact (r.drop _).take _
theorem rs_list {xs : List D} {lo hi : Option Int} : RSD K C (rSlL K) (.lst xs) lo hi (.lst (cutD xs lo hi)) := fun G H v s a1 Q k => by
  obtain ⟨a, vs, rfl, g, r⟩ := a1.lst'
  exact ⟨a, vs, rfl, SqL.of (s _ _ g), fun p hp => k _ _ _ (Nx.new s hp) (At.lst upd_same ((r.cut lo hi).mono (Same.new (s.free hp))))⟩
theorem rs_str {t : Str} {lo hi : Option Int} (hl : t.length ≤ 10000) : RSD K C rSlS (.str t) lo hi (.str (cutS t lo hi)) := fun G H v s a1 Q k => ⟨t, a1.str', Nat.le_trans hl (by decide), k _ G H (Nx.refl s) (At.str _)⟩
theorem rs_tup {xs : List D} {lo hi : Option Int} (hw : ¬ (HT.sIx xs.length 0 lo = 0 ∧ HT.sIx xs.length xs.length hi = xs.length)) : RSD K C (rSlT K) (.tup xs) lo hi (.tup (cutD xs lo hi)) := fun G H v s a1 Q k => by
  obtain ⟨a, vs, rfl, g, r⟩ := a1.tup'
  exact ⟨a, vs, rfl, same_t s g, by rw [r.len]; exact hw, fun p hp => k _ _ _ (Nx.new s hp) (At.tup (.inl (.inl upd_same)) ((r.cut lo hi).mono (Same.new (s.free hp))))⟩
/-! ### built-in calls -/
theorem rc_lenL {xs : List D} : RCD K C (fun xs H Q => ∃ x n, xs = [x] ∧ LenV K x H n ∧ Q (.int n) H) [.lst xs] (.int (xs.length : Int)) := fun G H vs s a Q k => by
  obtain ⟨v, r, rfl, h1, h2⟩ := a.inv
  rw [h2.inv0]
  obtain ⟨p, us, rfl, g, r1⟩ := h1.lst'
  exact ⟨_, xs.length, rfl, .inl ⟨us, SqL.of (s _ _ g), r1.len.symm⟩, k _ G H (Nx.refl s) (At.int _)⟩
theorem rc_lenT {xs : List D} : RCD K C (fun xs H Q => ∃ x n, xs = [x] ∧ LenV K x H n ∧ Q (.int n) H) [.tup xs] (.int (xs.length : Int)) := fun G H vs s a Q k => by
  obtain ⟨v, r, rfl, h1, h2⟩ := a.inv
  rw [h2.inv0]
  obtain ⟨p, us, rfl, g, r1⟩ := h1.tup'
  exact ⟨_, xs.length, rfl, .inr ⟨us, same_t s g, r1.len.symm⟩, k _ G H (Nx.refl s) (At.int _)⟩
theorem rc_lenS {t : Str} (hl : t.length ≤ 10000) : RCD K C (fun xs H Q => ∃ x n, xs = [x] ∧ LenV K x H n ∧ Q (.int n) H) [.str t] (.int (t.length : Int)) := fun G H vs s a Q k => by
  obtain ⟨v, r, rfl, h1, h2⟩ := a.inv
  rw [h2.inv0, h1.str']
  exact ⟨_, t.length, rfl, ⟨Nat.le_trans hl (by decide), rfl⟩, k _ G H (Nx.refl s) (At.int _)⟩
theorem rc_sum {ns : List Int} : RCD K C (rSum K) [.lst (ns.map .int)] (.int ns.sum) := fun G H vs s a Q k => by
  obtain ⟨v, r, rfl, h1, h2⟩ := a.inv
  rw [h2.inv0]
  obtain ⟨p, us, rfl, g, r1⟩ := h1.lst'
  have e := r1.ints
  subst e
  exact ⟨p, ns, rfl, SqL.of (s _ _ g), k _ G H (Nx.refl s) (At.int _)⟩
theorem rc_max {ns : List Int} {m : Int} (hp : 0 < ns.length) (hm : ∀ a, a ∈ ns → (∀ b, b ∈ ns → b ≤ a) → a = m) : RCD K C (rMax K) [.lst (ns.map .int)] (.int m) := fun G H vs s a Q k => by
  obtain ⟨v, r, rfl, h1, h2⟩ := a.inv
  rw [h2.inv0]
  obtain ⟨p, us, rfl, g, r1⟩ := h1.lst'
  have e := r1.ints
  subst e
  exact ⟨p, ns, rfl, SqL.of (s _ _ g), hp, fun a ha hb => by rw [hm a ha hb]; exact k _ G H (Nx.refl s) (At.int _)⟩
end
end Kp

/-! # words, kinds, forms: plain -/
namespace Kp
open PySem PySem.Spec PyProof.Rows L2
/-! ### words as texts -/
def cB (b : Bool) : Nat := if b then 49 else 48
def sW (w : List Bool) : Str := ⟨(w.map cB).toArray⟩
theorem sW_cps (w : List Bool) : (sW w).cps.toList = w.map cB := rfl
theorem sW_len (w : List Bool) : (sW w).length = w.length := by
  show (w.map cB).toArray.size = w.length
  simp
theorem sW_app (u v : List Bool) : sW u ++ sW v = sW (u ++ v) := by
  show (⟨(u.map cB).toArray ++ (v.map cB).toArray⟩ : Str) = _
  unfold sW
  simp
theorem cB_inj {a b : Bool} (h : cB a = cB b) : a = b := by
  cases a <;> cases b <;> first | rfl | (exact absurd h (by decide))
theorem map_cB_inj : ∀ {u v : List Bool}, u.map cB = v.map cB → u = v
  | [], [], _ => rfl
  | [], _ :: _, h => by simp at h
  | _ :: _, [], h => by simp at h
  | a :: u, b :: v, h => by
    simp only [List.map_cons, List.cons.injEq] at h
    rw [cB_inj h.1, map_cB_inj h.2]
theorem sW_inj {u v : List Bool} (h : sW u = sW v) : u = v := by
  have e : (sW u).cps.toList = (sW v).cps.toList := by rw [h]
  rw [sW_cps, sW_cps] at e
  exact map_cB_inj e
theorem sW_eq {u v : List Bool} : decide (sW u = sW v) = decide (u = v) := by
  by_cases h : u = v
  · subst h
    simp
  · have z : ¬ sW u = sW v := fun e => h (sW_inj e)
    simp [h, z]
theorem sW_one (b : Bool) : (⟨#[cB b]⟩ : Str) = sW [b] := rfl
/-! ### sorted texts -/
theorem ltCps_irrefl : ∀ a : List Nat, ltCps a a = false
  | [] => rfl
  | x :: a => by simp [ltCps, ltCps_irrefl a]
theorem ltCps_asymm : ∀ {a b : List Nat}, ltCps a b = true → ltCps b a = false
  | [], [], h => by simp [ltCps] at h
  | [], _ :: _, _ => rfl
  | _ :: _, [], h => by simp [ltCps] at h
  | x :: a, y :: b, h => by
    simp only [ltCps, Bool.or_eq_true, Bool.and_eq_true, beq_iff_eq, decide_eq_true_eq] at h
    simp only [ltCps, Bool.or_eq_false_iff, Bool.and_eq_false_iff, beq_eq_false_iff_ne, decide_eq_false_iff_not]
    rcases h with h | ⟨e, h⟩
    · exact ⟨by omega, .inl (by omega)⟩
    · exact ⟨by omega, .inr (ltCps_asymm h)⟩
theorem ltCps_total : ∀ {a b : List Nat}, ltCps a b = false → ltCps b a = false → a = b
  | [], [], _, _ => rfl
  | [], _ :: _, h, _ => by simp [ltCps] at h
  | _ :: _, [], _, h => by simp [ltCps] at h
  | x :: a, y :: b, h1, h2 => by
    simp only [ltCps, Bool.or_eq_false_iff, Bool.and_eq_false_iff, beq_eq_false_iff_ne, decide_eq_false_iff_not] at h1 h2
    have e : x = y := by omega
    subst e
    rcases h1.2 with z | z
    · exact absurd rfl z
    · rcases h2.2 with z2 | z2
      · exact absurd rfl z2
      · rw [ltCps_total z z2]
theorem ltCps_trans : ∀ {a b c : List Nat}, ltCps a b = true → ltCps b c = true → ltCps a c = true
  | [], [], _, h, _ => by simp [ltCps] at h
  | [], _ :: _, [], _, h => by simp [ltCps] at h
  | [], _ :: _, _ :: _, _, _ => rfl
  | _ :: _, [], _, h, _ => by simp [ltCps] at h
  | _ :: _, _ :: _, [], _, h => by simp [ltCps] at h
  | x :: a, y :: b, z :: c, h1, h2 => by
    simp only [ltCps, Bool.or_eq_true, Bool.and_eq_true, beq_iff_eq, decide_eq_true_eq] at h1 h2 ⊢
    rcases h1 with h1 | ⟨e1, h1⟩ <;> rcases h2 with h2 | ⟨e2, h2⟩
    · exact .inl (by omega)
    · exact .inl (by omega)
    · exact .inl (by omega)
    · exact .inr ⟨by omega, ltCps_trans h1 h2⟩
theorem leS_trans {a b c : List Nat} (h1 : ltCps b a = false) (h2 : ltCps c b = false) : ltCps c a = false := by
  cases h : ltCps c a with
  | false => rfl
  | true =>
    cases h3 : ltCps a b with
    | true =>
      have := ltCps_trans h h3
      rw [h2] at this
      cases this
    | false =>
      have e := ltCps_total h3 h1
      subst e
      rw [h2] at h
      cases h
def leS (a b : Str) : Prop := ltCps b.cps.toList a.cps.toList = false
theorem rising_pair : ∀ {l : List Str} {p : Str}, risingS p l = true → (∀ x ∈ l, leS p x) ∧ l.Pairwise leS
  | [], _, _ => ⟨fun _ h => by simp at h, .nil⟩
  | x :: r, p, h => by
    simp only [risingS, Bool.and_eq_true, Bool.not_eq_true'] at h
    obtain ⟨h1, h2⟩ := rising_pair h.2
    refine ⟨fun y hy => ?_, List.pairwise_cons.mpr ⟨h1, h2⟩⟩
    rcases List.mem_cons.mp hy with e | hy
    · rw [e]
      exact h.1
    · exact leS_trans h.1 (h1 y hy)
theorem sorted_pair {l : List Str} (h : sortedS l = true) : l.Pairwise leS := by
  cases l with
  | nil => exact .nil
  | cons x r =>
    obtain ⟨h1, h2⟩ := rising_pair (p := x) (l := r) h
    exact List.pairwise_cons.mpr ⟨h1, h2⟩
theorem str_of_cps {a b : Str} (h : a.cps.toList = b.cps.toList) : a = b := by
  obtain ⟨a⟩ := a
  obtain ⟨b⟩ := b
  have e : a = b := by
    apply Array.ext'
    exact h
  rw [e]
theorem sorted_one {zs ys l : List Str} (h1 : zs.Perm l) (h2 : sortedS zs = true) (h3 : ys.Perm l) (h4 : sortedS ys = true) : zs = ys :=
  List.Perm.eq_of_pairwise (le := leS) (fun a b _ _ x y => str_of_cps (ltCps_total y x)) (sorted_pair h2) (sorted_pair h4) (h1.trans h3.symm)
def ltB : List Bool → List Bool → Bool
  | [], [] => false
  | [], _ :: _ => true
  | _ :: _, [] => false
  | a :: r, b :: t => (!a && b) || (a == b && ltB r t)
theorem ltB_eq : ∀ (u v : List Bool), ltCps (u.map cB) (v.map cB) = ltB u v
  | [], [] => rfl
  | [], _ :: _ => rfl
  | _ :: _, [] => rfl
  | a :: u, b :: v => by
    simp only [List.map_cons, ltCps, ltB, ltB_eq u v]
    cases a <;> cases b <;> simp [cB]
def insB (x : List Bool) : List (List Bool) → List (List Bool)
  | [] => [x]
  | y :: r => if ltB y x then y :: insB x r else x :: y :: r
def isB : List (List Bool) → List (List Bool)
  | [] => []
  | x :: r => insB x (isB r)
theorem insB_perm (x : List Bool) : ∀ l, (insB x l).Perm (x :: l)
  | [] => .refl _
  | y :: r => by
    unfold insB
    split
    · exact ((insB_perm x r).cons y).trans (.swap x y r)
    · exact .refl _
theorem isB_perm : ∀ l, (isB l).Perm l
  | [] => .refl _
  | x :: r => (insB_perm x (isB r)).trans ((isB_perm r).cons x)
theorem insB_rise : ∀ {l : List (List Bool)} {p x : List Bool}, ltB x p = false → risingS (sW p) (l.map sW) = true → risingS (sW p) ((insB x l).map sW) = true
  | [], p, x, h, _ => by simp [insB, risingS, sW_cps, ltB_eq, h]
  | y :: r, p, x, h, q => by
    simp only [List.map_cons, risingS, Bool.and_eq_true, Bool.not_eq_true', sW_cps, ltB_eq] at q
    unfold insB
    cases hl : ltB y x with
    | true =>
      simp only [if_true, List.map_cons, risingS, Bool.and_eq_true, Bool.not_eq_true', sW_cps, ltB_eq]
      refine ⟨q.1, insB_rise ?_ q.2⟩
      have := ltCps_asymm (a := y.map cB) (b := x.map cB) (by rw [ltB_eq]; exact hl)
      rw [ltB_eq] at this
      exact this
    | false =>
      simp only [Bool.false_eq_true, if_false, List.map_cons, risingS, Bool.and_eq_true, Bool.not_eq_true', sW_cps, ltB_eq]
      exact ⟨h, hl, q.2⟩
theorem isB_sorted : ∀ l, sortedS ((isB l).map sW) = true
  | [] => rfl
  | x :: r => by
    have ih := isB_sorted r
    unfold isB
    generalize isB r = l at ih ⊢
    cases l with
    | nil => rfl
    | cons y t =>
      have ih : risingS (sW y) (t.map sW) = true := ih
      unfold insB
      cases hl : ltB y x with
      | true =>
        simp only [if_true, List.map_cons, sortedS]
        refine insB_rise ?_ ih
        have := ltCps_asymm (a := y.map cB) (b := x.map cB) (by rw [ltB_eq]; exact hl)
        rw [ltB_eq] at this
        exact this
      | false =>
        simp only [Bool.false_eq_true, if_false, List.map_cons, sortedS, risingS, Bool.and_eq_true, Bool.not_eq_true', sW_cps, ltB_eq]
        exact ⟨hl, ih⟩
theorem sorted_words {l : List (List Bool)} {zs : List Str} (h : zs.Perm (l.map sW)) (s : sortedS zs = true) : zs = (isB l).map sW :=
  sorted_one h s ((isB_perm l).map sW) (isB_sorted l)
/-! ### runs -/
def rB : List Bool → Nat
  | [] => 0
  | [_] => 1
  | a :: b :: r => (if a == b then 0 else 1) + rB (b :: r)
/-! ### forms of languages -/
inductive Fm where
  | all | f01 | f10 | f010 | f101 | p3 | p2
  deriving DecidableEq
def Fm.any : Fm → Bool
  | .all => true | _ => false
def Fm.rn : Fm → Nat
  | .f01 => 2 | .f10 => 2 | .p2 => 2 | _ => 3
def Fm.fs : Fm → List Bool
  | .all => [] | .f01 => [false] | .f10 => [true] | .f010 => [false] | .f101 => [true] | .p3 => [false, true] | .p2 => [false, true]
/-- the forms as words -/
def Fm.ws : Fm → List (List Bool)
  | .all => [] | .f01 => [[false, true]] | .f10 => [[true, false]] | .f010 => [[false, true, false]] | .f101 => [[true, false, true]] | .p3 => [[false, true, false], [true, false, true]] | .p2 => [[false, true], [true, false]]
/-- the forms as texts -/
def Fm.ts : Fm → List Str
  | .all => ["all"]
  | F => F.ws.map sW
def Fm.lg (F : Fm) : Lang where
  ks := F.ts
  all := F.any
  runs := F.rn
  firsts := match F with
    | .all => ["a"]
    | F => F.fs.map fun b => sW [b]
def letsB (F : Fm) (w : List Bool) : Bool := F.any || (decide (rB w < F.rn) || (decide (rB w = F.rn) && F.fs.contains (w.headD false)))
/-! ### counts -/
def chG (m : Int) : Nat → Int
  | 0 => 1
  | k + 1 => chG m k * (m - k) / (k + 1)
def chM (m : Int) (n : Nat) : Int := if (n : Int) ≤ m then chG m n else 0
def manyM (F : Fm) (size : Nat) : Int :=
  if size = 0 ∨ F.any = true then 2 ^ size
  else ((List.range (F.rn - 1)).map fun i => 2 * chM ((size : Int) - 1) i).sum + (F.fs.length : Int) * chM ((size : Int) - 1) (F.rn - 1)
def endsM (F : Fm) (w : List Bool) (left : Nat) : Int :=
  if F.any = true ∨ w = [] then manyM F left
  else ((List.range (F.rn - rB w)).map fun i => chM left i).sum + (if rB w ≤ F.rn ∧ F.fs.contains (w.headD false) = true then chM left (F.rn - rB w) else 0)
/-- left letters more -/
def madeM (F : Fm) : Nat → List Bool → Int → List Bool
  | 0, w, _ => w
  | left + 1, w, n => if n < endsM F (w ++ [false]) left then madeM F left (w ++ [false]) n else madeM F left (w ++ [true]) (n - endsM F (w ++ [false]) left)
def wordsM (F : Fm) (size : Nat) : List (List Bool) := (List.range (manyM F size).toNat).map fun (n : Nat) => madeM F size [] (n : Int)
theorem madeM_len (F : Fm) : ∀ (left : Nat) (w : List Bool) (n : Int), (madeM F left w n).length = w.length + left
  | 0, w, n => rfl
  | left + 1, w, n => by
    unfold madeM
    split
    · rw [madeM_len]
      simp
      omega
    · rw [madeM_len]
      simp
      omega
/-! ### steps -/
inductive How where
  | free | must | no
  deriving DecidableEq
def How.s : How → Str
  | .free => "free" | .must => "must" | .no => "not"
def How.ls : How → List Bool
  | .free => [false, true] | .must => [true] | .no => [false]
inductive Stp where
  | next | ins (i : Nat) (h : How) | del (i : Nat) | rev | turn (i : Nat)
  deriving DecidableEq
def Stp.d : Stp → D
  | .next => .tup [.str "next"]
  | .ins i h => .tup [.str "insert", .int i, .str h.s]
  | .del i => .tup [.str "delete", .int i]
  | .rev => .tup [.str "reverse"]
  | .turn i => .tup [.str "turn", .int i]
def nextM (w : List Bool) : List (List Bool) := ((List.range w.length).filter fun i => w.getD i false).map fun i => w.take i ++ [false] ++ w.drop (i + 1)
def ledM (w : List Bool) : Stp → List (List Bool)
  | .next => nextM w
  | .ins i h => h.ls.map fun b => w.take i ++ [b] ++ w.drop i
  | .del i => [w.take i ++ w.drop (i + 1)]
  | .rev => [w.reverse]
  | .turn i => [w.drop i ++ w.take i]
inductive Kd where
  | del | rev | turn | swap | move | ff | fm | fn | bf | bm | bn | af | am | an
  deriving DecidableEq
def Kd.s : Kd → Str
  | .del => "delete" | .rev => "reverse" | .turn => "turn" | .swap => "swap" | .move => "move" | .ff => "front free" | .fm => "front must" | .fn => "front not" | .bf => "back free" | .bm => "back must" | .bn => "back not" | .af => "any free" | .am => "any must" | .an => "any not"
def Kd.all : List Kd := [.del, .rev, .turn, .swap, .move, .ff, .fm, .fn, .bf, .bm, .bn, .af, .am, .an]
def stepsM (k : Kd) (size : Nat) : List Stp := match k with
  | .del => (List.range size).map .del
  | .rev => [.rev]
  | .turn => (List.range (size + 1)).map .turn
  | .swap => [] | .move => []
  | .ff => [.ins 0 .free] | .fm => [.ins 0 .must] | .fn => [.ins 0 .no]
  | .bf => [.ins size .free] | .bm => [.ins size .must] | .bn => [.ins size .no]
  | .af => (List.range (size + 1)).map fun i => .ins i .free
  | .am => (List.range (size + 1)).map fun i => .ins i .must
  | .an => (List.range (size + 1)).map fun i => .ins i .no
/-- the kinds that a language of this form bears -/
def Fm.bears : Fm → Kd → Bool
  | .all, _ => true
  | _, .del => true
  | _, .ff => true | _, .bf => true | _, .af => true
  | .p3, .turn => true
  | .p3, .rev => true
  | .p2, .rev => true
  | .f010, .rev => true | .f101, .rev => true
  | .f101, .fm => true | .f101, .bm => true
  | .f010, .fn => true | .f010, .bn => true
  | .f10, .fm => true | .f10, .bn => true
  | .f01, .fn => true | .f01, .bm => true
  | _, _ => false
def firstOpen (F : Fm) (size : Nat) (k : Kd) : Bool := (wordsM F size).all fun w => (!w.contains true || (ledM w .next).any (letsB F)) && (stepsM k size).all fun s => (ledM w s).any (letsB F)
end Kp

/-! # the plain law, by looking at each case -/
namespace Kp
open PySem
/-- what first_open looks at: every step of a kind that the form bears leads back -/
def openB (F : Fm) : Bool := (List.range (F.rn + 5)).all fun size => Kd.all.all fun k => !F.bears k || firstOpen F size k
theorem openB_all : (F : Fm) → F ≠ .all → openB F = true
  | .f01, _ => by decide +kernel
  | .f10, _ => by decide +kernel
  | .f010, _ => by decide +kernel
  | .f101, _ => by decide +kernel
  | .p3, _ => by decide +kernel
  | .p2, _ => by decide +kernel
theorem kd_mem (k : Kd) : k ∈ Kd.all := by cases k <;> decide
theorem open_fact {F : Fm} (h : F ≠ .all) {size : Nat} (hs : size < F.rn + 5) {k : Kd} (hk : F.bears k = true) {w : List Bool} (hw : w ∈ wordsM F size) :
    (w.contains true = true → (ledM w .next).any (letsB F) = true) ∧ ∀ s ∈ stepsM k size, (ledM w s).any (letsB F) = true := by
  have z := openB_all F h
  unfold openB at z
  have z1 := List.all_eq_true.mp z size (List.mem_range.mpr hs)
  have z2 := List.all_eq_true.mp z1 k (kd_mem k)
  rw [hk, Bool.not_true, Bool.false_or] at z2
  unfold firstOpen at z2
  have z3 := List.all_eq_true.mp z2 w hw
  rw [Bool.and_eq_true] at z3
  refine ⟨fun c => ?_, fun s hs => List.all_eq_true.mp z3.2 s hs⟩
  have z4 := z3.1
  rw [c, Bool.not_true, Bool.false_or] at z4
  exact z4
/-! ### the law's own language -/
def fitsB : List Bool → List Bool → Bool
  | _, [] => true
  | f, x :: r => match f.dropWhile (· != x) with
    | [] => false
    | y :: t => fitsB (y :: t) r
def hasM (F : Fm) (p : List Bool) : Bool := F.any || F.ws.any fun f => fitsB f p
def genM : Nat → List (List Bool)
  | 0 => [[]]
  | k + 1 => (genM k).map (· ++ [false]) ++ (genM k).map (· ++ [true])
theorem genM_len : ∀ (k : Nat) (w : List Bool), w ∈ genM k → w.length = k
  | 0, w, h => by
    simp [genM] at h
    rw [h] <;> rfl
  | k + 1, w, h => by
    simp only [genM, List.mem_append, List.mem_map] at h
    rcases h with ⟨u, hu, e⟩ | ⟨u, hu, e⟩ <;> rw [← e, List.length_append, genM_len k u hu] <;> rfl
def closB (F : Fm) : Bool := (List.range 8).all fun many => (genM many).all fun p => !hasM F p || ((!p.contains true || (ledM p .next).any (hasM F)) && Kd.all.all fun k => !F.bears k || (stepsM k many).all fun s => (ledM p s).any (hasM F))
theorem closB_all : (F : Fm) → F ≠ .all → closB F = true
  | .f01, _ => by decide +kernel
  | .f10, _ => by decide +kernel
  | .f010, _ => by decide +kernel
  | .f101, _ => by decide +kernel
  | .p3, _ => by decide +kernel
  | .p2, _ => by decide +kernel
theorem clos_fact {F : Fm} (h : F ≠ .all) {many : Nat} (hm : many < 8) {p : List Bool} (hp : p ∈ genM many) (hh : hasM F p = true) :
    (p.contains true = true → (ledM p .next).any (hasM F) = true) ∧ ∀ k, F.bears k = true → ∀ s ∈ stepsM k many, (ledM p s).any (hasM F) = true := by
  have z := closB_all F h
  unfold closB at z
  have z1 := List.all_eq_true.mp z many (List.mem_range.mpr hm)
  have z2 := List.all_eq_true.mp z1 p hp
  rw [hh, Bool.not_true, Bool.false_or, Bool.and_eq_true] at z2
  refine ⟨fun c => ?_, fun k hk s hs => ?_⟩
  · have z4 := z2.1
    rw [c, Bool.not_true, Bool.false_or] at z4
    exact z4
  · have z3 := List.all_eq_true.mp z2.2 k (kd_mem k)
    rw [hk, Bool.not_true, Bool.false_or] at z3
    exact List.all_eq_true.mp z3 s hs
/-! ### the counts -/
def lawMany (F : Fm) (n : Nat) : Int := match F with
  | .all => 2 ^ n
  | .f01 => n + 1 | .f10 => n + 1
  | .p2 => if n = 0 then 1 else 2 * n
  | .p3 => if n = 0 then 1 else n * (n - 1) + 2
  | .f010 => if n = 0 then 1 else n * (n + 1) / 2 + 1
  | .f101 => if n = 0 then 1 else n * (n + 1) / 2 + 1
def manyB (F : Fm) : Bool := (List.range 61).all fun n => decide (manyM F n = lawMany F n)
theorem manyB_all : (F : Fm) → manyB F = true
  | .all => by decide +kernel
  | .f01 => by decide +kernel
  | .f10 => by decide +kernel
  | .f010 => by decide +kernel
  | .f101 => by decide +kernel
  | .p3 => by decide +kernel
  | .p2 => by decide +kernel
theorem many_fact (F : Fm) {n : Nat} (h : n ≤ 60) : manyM F n = lawMany F n := by
  have z := manyB_all F
  unfold manyB at z
  exact of_decide_eq_true (List.all_eq_true.mp z n (List.mem_range.mpr (by omega)))
/-! ### the form that the kinds ask for -/
structure Fl where
  (rev turn swap move fm fn bm bn am an : Bool)
def Fl.m1 (f : Fl) : Bool := f.fm || (f.rev && f.bm)
def Fl.n1 (f : Fl) : Bool := f.fn || (f.rev && f.bn)
def Fl.m2 (f : Fl) : Bool := f.bm || (f.rev && f.fm)
def Fl.n2 (f : Fl) : Bool := f.bn || (f.rev && f.fn)
def Fl.hard (f : Fl) : Bool := f.swap || f.move || f.am || f.an
def Fl.form (f : Fl) : Fm :=
  if f.hard then .all
  else if (f.m1 && f.n1) || (f.m2 && f.n2) || (f.turn && (f.m1 || f.n1 || f.m2 || f.n2)) then .all
  else if f.turn then .p3
  else if f.m1 = f.m2 ∧ f.n1 = f.n2 ∧ (f.m1 || f.n1) = true then (if f.m1 && !f.n1 then .f101 else .f010)
  else if f.rev then .p2
  else if (f.m1 && !f.n1) || (f.n2 && !f.m2) then .f10
  else .f01
def flOf (ks : List Kd) : Fl := ⟨ks.contains .rev, ks.contains .turn, ks.contains .swap, ks.contains .move, ks.contains .fm, ks.contains .fn, ks.contains .bm, ks.contains .bn, ks.contains .am, ks.contains .an⟩
def fmOf (ks : List Kd) : Fm := (flOf ks).form
def Fl.on (f : Fl) : Kd → Bool
  | .rev => f.rev | .turn => f.turn | .swap => f.swap | .move => f.move | .fm => f.fm | .fn => f.fn | .bm => f.bm | .bn => f.bn | .am => f.am | .an => f.an | _ => true
theorem form_bears : ∀ (a b c d e f g h i j : Bool), Kd.all.all (fun k => !(Fl.mk a b c d e f g h i j).on k || (Fl.mk a b c d e f g h i j).form.bears k) = true := by decide +kernel
theorem fm_bears {ks : List Kd} {k : Kd} (h : k ∈ ks) : (fmOf ks).bears k = true := by
  have z := form_bears (ks.contains .rev) (ks.contains .turn) (ks.contains .swap) (ks.contains .move) (ks.contains .fm) (ks.contains .fn) (ks.contains .bm) (ks.contains .bn) (ks.contains .am) (ks.contains .an)
  have z1 := List.all_eq_true.mp z k (kd_mem k)
  have z2 : (flOf ks).on k = true := by
    have c : ks.contains k = true := List.contains_iff_mem.mpr h
    cases k <;> first | exact c | rfl
  have z2' : (Fl.mk (ks.contains .rev) (ks.contains .turn) (ks.contains .swap) (ks.contains .move) (ks.contains .fm) (ks.contains .fn) (ks.contains .bm) (ks.contains .bn) (ks.contains .am) (ks.contains .an)).on k = true := z2
  rw [z2', Bool.not_true, Bool.false_or] at z1
  exact z1
end Kp

/-! # The data layer: walks, loops, comprehensions, statements, defs -/
namespace Kp
open PySem PySem.Spec PyProof.Rows L2
section
variable {K : PySem.W.Frag} {C : Addr}
theorem rc_any {bs : List Bool} : RCD K C (rAny K) [.lst (bs.map .bl)] (.bl (bs.any id)) := fun G H vs s a Q k => by
  obtain ⟨v, r, rfl, h1, h2⟩ := a.inv
  rw [h2.inv0]
  obtain ⟨p, us, rfl, g, r1⟩ := h1.lst'
  have e := r1.bls
  subst e
  exact ⟨p, bs, rfl, SqL.of (s _ _ g), k _ G H (Nx.refl s) (At.bl _)⟩
theorem rc_all {bs : List Bool} : RCD K C (rAll K) [.lst (bs.map .bl)] (.bl (bs.all id)) := fun G H vs s a Q k => by
  obtain ⟨v, r, rfl, h1, h2⟩ := a.inv
  rw [h2.inv0]
  obtain ⟨p, us, rfl, g, r1⟩ := h1.lst'
  have e := r1.bls
  subst e
  exact ⟨p, bs, rfl, SqL.of (s _ _ g), k _ G H (Nx.refl s) (At.bl _)⟩
theorem rc_sortedS {xs ys : List Str} (hl : xs.length < 64) (h : ∀ zs : List Str, zs.Perm xs → sortedS zs = true → zs = ys) : RCD K C (rSortedS K) [.lst (xs.map .str)] (.lst (ys.map .str)) := fun G H vs s a Q k => by
  obtain ⟨v, r, rfl, h1, h2⟩ := a.inv
  rw [h2.inv0]
  obtain ⟨p, us, rfl, g, r1⟩ := h1.lst'
  have e := r1.strs
  subst e
  exact ⟨p, xs, rfl, SqL.of (s _ _ g), hl, fun zs q h1 h2 hq => by rw [h zs h1 h2]; exact k _ _ _ (Nx.new s hq) (At.lst upd_same AtL.of_strs)⟩
theorem rc_listL {xs : List D} : RCD K C (fun xs H Q => ∃ p ys, xs = [.ref p] ∧ (SqL K H p ys ∨ SqT K H p ys) ∧ ∀ l, H l = Option.none → Q (.ref l) (upd H l (.lst ys))) [.lst xs] (.lst xs) := fun G H vs s a Q k => by
  obtain ⟨v, r, rfl, h1, h2⟩ := a.inv
  rw [h2.inv0]
  obtain ⟨p, us, rfl, g, r1⟩ := h1.lst'
  exact ⟨p, us, rfl, .inl (SqL.of (s _ _ g)), fun l hl => k _ _ _ (Nx.new s hl) (At.lst upd_same (r1.mono (Same.new (s.free hl))))⟩
theorem rc_tupL {xs : List D} : RCD K C (fun xs H Q => ∃ p ys, xs = [.ref p] ∧ ((SqL K H p ys ∧ ∀ l, H l = Option.none → Q (.ref l) (upd H l (.tup ys))) ∨ (SqT K H p ys ∧ Q (.ref p) H))) [.lst xs] (.tup xs) := fun G H vs s a Q k => by
  obtain ⟨v, r, rfl, h1, h2⟩ := a.inv
  rw [h2.inv0]
  obtain ⟨p, us, rfl, g, r1⟩ := h1.lst'
  exact ⟨p, us, rfl, .inl ⟨SqL.of (s _ _ g), fun l hl => k _ _ _ (Nx.new s hl) (At.tup (.inl (.inl upd_same)) (r1.mono (Same.new (s.free hl))))⟩⟩
/-! ### walks -/
variable {G : Hp}
theorem wk_list {a : Addr} {vs : List V} {xs : List D} (g : G a = some (.lst vs)) (r : AtL K C G xs vs) : WkD K C (Itl K a) G xs where
  goes := fun i H hi s => walk_list.goes i H (by rw [r.len]; exact hi) (SqL.of (s _ _ g))
  stops := fun H s => by
    have h := (walk_list (K := K) (a := a) (xs := vs)).stops H (SqL.of (s _ _ g))
    rw [r.len] at h
    exact h
  yields := fun i H v H' Gi hi gi s y => by
    obtain ⟨e1, e2⟩ := (walk_list (K := K) (a := a) (xs := vs)).yields i H v H' (by rw [r.len]; exact hi) (SqL.of (s _ _ (gi _ _ g))) y
    obtain ⟨d, h1, h2⟩ := r.getV e2
    rw [e1]
    exact ⟨d, Gi, h1, Nx.refl s, h2.mono gi⟩
theorem wk_tup {a : Addr} {vs : List V} {xs : List D} (g : SqT K G a vs) (r : AtL K C G xs vs) : WkD K C (Itt K a) G xs where
  goes := fun i H hi s => walk_tup.goes i H (by rw [r.len]; exact hi) (same_t s g)
  stops := fun H s => by
    have h := (walk_tup (K := K) (a := a) (xs := vs)).stops H (same_t s g)
    rw [r.len] at h
    exact h
  yields := fun i H v H' Gi hi gi s y => by
    obtain ⟨e1, e2⟩ := (walk_tup (K := K) (a := a) (xs := vs)).yields i H v H' (by rw [r.len]; exact hi) (same_t (gi.trans s) g) y
    obtain ⟨d, h1, h2⟩ := r.getV e2
    rw [e1]
    exact ⟨d, Gi, h1, Nx.refl s, h2.mono gi⟩
/-- lo, lo + 1, .. : n of them -/
def rgD (lo : Int) (n : Nat) : List D := (List.range n).map fun (i : Nat) => D.int (lo + (i : Int))
/-- lo, lo - 1, .. : n of them -/
def rgD' (lo : Int) (n : Nat) : List D := (List.range n).map fun (i : Nat) => D.int (lo + (i : Int) * (-1))
theorem rgD_get {lo : Int} {n i : Nat} (h : i < n) : (rgD lo n)[i]? = some (.int (lo + (i : Int))) := by
  unfold rgD
  rw [List.getElem?_map, List.getElem?_range h] <;> rfl
theorem rgD_get' {lo : Int} {n i : Nat} (h : i < n) : (rgD' lo n)[i]? = some (.int (lo + (i : Int) * (-1))) := by
  unfold rgD'
  rw [List.getElem?_map, List.getElem?_range h] <;> rfl
theorem rgD_len {lo : Int} {n : Nat} : (rgD lo n).length = n := by unfold rgD; simp
theorem rgD_len' {lo : Int} {n : Nat} : (rgD' lo n).length = n := by unfold rgD'; simp
theorem wk_range {lo : Int} {n : Nat} : WkD K C (Itr lo n) G (rgD lo n) where
  goes := fun i H hi s => by rw [rgD_len] at hi; exact hi
  stops := fun H s => by rw [rgD_len]; exact Nat.le_refl _
  yields := fun i H v H' Gi hi gi s y => by
    rw [rgD_len] at hi
    obtain ⟨e1, e2⟩ := y
    rw [e1, e2]
    exact ⟨_, Gi, rgD_get hi, Nx.refl s, At.int _⟩
theorem wk_range' {lo : Int} {n : Nat} : WkD K C (Itc lo (-1) n) G (rgD' lo n) where
  goes := fun i H hi s => by rw [rgD_len'] at hi; exact hi
  stops := fun H s => by rw [rgD_len']; exact Nat.le_refl _
  yields := fun i H v H' Gi hi gi s y => by
    rw [rgD_len'] at hi
    obtain ⟨e1, e2⟩ := y
    rw [e1, e2]
    exact ⟨_, Gi, rgD_get' hi, Nx.refl s, At.int _⟩
/-- the signs of a text -/
def sgD (t : Str) : List D := t.cps.toList.map fun c => D.str ⟨#[c]⟩
theorem wk_str {t : Str} : WkD K C (Its t) G (sgD t) where
  goes := fun i H hi s => by
    unfold sgD at hi
    simp at hi
    exact hi
  stops := fun H s => by
    unfold sgD
    simp
    exact Nat.le_refl _
  yields := fun i H v H' Gi hi gi s y => by
    obtain ⟨e1, c, e2, e3⟩ := y
    rw [e1, e3]
    refine ⟨.str ⟨#[c]⟩, Gi, ?_, Nx.refl s, At.str _⟩
    unfold sgD
    rw [List.getElem?_map, Array.getElem?_toList, e2] <;> rfl
/-- pairs (number, item) -/
def enD (xs : List D) : List D := xs.zipIdx.map fun p => .tup [.int (p.2 : Int), p.1]
theorem enD_get {xs : List D} {i : Nat} {d : D} (h : xs[i]? = some d) : (enD xs)[i]? = some (.tup [.int (i : Int), d]) := by
  unfold enD
  rw [List.getElem?_map, List.getElem?_zipIdx, h]
  simp
theorem enD_len {xs : List D} : (enD xs).length = xs.length := by unfold enD; simp
theorem wk_enum {a : Addr} {vs : List V} {xs : List D} (g : G a = some (.lst vs)) (r : AtL K C G xs vs) : WkD K C (Ite K a) G (enD xs) where
  goes := fun i H hi s => walk_enum.goes i H (by rw [r.len]; rw [enD_len] at hi; exact hi) (SqL.of (s _ _ g))
  stops := fun H s => by
    have h := (walk_enum (K := K) (a := a) (xs := vs)).stops H (SqL.of (s _ _ g))
    rw [r.len] at h
    rw [enD_len]
    exact h
  yields := fun i H v H' Gi hi gi s y => by
    rw [enD_len] at hi
    obtain ⟨T, x, u, e1, e2, e3, e4, e5⟩ := (walk_enum (K := K) (a := a) (xs := vs)).yields i H v H' (by rw [r.len]; exact hi) (SqL.of (s _ _ (gi _ _ g))) y
    obtain ⟨d, h1, h2⟩ := r.getV e5
    cases e4
    rw [e1, e3]
    exact ⟨_, _, enD_get h1, Nx.new s e2, At.tup (.inl (.inl upd_same)) (.cons (At.int _) (.cons (h2.mono (gi.trans (Same.new (s.free e2)))) .nil))⟩
end
section
variable {C : Addr} {X : Cx} {tg e a b c : Expr} {es : List Expr} {γ : DSt} {xs : List D} {d : D} {pos p : Pos}
theorem i_list (h : PD C X e γ (.lst xs)) : PID C X tg e γ xs := PI.weak (pi_list h) fun σ H R ⟨G, s, sl, k⟩ => ⟨G, s, sl, fun v G1 H1 n1 a1 => by
  obtain ⟨a, vs, rfl, g, r⟩ := a1.lst'
  exact ⟨a, rfl, ⟨vs, SqL.of (n1.s _ _ g)⟩, k _ G1 H1 n1 (wk_list g r)⟩⟩
theorem i_tup (h : PD C X e γ (.tup xs)) : PID C X tg e γ xs := PI.weak (pi_tup h) fun σ H R ⟨G, s, sl, k⟩ => ⟨G, s, sl, fun v G1 H1 n1 a1 => by
  obtain ⟨a, vs, rfl, g, r⟩ := a1.tup'
  exact ⟨a, rfl, ⟨vs, same_t n1.s g⟩, k _ G1 H1 n1 (wk_tup g r)⟩⟩
theorem i_str {t : Str} (h : PD C X e γ (.str t)) : PID C X tg e γ (sgD t) := PI.weak (pi_str h) fun σ H R ⟨G, s, sl, k⟩ => ⟨G, s, sl, fun v G1 H1 n1 a1 => ⟨t, a1.str', k _ G1 H1 n1 wk_str⟩⟩
theorem i_range1 {n : Int} (hm : X.mg "range" = Option.none) (h : PAD C X [a] γ [.int n]) (h0 : 0 ≤ n) (h1 : n ≤ 100000) (hg : Gl X "range" := by rfl) (hs : starEach [a] X.env = [(false, eval a X.env)] := by rfl) : PID C X tg (.Call (.Name "range" p) [a] [] pos) γ (rgD 0 n.toNat) :=
  PI.weak (pi_range1 hg hm h hs) fun σ H R ⟨G, s, sl, k⟩ => ⟨G, s, sl, fun vs G1 H1 n1 a1 => by
    obtain ⟨v, r, rfl, h2, h3⟩ := a1.inv
    rw [h3.inv0, h2.int']
    exact ⟨n, rfl, by omega, by omega, k _ G1 H1 n1 wk_range⟩⟩
theorem i_range2 {lo n : Int} (hm : X.mg "range" = Option.none) (h : PAD C X [a, b] γ [.int lo, .int n]) (h0 : -100000 ≤ lo ∧ lo ≤ 100000) (h1 : -100000 ≤ n ∧ n ≤ 100000) (hg : Gl X "range" := by rfl)
    (hs : starEach [a, b] X.env = [(false, eval a X.env), (false, eval b X.env)] := by rfl) (hs2 : starEach [b] X.env = [(false, eval b X.env)] := by rfl) : PID C X tg (.Call (.Name "range" p) [a, b] [] pos) γ (rgD lo (n - lo).toNat) :=
  PI.weak (pi_range2 hg hm h hs hs2) fun σ H R ⟨G, s, sl, k⟩ => ⟨G, s, sl, fun vs G1 H1 n1 a1 => by
    obtain ⟨v, r, rfl, h2, h3⟩ := a1.inv
    obtain ⟨v', r', rfl, h4, h5⟩ := h3.inv
    rw [h5.inv0, h2.int', h4.int']
    exact ⟨lo, n, rfl, ⟨by omega, by omega, by omega, by omega⟩, k _ G1 H1 n1 wk_range⟩⟩
theorem i_range3 {lo n : Int} (hm : X.mg "range" = Option.none) (h : PAD C X [a, b, c] γ [.int lo, .int n, .int (-1)]) (h0 : -100000 ≤ lo ∧ lo ≤ 100000) (h1 : -100000 ≤ n ∧ n ≤ 100000) (hg : Gl X "range" := by rfl)
    (hs : starEach [a, b, c] X.env = (false, eval a X.env) :: starEach [b, c] X.env := by rfl) (hpl : (backTo pos (starEach [b, c] X.env)).any (·.1) = false := by rfl) : PID C X tg (.Call (.Name "range" p) [a, b, c] [] pos) γ (rgD' lo (lo - n).toNat) :=
  PI.weak (pi_range3 hg hm h hs hpl) fun σ H R ⟨G, s, sl, k⟩ => ⟨G, s, sl, fun vs G1 H1 n1 a1 => by
    obtain ⟨v, r, rfl, h2, h3⟩ := a1.inv
    obtain ⟨v', r', rfl, h4, h5⟩ := h3.inv
    obtain ⟨v2, r2, rfl, h6, h7⟩ := h5.inv
    rw [h7.inv0, h2.int', h4.int', h6.int']
    exact ⟨lo, n, -1, _, rfl, RgC.neg (by omega) (by omega) (by omega) (by omega), k _ G1 H1 n1 wk_range'⟩⟩
theorem i_enum {tpos : Pos} {elts : List Expr} {kk : Nat} (hm : X.mg "enumerate" = Option.none) (h : PAD C X [e] γ [.lst xs]) (hg : Gl X "enumerate" := by rfl) (hs : starEach [e] X.env = [(false, eval e X.env)] := by rfl) : PID C X (.Tuple elts kk tpos) (.Call (.Name "enumerate" p) [e] [] pos) γ (enD xs) :=
  PI.weak (pi_enum hg hm h hs) fun σ H R ⟨G, s, sl, k⟩ => ⟨G, s, sl, fun vs G1 H1 n1 a1 => by
    obtain ⟨v, r, rfl, h2, h3⟩ := a1.inv
    rw [h3.inv0]
    obtain ⟨a, us, rfl, g, r⟩ := h2.lst'
    exact ⟨a, us, rfl, SqL.of (n1.s _ _ g), k _ G1 H1 n1 (wk_enum g r)⟩⟩
/-! ### targets -/
def tg1 (j : Nat) : D → DSt → Option DSt := fun d γ => some (γ.set j (some d))
def tg2 (i j : Nat) : D → DSt → Option DSt := fun d γ => match d with
  | .tup [a, b] => some ((γ.set i (some a)).set j (some b))
  | _ => Option.none
def tgL2 (i j : Nat) : D → DSt → Option DSt := fun d γ => match d with
  | .lst [a, b] => some ((γ.set i (some a)).set j (some b))
  | _ => Option.none
theorem wipe_set1 (σ : L2.St) (j : Nat) (v : Option V) : wipe (σ.set j v) [j] = wipe σ [j] := by
  simp [wipe, List.set_set]
theorem wipe_set2 (σ : L2.St) (i j : Nat) (v w : Option V) : wipe ((σ.set i v).set j w) [i, j] = wipe σ [i, j] := by
  simp only [wipe, List.set_set]
  by_cases h : i = j
  · subst h
    simp [List.set_set]
  · rw [List.set_comm _ _ h, List.set_set, List.set_comm _ _ (Ne.symm h)]
theorem g_name (j : Nat) {x : Str} (hN : X.N.Nodup) (hi : X.N[j]? = some x := by rfl) (hx : Loc X.env.scope x := by first | exact Or.inl rfl | exact Or.inr rfl) (hf : X.fn x = true ∨ X.env.scope.names.lookup x = some .local := by first | exact .inl rfl | exact .inr rfl | assumption) : PGD C X (.Name x p) [j] (tg1 j) :=
  PG.weak (pg_name hN hi hx hf) fun v σ H Q ⟨G, γ, d, γ', s, sl, a, e, k⟩ => by
    cases e
    exact k _ (sl.set a) (wipe_set1 _ _ _)
theorem g_pair (i j : Nat) {x y : Str} {p1 p2 : Pos} {kk : Nat} (hc : X.calm = true) (hN : X.N.Nodup) (hi : X.N[i]? = some x := by rfl) (hj : X.N[j]? = some y := by rfl) (hx : Loc X.env.scope x := by first | exact Or.inl rfl | exact Or.inr rfl) (hy : Loc X.env.scope y := by first | exact Or.inl rfl | exact Or.inr rfl)
    (hf : X.fn x = true ∨ X.env.scope.names.lookup x = some .local := by first | exact .inl rfl | exact .inr rfl | assumption) (hf2 : X.fn y = true ∨ X.env.scope.names.lookup y = some .local := by first | exact .inl rfl | exact .inr rfl | assumption) : PGD C X (.Tuple [.Name x p1, .Name y p2] kk p) [i, j] (tg2 i j) :=
  PG.weak (pg_tup hc (pgs_cons (pg_name hN hi hx hf) (pgs_cons (pg_name hN hj hy hf2) pgs_nil)) (n := 2)) fun v σ H Q ⟨G, γ, d, γ', s, sl, a, e, k⟩ => by
    unfold tg2 at e
    split at e
    · rename_i d1 d2
      cases e
      obtain ⟨q, vs, rfl, g, r⟩ := a.tup'
      obtain ⟨v1, r1, rfl, h2, h3⟩ := r.inv
      obtain ⟨v2, r2, rfl, h4, h5⟩ := h3.inv
      rw [h5.inv0] at g
      exact ⟨q, _, rfl, same_t s g, rfl, v1, _, rfl, v2, _, rfl, rfl, k _ ((sl.set h2).set h4) (wipe_set2 _ _ _ _ _)⟩
    · cases e
theorem g_pairL (i j : Nat) {x y : Str} {p1 p2 : Pos} {kk : Nat} (hc : X.calm = true) (hN : X.N.Nodup) (hi : X.N[i]? = some x := by rfl) (hj : X.N[j]? = some y := by rfl) (hx : Loc X.env.scope x := by first | exact Or.inl rfl | exact Or.inr rfl) (hy : Loc X.env.scope y := by first | exact Or.inl rfl | exact Or.inr rfl)
    (hf : X.fn x = true ∨ X.env.scope.names.lookup x = some .local := by first | exact .inl rfl | exact .inr rfl | assumption) (hf2 : X.fn y = true ∨ X.env.scope.names.lookup y = some .local := by first | exact .inl rfl | exact .inr rfl | assumption) : PGD C X (.Tuple [.Name x p1, .Name y p2] kk p) [i, j] (tgL2 i j) :=
  PG.weak (pg_unl hc (pgs_cons (pg_name hN hi hx hf) (pgs_cons (pg_name hN hj hy hf2) pgs_nil)) (n := 2)) fun v σ H Q ⟨G, γ, d, γ', s, sl, a, e, k⟩ => by
    unfold tgL2 at e
    split at e
    · rename_i d1 d2
      cases e
      obtain ⟨q, vs, rfl, g, r⟩ := a.lst'
      obtain ⟨v1, r1, rfl, h2, h3⟩ := r.inv
      obtain ⟨v2, r2, rfl, h4, h5⟩ := h3.inv
      rw [h5.inv0] at g
      exact ⟨q, _, rfl, SqL.of (s _ _ g), rfl, v1, _, rfl, v2, _, rfl, rfl, k _ ((sl.set h2).set h4) (wipe_set2 _ _ _ _ _)⟩
    · cases e
/-! ### statements -/
variable {E : DE} {st : Stmt} {rest body orelse : List Stmt}
theorem s_nil (k : E.nx γ) : PSsD C X [] γ E := PSs.weak pss_nil fun Dn σ H ⟨G, s, sl, kn, _⟩ => kn σ γ G H (Nx.refl s) sl k
theorem s_cons (h : PSD C X st γ { E with nx := fun γ' => PSsD C X rest γ' E }) : PSsD C X (st :: rest) γ E :=
  PSs.weak (pss_cons h (PSs.all (t := fun (i : { γ' : DSt // PSsD C X rest γ' E }) => cS X.K C i.1 E) fun i => i.2)) fun Dn σ H ⟨G, s, sl, kn, kr, kb, kc⟩ =>
    ⟨G, s, sl, fun σ' γ' G1 H1 n1 sl1 q => ⟨⟨γ', q⟩, G1, n1.s, sl1, fun σ2 γ2 G2 H2 n2 => kn σ2 γ2 G2 H2 (n1.trans n2), fun d v G2 H2 n2 => kr d v G2 H2 (n1.trans n2), fun σ2 γ2 G2 H2 n2 => kb σ2 γ2 G2 H2 (n1.trans n2), fun σ2 γ2 G2 H2 n2 => kc σ2 γ2 G2 H2 (n1.trans n2)⟩, kr, kb, kc⟩
theorem s_one (h : PSD C X st γ E) : PSsD C X [st] γ E := pss_one h
theorem s_set (i : Nat) {x : Str} {pos' : Pos} (hN : X.N.Nodup) (he : PD C X e γ d) (k : E.nx (γ.set i (some d))) (hi : X.N[i]? = some x := by rfl) (hx : Loc X.env.scope x := by first | exact Or.inl rfl | exact Or.inr rfl) (hs : swapsWith e (some (.Name x pos')) pos.line X.env = pure false := by rfl)
    (hf : X.fn x = true ∨ X.env.scope.names.lookup x = some .local := by first | exact .inl rfl | exact .inr rfl | assumption) : PSD C X (.Assign [.Name x pos'] e pos) γ E :=
  PS.weak (ps_set hN hi hx he hs hf) fun Dn σ H ⟨G, s, sl, kn, _⟩ => ⟨G, s, sl, fun v G1 H1 n1 a1 => kn _ _ G1 H1 n1 ((sl.mono n1.g).set a1) k⟩
theorem s_asg {js : List Nat} {tgt : D → DSt → Option DSt} {γ' : DSt} (he : PD C X e γ d) (hg : PGD C X tg js tgt) (ht : tgt d γ = some γ') (k : E.nx γ') (hs : swapsWithSole [tg] e pos.line X.env = pure false := by rfl) (hw : swappedStores [tg] e X.env = pure Option.none := by rfl)
    (h1 : (assignEach [tg] X.env).map (·.2) = [assign tg X.env] := by rfl) : PSD C X (.Assign [tg] e pos) γ E :=
  PS.weak (ps_asg he hg hs hw h1) fun Dn σ H ⟨G, s, sl, kn, _⟩ => ⟨G, s, sl, fun v G1 H1 n1 a1 => ⟨G1, γ, d, γ', n1.s, sl.mono n1.g, a1, ht, fun σ' sl' _ => kn _ _ G1 H1 n1 sl' k⟩⟩
theorem s_par (i j : Nat) {x y : Str} {px py pt : Pos} {kt k2 pt2} {d1 d2 : D} (hc : X.calm = true) (hN : X.N.Nodup) (ha : PAD C X [a, b] γ [d1, d2]) (k : E.nx ((γ.set i (some d1)).set j (some d2))) (hw : swappedStores [.Tuple [.Name x px, .Name y py] kt pt] (.Tuple [a, b] k2 pt2) X.env = pure (some [x, y]) := by rfl) (hij : i ≠ j := by decide)
    (hi : X.N[i]? = some x := by rfl) (hj : X.N[j]? = some y := by rfl) (hx : X.env.scope.names.lookup x = some .local := by rfl) (hy : X.env.scope.names.lookup y = some .local := by rfl)
    (hs : swapsWithSole [.Tuple [.Name x px, .Name y py] kt pt] (.Tuple [a, b] k2 pt2) pos.line X.env = pure false := by rfl) : PSD C X (.Assign [.Tuple [.Name x px, .Name y py] kt pt] (.Tuple [a, b] k2 pt2) pos) γ E :=
  PS.weak (ps_par hc hN hi hj hij hx hy ha hw hs) fun Dn σ H ⟨G, s, sl, kn, _⟩ => ⟨G, s, sl, fun vs G1 H1 n1 a1 => by
    obtain ⟨v, r, rfl, h2, h3⟩ := a1.inv
    obtain ⟨v', r', rfl, h4, h5⟩ := h3.inv
    rw [h5.inv0]
    exact ⟨v, v', rfl, kn _ _ G1 H1 n1 (((sl.mono n1.g).set h2).set h4) k⟩⟩
theorem s_ret (he : PD C X e γ d) (k : E.rt d) : PSD C X (.Return (some e) pos) γ E :=
  PS.weak (ps_ret he) fun Dn σ H ⟨G, s, sl, kn, kr, _⟩ => ⟨G, s, sl, fun v G1 H1 n1 a1 => kr d v G1 H1 n1 a1 k⟩
theorem s_expr (he : PD C X e γ d) (k : E.nx γ) (hs : swapsWith e Option.none pos.line X.env = pure false := by rfl) : PSD C X (.Expr e pos) γ E :=
  PS.weak (ps_expr he hs) fun Dn σ H ⟨G, s, sl, kn, _⟩ => ⟨G, s, sl, fun v G1 H1 n1 a1 => kn σ γ G1 H1 n1 (sl.mono n1.g) k⟩
theorem s_if {k : Bool} (hc : PTD C X c γ k) (h1 : k = true → PSsD C X body γ E) (h2 : k = false → PSsD C X orelse γ E) : PSD C X (.If c body orelse pos) γ E :=
  PS.weak (ps_if hc (PSs.guard h1) (PSs.guard h2)) fun Dn σ H ⟨G, s, sl, kn, kr, kb, kc⟩ => ⟨G, s, sl, fun G1 H1 n1 => by
    have fin : cS X.K C γ E Dn σ H1 := ⟨G1, n1.s, sl.mono n1.g, fun σ2 γ2 G2 H2 n2 => kn σ2 γ2 G2 H2 (n1.trans n2), fun d v G2 H2 n2 => kr d v G2 H2 (n1.trans n2), fun σ2 γ2 G2 H2 n2 => kb σ2 γ2 G2 H2 (n1.trans n2), fun σ2 γ2 G2 H2 n2 => kc σ2 γ2 G2 H2 (n1.trans n2)⟩
    cases k with
    | true => exact iteT ⟨rfl, fin⟩
    | false => exact iteF ⟨rfl, fin⟩⟩
/-! ### for -/
theorem s_for {js : List Nat} {tgt : D → DSt → Option DSt} (hp : PassesOwn (model X.prog X.w) X.A X.env X.xe) (hc : X.calm = true) (hi : PID C X tg e γ xs) (hg : PGD C X tg js tgt) (Pv : Nat → DSt → Prop) (h0 : Pv 0 γ)
    (hb : ∀ (i : Nat) (d : D) (γ' : DSt), xs[i]? = some d → Pv i γ' → ∃ γ2, tgt d γ' = some γ2 ∧ PSsD C X body γ2 { nx := Pv (i + 1), rt := E.rt, bk := E.nx, ct := Pv (i + 1) }) (hd : ∀ γ', Pv xs.length γ' → E.nx γ')
    (hs : ∀ x, foldedSetIterable e X.env x = pure x := by intro _; rfl) : PSD C X (.For tg e body [] pos) γ E := by
  have hbb : PSs X body (fun Dn σ H => ∃ (i : Nat) (d : D) (γ' γ2 : DSt), xs[i]? = some d ∧ Pv i γ' ∧ tgt d γ' = some γ2 ∧ cS X.K C γ2 { nx := Pv (i + 1), rt := E.rt, bk := E.nx, ct := Pv (i + 1) } Dn σ H) := ⟨fun pins s σ H Dn I q => by
    obtain ⟨i, d, γ', γ2, q1, q2, q3, q⟩ := q
    obtain ⟨γ3, e3, hb'⟩ := hb i d γ' q1 q2
    rw [q3] at e3
    cases e3
    exact hb'.run pins s σ H Dn I q⟩
  refine PS.weak (ps_for hp hc hi hg hbb hs) fun Dn σ H ⟨G, s, sl, kn, kr, kb, kc⟩ => ⟨G, s, sl, fun J G1 H1 n1 wk => ?_⟩
  refine ⟨fun i m σ' H' => m = xs.length - i ∧ i ≤ xs.length ∧ ∃ G' γ', Nx G1 H1 G' H' ∧ Sl X.K C G' σ' γ' ∧ Pv i γ', ⟨_, rfl, Nat.zero_le _, G1, γ, Nx.refl n1.s, sl.mono n1.g, h0⟩, ?_⟩
  rintro i m σ' H' ⟨rfl, hi', G', γ', n', sl', pv'⟩
  by_cases hlt : i < xs.length
  · refine .inr ⟨wk.goes i H' hlt (n'.g.trans n'.s), fun σ2 H2 => i + 1 ≤ xs.length ∧ ∃ G2 γ2, Nx G1 H1 G2 H2 ∧ Sl X.K C G2 σ2 γ2 ∧ Pv (i + 1) γ2, fun σ2 H2 ⟨hl, G2, γ2, a, b, c⟩ => ⟨xs.length - (i + 1), by omega, rfl, hl, G2, γ2, a, b, c⟩, fun x H2 y => ?_⟩
    obtain ⟨d, G2, hd2, n2, a2⟩ := wk.yields i H' x H2 G' hlt n'.g n'.s y
    obtain ⟨γ2, e2, _⟩ := hb i d γ' hd2 pv'
    refine ⟨G2, γ', d, γ2, n2.s, sl'.mono n2.g, a2, e2, fun σ2 sl2 _ => ⟨i, d, γ', γ2, hd2, pv', e2, G2, n2.s, sl2, ?_, ?_, ?_, ?_⟩⟩
    · exact fun σ3 γ3 G3 H3 n3 sl3 p3 => ⟨hlt, G3, γ3, (n'.trans n2).trans n3, sl3, p3⟩
    · exact fun d v G3 H3 n3 a3 r => kr d v G3 H3 (((n1.trans n').trans n2).trans n3) a3 r
    · exact fun σ3 γ3 G3 H3 n3 sl3 p3 => kn σ3 γ3 G3 H3 (((n1.trans n').trans n2).trans n3) sl3 p3
    · exact fun σ3 γ3 G3 H3 n3 sl3 p3 => ⟨hlt, G3, γ3, (n'.trans n2).trans n3, sl3, p3⟩
  · have ei : i = xs.length := by omega
    subst ei
    exact .inl ⟨wk.stops H' (n'.g.trans n'.s), kn _ _ G' H' (n1.trans n') sl' (hd γ' pv')⟩
/-! ### while -/
theorem s_while (hp : PassesOwn (model X.prog X.w) X.A X.env X.xe) (W : Nat → DSt → Prop) (m0 : Nat) (h0 : W m0 γ) (f : DSt → Bool) (hc : ∀ m γ', W m γ' → PTD C X c γ' (f γ'))
    (hb : ∀ m γ', W m γ' → f γ' = true → PSsD C X body γ' { nx := fun γ2 => ∃ m', m' < m ∧ W m' γ2, rt := E.rt, bk := E.nx, ct := fun γ2 => ∃ m', m' < m ∧ W m' γ2 }) (hd : ∀ m γ', W m γ' → f γ' = false → E.nx γ') : PSD C X (.While c body [] pos) γ E := by
  have hcc : PT X c (fun σ H Q => ∃ (m : Nat) (γ' : DSt), W m γ' ∧ cT X.K C γ' (f γ') σ H Q) := ⟨fun pins s σ H Q I q => by
    obtain ⟨m, γ', q1, q⟩ := q
    exact (hc m γ' q1).run pins s σ H Q I q⟩
  have hbb : PSs X body (fun Dn σ H => ∃ (m : Nat) (γ' : DSt), W m γ' ∧ f γ' = true ∧ cS X.K C γ' { nx := fun γ2 => ∃ m', m' < m ∧ W m' γ2, rt := E.rt, bk := E.nx, ct := fun γ2 => ∃ m', m' < m ∧ W m' γ2 } Dn σ H) := ⟨fun pins s σ H Dn I q => by
    obtain ⟨m, γ', q1, q2, q⟩ := q
    exact (hb m γ' q1 q2).run pins s σ H Dn I q⟩
  refine PS.weak (ps_while hp hcc hbb) fun Dn σ H ⟨G, s, sl, kn, kr, kb, kc⟩ => ?_
  refine ⟨fun m σ' H' => ∃ G' γ', Nx G H G' H' ∧ Sl X.K C G' σ' γ' ∧ W m γ', ⟨m0, G, γ, Nx.refl s, sl, h0⟩, ?_⟩
  rintro m σ' H' ⟨G', γ', n', sl', w'⟩
  refine ⟨m, γ', w', G', n'.s, sl', fun G2 H2 n2 => ?_⟩
  cases hf : f γ' with
  | true =>
    refine iteT ⟨fun σ3 H3 => ∃ m', m' < m ∧ ∃ G3 γ3, Nx G H G3 H3 ∧ Sl X.K C G3 σ3 γ3 ∧ W m' γ3, fun σ3 H3 ⟨m', hm, q⟩ => ⟨m', hm, q⟩, m, γ', w', hf, G2, n2.s, sl'.mono n2.g, ?_, ?_, ?_, ?_⟩
    · exact fun σ3 γ3 G3 H3 n3 sl3 ⟨m', hm, p3⟩ => ⟨m', hm, G3, γ3, (n'.trans n2).trans n3, sl3, p3⟩
    · exact fun d v G3 H3 n3 a3 r => kr d v G3 H3 ((n'.trans n2).trans n3) a3 r
    · exact fun σ3 γ3 G3 H3 n3 sl3 p3 => kn σ3 γ3 G3 H3 ((n'.trans n2).trans n3) sl3 p3
    · exact fun σ3 γ3 G3 H3 n3 sl3 ⟨m', hm, p3⟩ => ⟨m', hm, G3, γ3, (n'.trans n2).trans n3, sl3, p3⟩
  | false => exact iteF (kn _ _ G2 H2 (n'.trans n2) (sl'.mono n2.g) (hd m γ' w' hf))
end
end Kp

/-! # The data layer: comprehensions -/
namespace Kp
open PySem PySem.Spec PyProof.Rows L2
theorem wipe_set_in {σ : L2.St} {vs : List Nat} {v : Nat} (h : v ∈ vs) : (wipe σ vs).set v Option.none = wipe σ vs := by
  induction vs with
  | nil => cases h
  | cons u vs ih =>
    show ((wipe σ vs).set u Option.none).set v Option.none = (wipe σ vs).set u Option.none
    by_cases e : u = v
    · subst e
      rw [List.set_set]
    · rcases List.mem_cons.mp h with h | h
      · exact absurd h.symm e
      · rw [List.set_comm _ _ e, ih h]
theorem wipe_sub {σ : L2.St} {vs : List Nat} : ∀ {us : List Nat}, (∀ u ∈ us, u ∈ vs) → wipe (wipe σ vs) us = wipe σ vs
  | [], _ => rfl
  | u :: us, h => by
    show (wipe (wipe σ vs) us).set u Option.none = wipe σ vs
    rw [wipe_sub fun x hx => h x (List.mem_cons_of_mem _ hx), wipe_set_in (h u (List.mem_cons_self ..))]
theorem wipe_idem {σ : L2.St} {vs : List Nat} : wipe (wipe σ vs) vs = wipe σ vs := wipe_sub fun _ h => h
theorem take_succ' {α : Type} {xs : List α} {i : Nat} {d : α} (h : xs[i]? = some d) : xs.take (i + 1) = xs.take i ++ [d] := by
  rw [List.take_add_one, h] <;> rfl
/-- within a comprehension: from (G, H), the list that is made at L holds acc so far -/
structure Acc (K : PySem.W.Frag) (C : Addr) (G H : Hp) (L : Addr) (acc : List D) (G' H' : Hp) : Prop where
  g : Same G G'
  h : Same H H'
  s : Same G' H'
  n : ∀ b, G b = Option.none → H b ≠ Option.none → G' b = Option.none
  ln : G' L = Option.none
  at_ : ∃ vs, H' L = some (.lst vs) ∧ AtL K C G' acc vs
section
variable {K : PySem.W.Frag} {C L : Addr} {G H G' H' : Hp} {acc : List D}
theorem Acc.start (s : Same G H) (hL : H L = Option.none) : Acc K C G H L [] G (upd H L (.lst [])) :=
  ⟨Same.refl _, Same.new hL, s.trans (Same.new hL), fun _ h _ => h, s.free hL, [], upd_same, .nil⟩
theorem Acc.step {G2 H2 : Hp} (a : Acc K C G H L acc G' H') (n : Nx G' H' G2 H2) : Acc K C G H L acc G2 H2 := by
  obtain ⟨vs, h1, h2⟩ := a.at_
  exact ⟨a.g.trans n.g, a.h.trans n.h, n.s, fun b h3 h4 => n.n b (a.n b h3 h4) fun z => h4 (a.h.free z), n.n L a.ln (by rw [h1]; intro z; cases z), vs, n.h _ _ h1, h2.mono n.g⟩
theorem Acc.push (a : Acc K C G H L acc G' H') (hL : H L = Option.none) {d : D} {y : V} (h : At K C G' d y) : ∃ vs, H' L = some (.lst vs) ∧ vs.length = acc.length ∧ Acc K C G H L (acc ++ [d]) G' (upd H' L (.lst (vs ++ [y]))) := by
  obtain ⟨vs, h1, h2⟩ := a.at_
  refine ⟨vs, h1, h2.len, a.g, fun b u e => ?_, fun b u e => ?_, a.n, a.ln, _, upd_same, h2.snoc h⟩
  · rw [upd_ne (ne_of_none e hL)]
    exact a.h b u e
  · rw [upd_ne (ne_of_none e a.ln)]
    exact a.s b u e
theorem Acc.done (a : Acc K C G H L acc G' H') (hL : H L = Option.none) : ∃ G2, Nx G H G2 H' ∧ At K C G2 (.lst acc) (.ref L) := by
  obtain ⟨vs, h1, h2⟩ := a.at_
  refine ⟨upd G' L (.lst vs), ⟨a.g.trans (Same.new a.ln), a.h, fun b u e => ?_, fun b h3 h4 => ?_⟩, At.lst upd_same (h2.mono (Same.new a.ln))⟩
  · by_cases hb : b = L
    · subst hb
      rw [upd_same] at e
      cases e
      exact h1
    · rw [upd_ne hb] at e
      exact a.s b u e
  · rw [upd_ne fun z => h4 (by rw [z]; exact hL)]
    exact a.n b h3 h4
end
section
variable {ι : Type} {C : Addr} {X : Cx} {tg e elt iter : Expr} {ifs : List Expr} {γ : DSt} {ys : List ι} {mk : ι → D} {d : D} {pos p : Pos} {scope : Scope} {own : List (Str × Nat)} {tgt : D → DSt → Option DSt}
theorem ts_nil : PTsD C X [] γ true := PTs.weak pts_nil fun σ H Q ⟨G, s, sl, k⟩ => k G H (Nx.refl s)
theorem ts_one {c : Expr} {b : Bool} (h : PTD C X c γ b) : PTsD C X [c] γ b := pts_one h
/-- a comprehension's block -/
abbrev Blk (X : Cx) (scope : Scope) : Shared → Hp → Addr → List (Str × Addr) → List Addr → Cx := fun s H Ca cl fp => X.blk s H scope (compEnvC scope cl Ca X.env) fp
def rT (K : PySem.W.Frag) (C : Addr) (ys : List ι) (γs : ι → DSt) (f : ι → Bool) : TT := fun σ H Q => ∃ d, d ∈ ys ∧ cT K C (γs d) (f d) σ H Q
def rE (K : PySem.W.Frag) (C : Addr) (ys : List ι) (γs : ι → DSt) (f : ι → Bool) (g : ι → D) : TE := fun σ H Q => ∃ d, d ∈ ys ∧ f d = true ∧ cE K C (γs d) (g d) σ H Q
theorem lc_readW {K : PySem.W.Frag} {vs : List Nat} {γs : ι → DSt} {f : ι → Bool} {g : ι → D} {wi : TI} {G H : Hp} {σ : L2.St} {Q : VK} (hw : ∀ R : It → Hp → Prop, (∀ J G1 H1, Nx G H G1 H1 → WkD K C J G1 (ys.map mk) → R J H1) → wi σ H R) (hl : ys.length ≤ 10000) (htg : ∀ d ∈ ys, tgt (mk d) (dwipe γ vs) = some (γs d))
    (s : Same G H) (sl : Sl K C G σ γ) (k : ∀ v G' H', Nx G H G' H' → At K C G' (.lst ((ys.filter f).map g)) v → Q v H') : tLc wi (cG K C vs tgt) (rT K C ys γs f) (rE K C ys γs f g) vs σ H Q := by
  refine hw _ fun J G1 H1 n1 wk L hL => ?_
  have lm : (ys.map mk).length = ys.length := List.length_map ..
  refine ⟨fun i m H' => m = ys.length - i ∧ i ≤ ys.length ∧ ∃ G', Acc K C G1 H1 L (((ys.take i).filter f).map g) G' H', ⟨_, rfl, Nat.zero_le _, G1, by simp only [List.take_zero]; exact Acc.start n1.s hL⟩, ?_⟩
  rintro i m H' ⟨rfl, hi, G', a⟩
  by_cases hlt : i < ys.length
  · refine .inr ⟨wk.goes i H' (by rw [lm]; exact hlt) (a.g.trans a.s), fun H2 => i + 1 ≤ ys.length ∧ ∃ G2, Acc K C G1 H1 L (((ys.take (i + 1)).filter f).map g) G2 H2, fun H2 ⟨q1, q2⟩ => ⟨ys.length - (i + 1), by omega, rfl, q1, q2⟩, fun x H2 y => ?_⟩
    obtain ⟨d0, G2, hd0, n2, a2⟩ := wk.yields i H' x H2 G' (by rw [lm]; exact hlt) a.g a.s y
    rw [List.getElem?_map] at hd0
    obtain ⟨d, hd, e0⟩ := Option.map_eq_some_iff.mp hd0
    subst e0
    have hm : d ∈ ys := List.mem_of_getElem? hd
    have b := a.step n2
    refine ⟨G2, _, mk d, _, n2.s, ((sl.mono n1.g).mono b.g).wipe vs, a2, htg d hm, fun σ2 sl2 hw => ⟨hw.trans wipe_idem, d, hm, G2, n2.s, sl2, fun G3 H3 n3 => ?_⟩⟩
    have c := b.step n3
    rw [take_succ' hd, List.filter_append]
    cases hf : f d with
    | true =>
      refine iteT ⟨d, hm, hf, G3, n3.s, sl2.mono n3.g, fun v G4 H4 n4 a4 => ?_⟩
      obtain ⟨us, h1, h2, h3⟩ := (c.step n4).push hL a4
      refine ⟨us, h1, ?_, hlt, G4, ?_⟩
      · rw [h2, List.length_map]
        have := List.length_filter_le f (ys.take i)
        rw [List.length_take] at this
        have e : (10000 : Nat) < sizeLine := by decide
        omega
      · simp only [List.filter_cons, hf, List.filter_nil, List.map_append, List.map_cons, List.map_nil]
        exact h3
    | false =>
      refine iteF ⟨hlt, G3, ?_⟩
      simp only [List.filter_cons, hf, List.filter_nil, List.append_nil, Bool.false_eq_true, ↓reduceIte]
      exact c
  · have ei : i = ys.length := by omega
    subst ei
    refine .inl ⟨by have z := wk.stops H' (a.g.trans a.s); rw [lm] at z; exact z, ?_⟩
    rw [List.take_length] at a
    obtain ⟨G2, n2, a2⟩ := a.done hL
    exact k _ G2 H' (n1.trans n2) a2
theorem lc_read {K : PySem.W.Frag} {vs : List Nat} {γs : ι → DSt} {f : ι → Bool} {g : ι → D} (hl : ys.length ≤ 10000) (htg : ∀ d ∈ ys, tgt (mk d) (dwipe γ vs) = some (γs d)) {σ : L2.St} {H : Hp} {Q : VK} (h : cE K C γ (.lst ((ys.filter f).map g)) σ H Q) :
    tLc (cI K C γ (ys.map mk)) (cG K C vs tgt) (rT K C ys γs f) (rE K C ys γs f g) vs σ H Q := by
  obtain ⟨G, s, sl, k⟩ := h
  exact lc_readW (fun R hR => ⟨G, s, sl, hR⟩) hl htg s sl k
theorem d_lc (own : List (Str × Nat)) (ys : List ι) (mk : ι → D) (γs : ι → DSt) (f : ι → Bool) (g : ι → D) (hc : X.calm = true) (hN : X.N.Nodup) (hi : PID C X tg iter γ (ys.map mk)) (ok : BlkOk X.N X.env.scope scope own) (hg : ∀ s H Ca cl fp, PGD C (Blk X scope s H Ca cl fp) tg (own.map (·.2)) tgt)
    (htg : ∀ d ∈ ys, tgt (mk d) (dwipe γ (own.map (·.2))) = some (γs d)) (ht : ∀ d ∈ ys, ∀ s H Ca cl fp, PTsD C (Blk X scope s H Ca cl fp) ifs (γs d) (f d)) (he : ∀ d ∈ ys, f d = true → ∀ s H Ca cl fp, PD C (Blk X scope s H Ca cl fp) elt (γs d) (g d)) (hl : ys.length ≤ 10000)
    (hs : ∀ x, foldedSetIterable iter X.env x = pure x := by intro _; rfl) : PD C X (.ListComp elt [⟨tg, iter, ifs, 0⟩] scope pos) γ (.lst ((ys.filter f).map g)) := by
  refine PE.weak (pe_lc (own := own) (g := cG X.K C (own.map fun (q : Str × Nat) => q.2) tgt) hc hN hi ok hg (tt := rT X.K C ys γs f) (te := rE X.K C ys γs f g) (fun s H Ca cl fp => ⟨fun pins s1 σ H1 Q I q => ?_⟩) (fun s H Ca cl fp => ⟨fun pins s1 σ H1 Q I q => ?_⟩) hs) fun σ H Q h => lc_read hl htg h
  · obtain ⟨d, q1, q⟩ := q
    exact (ht d q1 s H Ca cl fp).run pins s1 σ H1 Q I q
  · obtain ⟨d, q1, q2, q⟩ := q
    exact (he d q1 q2 s H Ca cl fp).run pins s1 σ H1 Q I q
theorem filter_tt (ys : List ι) : ys.filter (fun _ => true) = ys := List.filter_eq_self.mpr fun _ _ => rfl
/-- .. one name x, slot j -/
theorem d_lc1 (x : Str) (j : Nat) (ys : List ι) (mk : ι → D) (f : ι → Bool) (g : ι → D) {p2 : Pos} (hc : X.calm = true) (hN : X.N.Nodup) (hi : PID C X (.Name x p2) iter γ (ys.map mk)) (ok : BlkOk X.N X.env.scope scope [(x, j)])
    (ht : ∀ d ∈ ys, ∀ s H Ca cl fp, PTsD C (Blk X scope s H Ca cl fp) ifs ((dwipe γ [j]).set j (some (mk d))) (f d)) (he : ∀ d ∈ ys, f d = true → ∀ s H Ca cl fp, PD C (Blk X scope s H Ca cl fp) elt ((dwipe γ [j]).set j (some (mk d))) (g d)) (hl : ys.length ≤ 10000)
    (hj : X.N[j]? = some x := by rfl) (hx : Loc (relabel scope X.env) x := by first | exact Or.inl rfl | exact Or.inr rfl) (hf : (scope.names.lookup x == some .cell) = true ∨ (relabel scope X.env).names.lookup x = some .local := by first | exact .inr rfl | exact .inl rfl) (hs : ∀ x, foldedSetIterable iter X.env x = pure x := by intro _; rfl) :
    PD C X (.ListComp elt [⟨.Name x p2, iter, ifs, 0⟩] scope pos) γ (.lst ((ys.filter f).map g)) :=
  d_lc [(x, j)] ys mk (fun d => (dwipe γ [j]).set j (some (mk d))) f g hc hN hi ok (fun s H Ca cl fp => g_name j hN hj hx hf) (fun d _ => rfl) ht he hl hs
theorem d_lc0 (x : Str) (j : Nat) (ys : List ι) (mk : ι → D) (g : ι → D) {p2 : Pos} (hc : X.calm = true) (hN : X.N.Nodup) (hi : PID C X (.Name x p2) iter γ (ys.map mk)) (ok : BlkOk X.N X.env.scope scope [(x, j)])
    (he : ∀ d ∈ ys, ∀ s H Ca cl fp, PD C (Blk X scope s H Ca cl fp) elt ((dwipe γ [j]).set j (some (mk d))) (g d)) (hl : ys.length ≤ 10000)
    (hj : X.N[j]? = some x := by rfl) (hx : Loc (relabel scope X.env) x := by first | exact Or.inl rfl | exact Or.inr rfl) (hf : (scope.names.lookup x == some .cell) = true ∨ (relabel scope X.env).names.lookup x = some .local := by first | exact .inr rfl | exact .inl rfl) (hs : ∀ x, foldedSetIterable iter X.env x = pure x := by intro _; rfl) :
    PD C X (.ListComp elt [⟨.Name x p2, iter, [], 0⟩] scope pos) γ (.lst (ys.map g)) := by
  have z := d_lc1 (pos := pos) x j ys mk (fun _ => true) g hc hN hi ok (fun d _ s H Ca cl fp => ts_nil) (fun d hd _ => he d hd) hl hj hx hf hs
  rw [filter_tt] at z
  exact z
theorem s_setLc (i : Nat) {y : Str} {py spos : Pos} {E : DE} (own : List (Str × Nat)) (ys : List ι) (mk : ι → D) (γs : ι → DSt) (f : ι → Bool) (g : ι → D) (hc : X.calm = true) (hN : X.N.Nodup) (hi : PID C X tg iter γ (ys.map mk)) (ok : BlkOk X.N X.env.scope scope own) (hg : ∀ s H Ca cl fp, PGD C (Blk X scope s H Ca cl fp) tg (own.map (·.2)) tgt)
    (htg : ∀ d ∈ ys, tgt (mk d) (dwipe γ (own.map (·.2))) = some (γs d)) (ht : ∀ d ∈ ys, ∀ s H Ca cl fp, PTsD C (Blk X scope s H Ca cl fp) ifs (γs d) (f d)) (he : ∀ d ∈ ys, f d = true → ∀ s H Ca cl fp, PD C (Blk X scope s H Ca cl fp) elt (γs d) (g d)) (hl : ys.length ≤ 10000)
    (k : E.nx (γ.set i (some (.lst ((ys.filter f).map g))))) (hsw : swapsWith (.ListComp elt [⟨tg, iter, ifs, 0⟩] scope pos) (some (.Name y py)) spos.line X.env = pure true) (hy : X.N[i]? = some y := by rfl) (hyl : X.env.scope.names.lookup y = some .local := by rfl)
    (hs : ∀ x, foldedSetIterable iter X.env x = pure x := by intro _; rfl) : PSD C X (.Assign [.Name y py] (.ListComp elt [⟨tg, iter, ifs, 0⟩] scope pos) spos) γ E := by
  refine PS.weak (ps_setLc (own := own) (g := cG X.K C (own.map fun (q : Str × Nat) => q.2) tgt) hc hN hy hyl hsw hi ok hg (tt := rT X.K C ys γs f) (te := rE X.K C ys γs f g) (fun s H Ca cl fp => ⟨fun pins s1 σ H1 Q I q => ?_⟩) (fun s H Ca cl fp => ⟨fun pins s1 σ H1 Q I q => ?_⟩) hs) fun Dn σ H ⟨G, s, sl, kn, _⟩ => ?_
  · obtain ⟨d, q1, q⟩ := q
    exact (ht d q1 s H Ca cl fp).run pins s1 σ H1 Q I q
  · obtain ⟨d, q1, q2, q⟩ := q
    exact (he d q1 q2 s H Ca cl fp).run pins s1 σ H1 Q I q
  · exact lc_read hl htg ⟨G, s, sl, fun v G1 H1 n1 a1 => kn _ _ G1 H1 n1 ((sl.mono n1.g).set a1) k⟩
theorem s_setLc1 (i : Nat) {y : Str} {py spos : Pos} {E : DE} (x : Str) (j : Nat) (ys : List ι) (mk : ι → D) (f : ι → Bool) (g : ι → D) {p2 : Pos} (hc : X.calm = true) (hN : X.N.Nodup) (hi : PID C X (.Name x p2) iter γ (ys.map mk)) (ok : BlkOk X.N X.env.scope scope [(x, j)])
    (ht : ∀ d ∈ ys, ∀ s H Ca cl fp, PTsD C (Blk X scope s H Ca cl fp) ifs ((dwipe γ [j]).set j (some (mk d))) (f d)) (he : ∀ d ∈ ys, f d = true → ∀ s H Ca cl fp, PD C (Blk X scope s H Ca cl fp) elt ((dwipe γ [j]).set j (some (mk d))) (g d)) (hl : ys.length ≤ 10000)
    (k : E.nx (γ.set i (some (.lst ((ys.filter f).map g))))) (hsw : swapsWith (.ListComp elt [⟨.Name x p2, iter, ifs, 0⟩] scope pos) (some (.Name y py)) spos.line X.env = pure true) (hj : X.N[j]? = some x := by rfl) (hx : Loc (relabel scope X.env) x := by first | exact Or.inl rfl | exact Or.inr rfl) (hf : (scope.names.lookup x == some .cell) = true ∨ (relabel scope X.env).names.lookup x = some .local := by first | exact .inr rfl | exact .inl rfl)
    (hy : X.N[i]? = some y := by rfl) (hyl : X.env.scope.names.lookup y = some .local := by rfl) (hs : ∀ x, foldedSetIterable iter X.env x = pure x := by intro _; rfl) : PSD C X (.Assign [.Name y py] (.ListComp elt [⟨.Name x p2, iter, ifs, 0⟩] scope pos) spos) γ E :=
  s_setLc i [(x, j)] ys mk (fun d => (dwipe γ [j]).set j (some (mk d))) f g hc hN hi ok (fun s H Ca cl fp => g_name j hN hj hx hf) (fun d _ => rfl) ht he hl k hsw hy hyl hs
end
end Kp

/-! # a comprehension of two clauses -/
namespace Kp
open PySem PySem.Spec PyProof.Rows L2
theorem flat_len {ι κ : Type} {f : ι → List κ} : ∀ {l : List ι}, (∀ d ∈ l, (f d).length ≤ 100) → (l.flatMap f).length ≤ 100 * l.length
  | [], _ => by simp
  | d :: l, h => by
    have := flat_len (f := f) (l := l) fun x hx => h x (List.mem_cons_of_mem _ hx)
    have h2 := h d (List.mem_cons_self ..)
    simp only [List.flatMap_cons, List.length_append, List.length_cons]
    omega
section
variable {ι κ : Type} {C : Addr} {X : Cx} {elt iter iter1 : Expr} {γ : DSt} {ys : List ι} {zs : ι → List κ} {mk : ι → D} {mk1 : κ → D} {g : ι → κ → D} {pos p : Pos} {scope : Scope}
def rT2 (K : PySem.W.Frag) (C : Addr) (ys : List ι) (γs : ι → DSt) : TT := fun σ H Q => ∃ d, d ∈ ys ∧ cT K C (γs d) true σ H Q
def rI2 (K : PySem.W.Frag) (C : Addr) (ys : List ι) (γs : ι → DSt) (zs : ι → List κ) (mk1 : κ → D) : TI := fun σ H R => ∃ d, d ∈ ys ∧ cI K C (γs d) ((zs d).map mk1) σ H R
def rT3 (K : PySem.W.Frag) (C : Addr) (ys : List ι) (zs : ι → List κ) (γt : ι → κ → DSt) : TT := fun σ H Q => ∃ d e, d ∈ ys ∧ e ∈ zs d ∧ cT K C (γt d e) true σ H Q
def rE2 (K : PySem.W.Frag) (C : Addr) (ys : List ι) (zs : ι → List κ) (γt : ι → κ → DSt) (g : ι → κ → D) : TE := fun σ H Q => ∃ d e, d ∈ ys ∧ e ∈ zs d ∧ cE K C (γt d e) (g d e) σ H Q
theorem lc2_read {K : PySem.W.Frag} {j1 j2 : Nat} (hl : ys.length ≤ 100) (hz : ∀ d ∈ ys, (zs d).length ≤ 100) {σ : L2.St} {H : Hp} {Q : VK} (h : cE K C γ (.lst (ys.flatMap fun y => (zs y).map (g y))) σ H Q) :
    tLc2 (cI K C γ (ys.map mk)) (cG K C [j1] (tg1 j1)) (rT2 K C ys fun d => (dwipe γ [j1, j2]).set j1 (some (mk d))) (rI2 K C ys (fun d => (dwipe γ [j1, j2]).set j1 (some (mk d))) zs mk1) (cG K C [j2] (tg1 j2))
      (rT3 K C ys zs fun d e => (dwipe ((dwipe γ [j1, j2]).set j1 (some (mk d))) [j2]).set j2 (some (mk1 e))) (rE2 K C ys zs (fun d e => (dwipe ((dwipe γ [j1, j2]).set j1 (some (mk d))) [j2]).set j2 (some (mk1 e))) g) [j1, j2] [j2] σ H Q := by
  obtain ⟨G, s, sl, k⟩ := h
  refine ⟨G, s, sl, fun J G1 H1 n1 wk L hL => ?_⟩
  have lm : (ys.map mk).length = ys.length := List.length_map ..
  refine ⟨fun i m H' => m = ys.length - i ∧ i ≤ ys.length ∧ ∃ G', Acc K C G1 H1 L ((ys.take i).flatMap fun y => (zs y).map (g y)) G' H', ⟨_, rfl, Nat.zero_le _, G1, by simp only [List.take_zero]; exact Acc.start n1.s hL⟩, ?_⟩
  rintro i m H' ⟨rfl, hi, G', a⟩
  by_cases hlt : i < ys.length
  · refine .inr ⟨wk.goes i H' (by rw [lm]; exact hlt) (a.g.trans a.s), fun H2 => i + 1 ≤ ys.length ∧ ∃ G2, Acc K C G1 H1 L ((ys.take (i + 1)).flatMap fun y => (zs y).map (g y)) G2 H2, fun H2 ⟨q1, q2⟩ => ⟨ys.length - (i + 1), by omega, rfl, q1, q2⟩, fun x H2 y => ?_⟩
    obtain ⟨d0, G2, hd0, n2, a2⟩ := wk.yields i H' x H2 G' (by rw [lm]; exact hlt) a.g a.s y
    rw [List.getElem?_map] at hd0
    obtain ⟨d, hd, e0⟩ := Option.map_eq_some_iff.mp hd0
    subst e0
    have hm : d ∈ ys := List.mem_of_getElem? hd
    have b := a.step n2
    have rlen : ((ys.take i).flatMap fun y => (zs y).map (g y)).length ≤ 10000 := by
      have := flat_len (f := fun y => (zs y).map (g y)) (l := ys.take i) fun d hd => by rw [List.length_map]; exact hz d (List.mem_of_mem_take hd)
      rw [List.length_take] at this
      omega
    refine ⟨G2, _, mk d, _, n2.s, ((sl.mono n1.g).mono b.g).wipe [j1, j2], a2, rfl, fun σ2 sl2 hw => ⟨?_, d, hm, G2, n2.s, sl2, fun G3 H3 n3 => iteT ⟨d, hm, G3, n3.s, sl2.mono n3.g, fun J1 G4 H4 n4 wk1 => ?_⟩⟩⟩
    · have e1 := congrArg (fun τ => wipe τ [j2]) hw
      have e2 : wipe (wipe σ2 [j1]) [j2] = wipe σ2 [j1, j2] := by
        show ((σ2.set j1 _).set j2 _) = ((σ2.set j2 _).set j1 _)
        by_cases e : j1 = j2
        · rw [e]
        · exact List.set_comm _ _ e
      have e3 : wipe (wipe (wipe σ [j1, j2]) [j1]) [j2] = wipe σ [j1, j2] := by
        rw [wipe_sub (us := [j1]) (vs := [j1, j2]) (by simp), wipe_sub (us := [j2]) (vs := [j1, j2]) (by simp)]
      rw [← e2]
      exact e1.trans e3
    have c := (b.step n3).step n4
    have lz : ((zs d).map mk1).length = (zs d).length := List.length_map ..
    refine ⟨fun j k H5 => k = (zs d).length - j ∧ j ≤ (zs d).length ∧ ∃ G5, Same G4 G5 ∧ Acc K C G1 H1 L (((ys.take i).flatMap fun y => (zs y).map (g y)) ++ ((zs d).take j).map (g d)) G5 H5, ⟨_, rfl, Nat.zero_le _, G4, Same.refl _, by simp only [List.take_zero, List.map_nil, List.append_nil]; exact c⟩, ?_⟩
    rintro j k5 H5 ⟨rfl, hj, G5, s5, a5⟩
    by_cases hlj : j < (zs d).length
    · refine .inr ⟨wk1.goes j H5 (by rw [lz]; exact hlj) (s5.trans a5.s), fun H6 => j + 1 ≤ (zs d).length ∧ ∃ G6, Same G4 G6 ∧ Acc K C G1 H1 L (((ys.take i).flatMap fun y => (zs y).map (g y)) ++ ((zs d).take (j + 1)).map (g d)) G6 H6, fun H6 ⟨q1, q2⟩ => ⟨(zs d).length - (j + 1), by omega, rfl, q1, q2⟩, fun x6 H6 y6 => ?_⟩
      obtain ⟨d1, G6, hd1, n6, a6⟩ := wk1.yields j H5 x6 H6 G5 (by rw [lz]; exact hlj) s5 a5.s y6
      rw [List.getElem?_map] at hd1
      obtain ⟨e, he, e1⟩ := Option.map_eq_some_iff.mp hd1
      subst e1
      have hme : e ∈ zs d := List.mem_of_getElem? he
      have b6 := a5.step n6
      refine ⟨G6, _, mk1 e, _, n6.s, (((sl2.mono n3.g).mono n4.g).mono (s5.trans n6.g)).wipe [j2], a6, rfl, fun σ7 sl7 hw7 => ⟨hw7.trans wipe_idem, d, e, hm, hme, G6, n6.s, sl7, fun G7 H7 n7 => iteT ⟨d, e, hm, hme, G7, n7.s, sl7.mono n7.g, fun v G8 H8 n8 a8 => ?_⟩⟩⟩
      obtain ⟨us, h1, h2, h3⟩ := ((b6.step n7).step n8).push hL a8
      refine ⟨us, h1, ?_, hlj, G8, ((s5.trans n6.g).trans n7.g).trans n8.g, ?_⟩
      · rw [h2, List.length_append, List.length_map, List.length_take]
        have e : (20000 : Nat) < sizeLine := by decide
        have := hz d hm
        omega
      · rw [take_succ' he, List.map_append, ← List.append_assoc]
        exact h3
    · have ej : j = (zs d).length := by omega
      subst ej
      refine .inl ⟨by have z := wk1.stops H5 (s5.trans a5.s); rw [lz] at z; exact z, hlt, G5, ?_⟩
      rw [List.take_length] at a5
      rw [take_succ' hd, List.flatMap_append]
      simpa using a5
  · have ei : i = ys.length := by omega
    subst ei
    refine .inl ⟨by have z := wk.stops H' (a.g.trans a.s); rw [lm] at z; exact z, ?_⟩
    rw [List.take_length] at a
    obtain ⟨G2, n2, a2⟩ := a.done hL
    exact k _ G2 H' (n1.trans n2) a2
theorem s_setLc2 (i : Nat) {y : Str} {py spos : Pos} {E : DE} (x1 x2 : Str) (j1 j2 : Nat) (ys : List ι) (zs : ι → List κ) (mk : ι → D) (mk1 : κ → D) (g : ι → κ → D) {p1 p2 : Pos} (hc : X.calm = true) (hN : X.N.Nodup) (hi : PID C X (.Name x1 p1) iter γ (ys.map mk)) (ok : BlkOk X.N X.env.scope scope [(x1, j1), (x2, j2)])
    (hi1 : ∀ d ∈ ys, ∀ s H Ca cl fp, PID C (Blk X scope s H Ca cl fp) (.Name x2 p2) iter1 ((dwipe γ [j1, j2]).set j1 (some (mk d))) ((zs d).map mk1))
    (he : ∀ d ∈ ys, ∀ e ∈ zs d, ∀ s H Ca cl fp, PD C (Blk X scope s H Ca cl fp) elt ((dwipe ((dwipe γ [j1, j2]).set j1 (some (mk d))) [j2]).set j2 (some (mk1 e))) (g d e)) (hl : ys.length ≤ 100) (hz : ∀ d ∈ ys, (zs d).length ≤ 100)
    (k : E.nx (γ.set i (some (.lst (ys.flatMap fun y => (zs y).map (g y)))))) (hsw : swapsWith (.ListComp elt [⟨.Name x1 p1, iter, [], 0⟩, ⟨.Name x2 p2, iter1, [], 0⟩] scope pos) (some (.Name y py)) spos.line X.env = pure true) (hj1 : X.N[j1]? = some x1 := by rfl) (hj2 : X.N[j2]? = some x2 := by rfl)
    (hx1 : Loc (relabel scope X.env) x1 := by first | exact Or.inl rfl | exact Or.inr rfl) (hf1 : (scope.names.lookup x1 == some .cell) = true ∨ (relabel scope X.env).names.lookup x1 = some .local := by first | exact .inr rfl | exact .inl rfl)
    (hx2 : Loc (relabel scope X.env) x2 := by first | exact Or.inl rfl | exact Or.inr rfl) (hf2 : (scope.names.lookup x2 == some .cell) = true ∨ (relabel scope X.env).names.lookup x2 = some .local := by first | exact .inr rfl | exact .inl rfl)
    (hy : X.N[i]? = some y := by rfl) (hyl : X.env.scope.names.lookup y = some .local := by rfl) (hs : ∀ x, foldedSetIterable iter X.env x = pure x := by intro _; rfl) (hs1 : ∀ env x, foldedSetIterable iter1 env x = pure x := by intro _ _; rfl) :
    PSD C X (.Assign [.Name y py] (.ListComp elt [⟨.Name x1 p1, iter, [], 0⟩, ⟨.Name x2 p2, iter1, [], 0⟩] scope pos) spos) γ E := by
  refine PS.weak (ps_setLc2 (g := cG X.K C [j1] (tg1 j1)) (g1 := cG X.K C [j2] (tg1 j2)) (own := [(x1, j1), (x2, j2)]) (vs1 := [j2]) hc hN hy hyl hsw hi ok (by simp) (fun s H Ca cl fp => g_name (C := C) (X := Blk X scope s H Ca cl fp) j1 hN hj1 hx1 hf1) (tt := rT2 X.K C ys fun d => (dwipe γ [j1, j2]).set j1 (some (mk d))) (fun s H Ca cl fp => ⟨fun pins s1 σ H1 Q I q => ?_⟩)
    (wi1 := rI2 X.K C ys (fun d => (dwipe γ [j1, j2]).set j1 (some (mk d))) zs mk1) (fun s H Ca cl fp => ⟨fun pins s1 σ H1 Q I q => ?_⟩) (fun s H Ca cl fp => g_name (C := C) (X := Blk X scope s H Ca cl fp) j2 hN hj2 hx2 hf2)
    (tt1 := rT3 X.K C ys zs fun d e => (dwipe ((dwipe γ [j1, j2]).set j1 (some (mk d))) [j2]).set j2 (some (mk1 e))) (fun s H Ca cl fp => ⟨fun pins s1 σ H1 Q I q => ?_⟩) (te := rE2 X.K C ys zs (fun d e => (dwipe ((dwipe γ [j1, j2]).set j1 (some (mk d))) [j2]).set j2 (some (mk1 e))) g) (fun s H Ca cl fp => ⟨fun pins s1 σ H1 Q I q => ?_⟩) hs hs1) fun Dn σ H ⟨G, s, sl, kn, _⟩ => ?_
  · obtain ⟨d, q1, q⟩ := q
    exact (ts_nil (C := C) (X := Blk X scope s H Ca cl fp)).run pins s1 σ H1 Q I q
  · obtain ⟨d, q1, q⟩ := q
    exact (hi1 d q1 s H Ca cl fp).run pins s1 σ H1 Q I q
  · obtain ⟨d, e, q1, q2, q⟩ := q
    exact (ts_nil (C := C) (X := Blk X scope s H Ca cl fp)).run pins s1 σ H1 Q I q
  · obtain ⟨d, e, q1, q2, q⟩ := q
    exact (he d q1 e q2 s H Ca cl fp).run pins s1 σ H1 Q I q
  · exact lc2_read (j1 := j1) (j2 := j2) hl hz ⟨G, s, sl, fun v G1 H1 n1 a1 => kn _ _ G1 H1 n1 ((sl.mono n1.g).set a1) k⟩
end
end Kp

/-! # The data layer: defs, calls, further expressions -/
namespace Kp
open PySem PySem.Spec PyProof.Rows L2
/-! ### defs -/
/-- what a def is worth on data -/
def spD (K : PySem.W.Frag) (C : Addr) (Fd : List D → D → Prop) : Sp := fun vs H Q _ => ∃ G ds d, Same G H ∧ AtL K C G ds vs ∧ Fd ds d ∧ ∀ v G' H', Nx G H G' H' → At K C G' d v → Q v H'
structure Df (P : Program) (w : World) (K : PySem.W.Frag) (mg : Str → Option Value) (base : Heap) (C : Addr) (k : Nat) (x : Str) (Fd : List D → D → Prop) : Prop where
  ex : ∃ (f : Addr) (fd : FuncData) (ps : List Str), FnOk P w K mg base CX0 k f fd ps (spD K C Fd) ∧ mg x = some (.ref f) ∧ PySem.W.keepIn K (.ref f) = true ∧ Binds K fd ps []
/-- a def as it stands behind the top -/
structure Has (K : PySem.W.Frag) (mg : Str → Option Value) (x : Str) (st : Stmt) (ps : List Str) : Prop where
  ex : ∃ (f : Addr) (fd : FuncData), Fun K x x st f fd ∧ mg x = some (.ref f) ∧ Binds K fd ps []
def dstart (N : List Str) (ds : List D) : DSt := ds.map some ++ List.replicate (N.length - ds.length) Option.none
theorem sl_start {K : PySem.W.Frag} {C : Addr} {G : Hp} {N : List Str} {ds : List D} {vs : List V} (r : AtL K C G ds vs) : Sl K C G (L2.start N vs) (dstart N ds) where
  len := by
    unfold L2.start dstart
    simp [r.len]
  at_ := fun i d h => by
    unfold dstart at h
    unfold L2.start
    rw [List.getElem?_append] at h ⊢
    simp only [List.length_map] at h ⊢
    rw [r.len]
    by_cases hi : i < ds.length
    · rw [if_pos hi] at h ⊢
      rw [List.getElem?_map] at h ⊢
      obtain ⟨d', e1⟩ : ∃ d', ds[i]? = some d' := ⟨_, List.getElem?_eq_getElem hi⟩
      rw [e1] at h
      simp at h
      subst h
      obtain ⟨v, q1, q2⟩ := r.get e1
      exact ⟨v, by rw [q1] <;> rfl, q2⟩
    · rw [if_neg hi] at h
      rw [List.getElem?_replicate] at h
      split at h <;> cases h
section
variable {P : Program} {w : World} {K : PySem.W.Frag} {mg : Str → Option Value} {base : Heap} {C : Addr}
theorem fn_d {x qual : Str} {st : Stmt} {f : Addr} {fd : FuncData} {N ps : List Str} {k : Nat} {Fd : List D → D → Prop} (F : Fun K x qual st f fd) (S : FnScope N ps (defScope st)) (hl : ∀ ds d, Fd ds d → ds.length = ps.length)
    (hb : ∀ (cdv : Value) (A : Around) (outer : List Env) (s : Shared) (H : Hp) (E : XK) (ds : List D) (d : D), Room k (A.deeper (envOfC qual (defScope st) s.heap.objs.size f cdv)) → Fd ds d →
      PSsD C (cxOf CX0 P w K mg base N qual (defScope st) f cdv A outer s H E).nox (defBody st) (dstart N ds) { nx := fun _ => d = .non, rt := fun d' => d' = d }) : FnOk P w K mg base CX0 (k + 1) f fd ps (spD K C Fd) := by
  refine F.ok S (fun vs H Q E h => ?_) (fun cdv A outer s H vs Q E hr h => ?_)
  · obtain ⟨G, ds, d, _, r, hf, _⟩ := h
    rw [r.len, hl ds d hf]
  · obtain ⟨G, ds, d, sm, r, hf, q⟩ := h
    refine ⟨_, hb cdv A outer s H E ds d hr hf, G, sm, sl_start r, ?_, ?_, ?_, ?_⟩
    · intro σ' γ' G' H' n sl e
      have e' : d = .non := e
      subst e'
      exact q .non G' H' n At.non
    · intro d' v G' H' n a e
      have e' : d' = d := e
      subst e'
      exact q v G' H' n a
    · exact fun _ _ _ _ _ _ z => False.elim z
    · exact fun _ _ _ _ _ _ z => False.elim z
theorem df_mk {x : Str} {st : Stmt} {N ps : List Str} {k : Nat} {Fd : List D → D → Prop} (h : Has K mg x st ps) (S : FnScope N ps (defScope st)) (hl : ∀ ds d, Fd ds d → ds.length = ps.length)
    (hb : ∀ (f : Addr) (cdv : Value) (A : Around) (outer : List Env) (s : Shared) (H : Hp) (E : XK) (ds : List D) (d : D), Room k (A.deeper (envOfC x (defScope st) s.heap.objs.size f cdv)) → Fd ds d →
      PSsD C (cxOf CX0 P w K mg base N x (defScope st) f cdv A outer s H E).nox (defBody st) (dstart N ds) { nx := fun _ => d = .non, rt := fun d' => d' = d }) : Df P w K mg base C (k + 1) x Fd := by
  obtain ⟨f, fd, F, hm, hbn⟩ := h.ex
  exact ⟨f, fd, ps, fn_d F S hl (hb f), hm, F.kp, hbn⟩
theorem Df.imp {k : Nat} {x : Str} {Fd Gd : List D → D → Prop} (h : Df P w K mg base C k x Fd) (i : ∀ ds d, Gd ds d → Fd ds d) : Df P w K mg base C k x Gd := by
  obtain ⟨f, fd, ps, F, hm, hk, hb⟩ := h.ex
  exact ⟨f, fd, ps, F.imp fun vs H Q E ⟨G, ds, d, s, r, hf, q⟩ => ⟨G, ds, d, s, r, i ds d hf, q⟩, hm, hk, hb⟩
end
/-! ### calls -/
section
variable {C : Addr} {X : Cx} {e a b : Expr} {es : List Expr} {γ : DSt} {xs : List D} {d x y z : D} {ds : List D} {pos p : Pos}
theorem d_call {k : Nat} {n : Str} {Fd : List D → D → Prop} (F : Df X.prog X.w X.K X.mg X.base C k n Fd) (hr : Room k X.A) (ha : PAD C X (e :: es) γ ds) (hF : Fd ds d) (hg : Gl X n := by rfl) (hdb : (n == ("__debug__" : Str)) = false := by decide)
    (he : starEach (e :: es) X.env = (false, eval e X.env) :: starEach es X.env := by rfl) (hpl : (backTo pos (starEach es X.env)).any (·.1) = false := by rfl) : PD C X (.Call (.Name n p) (e :: es) [] pos) γ d := by
  obtain ⟨f, fd, ps, F, hm, hk, hb⟩ := F.ex
  refine PE.weak (pe_call F hr hg hm hk hb .nil pass0 ha hdb he hpl) fun σ H Q ⟨G, s, sl, q⟩ => ⟨G, s, sl, fun vs G1 H1 n1 a1 => ⟨G1, ds, d, n1.s, by rw [List.append_nil]; exact a1, hF, fun v G2 H2 n2 a2 => q v G2 H2 (n1.trans n2) a2⟩⟩
/-! isinstance -/
def tyD : D → Option String
  | .non => some "NoneType" | .bl _ => some "bool" | .int _ => some "int" | .str _ => some "str" | .lst _ => some "list" | .tup _ => some "tuple" | .dic _ => some "dict" | .lang _ => Option.none | .raw _ => Option.none | .exc _ _ _ => Option.none | .sq _ => Option.none
theorem At.ty {K : PySem.W.Frag} {G H : Hp} {v : V} {n : String} (s : Same G H) (h : At K C G d v) (e : tyD d = some n) : TyX K H v (.type n) := by
  cases d with
  | non => cases e; rw [h.non']; exact .base .non
  | bl b => cases e; rw [h.bl']; exact .base (.bl b)
  | int b => cases e; rw [h.int']; exact .base (.int b)
  | str b => cases e; rw [h.str']; exact .base (.str b)
  | lst xs =>
    cases e
    obtain ⟨a, vs, rfl, g, r⟩ := h.lst'
    exact .base (.lst (s _ _ g))
  | tup xs =>
    cases e
    obtain ⟨a, vs, rfl, g, r⟩ := h.tup'
    rcases g with (g | ⟨o, g⟩) | ⟨o, its, n, g, hc, _⟩
    · exact .base (.tup (s _ _ g))
    · exact .fTuple (s _ _ g)
    · exact .kTuple g hc
  | dic kvs =>
    cases e
    simp only [At] at h
    obtain ⟨a, vs, rfl, g, r⟩ := h
    exact .base (.dK (s _ _ g))
  | lang L => cases e
  | raw u => cases e
  | exc _ _ _ => cases e
  | sq _ => cases e
theorem d_isi {T t : String} {r : Bool} {p1 p2 : Pos} (hm : X.mg "isinstance" = Option.none) (hT : X.mg (Str.ofString T) = Option.none) (ha : PD C X a γ x) (ht : tyD x = some t) (hk : kitB t T = some r) (hv : bootBuiltins (Str.ofString T) = some (.type T) := by decide +kernel)
    (hg : Gl X "isinstance" := by rfl) (hgT : Gl X (Str.ofString T) := by rfl) (hn : (Str.ofString T) ≠ "__name__" := by decide) (hd : (Str.ofString T == ("__debug__" : Str)) = false := by decide)
    (he : starEach [a, .Name (Str.ofString T) p2] X.env = (false, eval a X.env) :: starEach [.Name (Str.ofString T) p2] X.env := by rfl) (hs : starEach [.Name (Str.ofString T) p2] X.env = (false, eval (.Name (Str.ofString T) p2) X.env) :: starEach [] X.env := by rfl)
    (hpl : (backTo pos (starEach [.Name (Str.ofString T) p2] X.env)).any (·.1) = false := by rfl) : PD C X (.Call (.Name "isinstance" p1) [a, .Name (Str.ofString T) p2] [] pos) γ (.bl r) :=
  PE.weak (pe_callB call_isi hg hm (by decide +kernel) (pa_cons ha (pa_cons (pe_bltn (v := .ty T) hgT hT hv rfl hn hd) pa_nil hs) he) (by decide) (by decide) he hpl) fun σ H Q ⟨G, s, sl, q⟩ => ⟨G, s, sl, fun v G1 H1 n1 a1 =>
    ⟨v, .ty T, _, _, r, rfl, .ty T, a1.ty n1.s ht, kit_ty hk, q _ G1 H1 n1 (At.bl _)⟩⟩
/-- isinstance(x, (list, tuple)) -/
theorem d_isi2 {T1 T2 t : String} {r1 r2 : Bool} {p1 p2 p3 p4 : Pos} {kk} (hm : X.mg "isinstance" = Option.none) (hT1 : X.mg (Str.ofString T1) = Option.none) (hT2 : X.mg (Str.ofString T2) = Option.none) (ha : PD C X a γ x) (ht : tyD x = some t) (hk1 : kitB t T1 = some r1) (hk2 : kitB t T2 = some r2)
    (hv1 : bootBuiltins (Str.ofString T1) = some (.type T1) := by decide +kernel) (hv2 : bootBuiltins (Str.ofString T2) = some (.type T2) := by decide +kernel)
    (hg : Gl X "isinstance" := by rfl) (hgT1 : Gl X (Str.ofString T1) := by rfl) (hgT2 : Gl X (Str.ofString T2) := by rfl) (hn1 : (Str.ofString T1) ≠ "__name__" := by decide) (hd1 : (Str.ofString T1 == ("__debug__" : Str)) = false := by decide) (hn2 : (Str.ofString T2) ≠ "__name__" := by decide) (hd2 : (Str.ofString T2 == ("__debug__" : Str)) = false := by decide)
    (he : starEach [a, .Tuple [.Name (Str.ofString T1) p2, .Name (Str.ofString T2) p3] kk p4] X.env = (false, eval a X.env) :: starEach [.Tuple [.Name (Str.ofString T1) p2, .Name (Str.ofString T2) p3] kk p4] X.env := by rfl)
    (hs : starEach [.Tuple [.Name (Str.ofString T1) p2, .Name (Str.ofString T2) p3] kk p4] X.env = (false, eval (.Tuple [.Name (Str.ofString T1) p2, .Name (Str.ofString T2) p3] kk p4) X.env) :: starEach [] X.env := by rfl)
    (hs1 : starEach [.Name (Str.ofString T1) p2, .Name (Str.ofString T2) p3] X.env = (false, eval (.Name (Str.ofString T1) p2) X.env) :: starEach [.Name (Str.ofString T2) p3] X.env := by rfl) (hs2 : starEach [.Name (Str.ofString T2) p3] X.env = (false, eval (.Name (Str.ofString T2) p3) X.env) :: starEach [] X.env := by rfl)
    (hpl : (backTo pos (starEach [.Tuple [.Name (Str.ofString T1) p2, .Name (Str.ofString T2) p3] kk p4] X.env)).any (·.1) = false := by rfl) : PD C X (.Call (.Name "isinstance" p1) [a, .Tuple [.Name (Str.ofString T1) p2, .Name (Str.ofString T2) p3] kk p4] [] pos) γ (.bl (r1 || r2)) :=
  PE.weak (pe_callB call_isiT hg hm (by decide +kernel) (pa_cons ha (pa_cons (pe_tup (pa_cons (pe_bltn (v := .ty T1) hgT1 hT1 hv1 rfl hn1 hd1) (pa_cons (pe_bltn (v := .ty T2) hgT2 hT2 hv2 rfl hn2 hd2) pa_nil hs2) hs1)) pa_nil hs) he) (by decide) (by decide) he hpl) fun σ H Q ⟨G, s, sl, q⟩ => ⟨G, s, sl, fun v G1 H1 n1 a1 =>
    ⟨(by show 2 ≤ sizeLine; decide), fun tp htp => ⟨v, tp, [.ty T1, .ty T2], _, _, r1 || r2, rfl, upd_same, .cons (.ty T1) (.cons (.ty T2) .nil), (a1.mono (Same.new (n1.s.free htp))).ty (Nx.new n1.s htp).s ht, by
      refine kitAny_cons (kit_ty hk1) (fun e => ?_) (fun e => by rw [e] <;> rfl)
      rw [e]
      refine kitAny_cons (kit_ty hk2) (fun e2 => ?_) (fun e2 => by rw [e2] <;> rfl)
      rw [e2] <;> rfl, q _ _ _ (n1.trans (Nx.new n1.s htp)) (At.bl _)⟩⟩⟩
/-! texts -/
theorem d_split {o e : Expr} {apos cpos : Pos} {t u : Str} {zs : List Str} (ho : PD C X o γ (.str t)) (he : PD C X e γ (.str u)) (h0 : (u.length == 0) = false) (hl : t.length ≤ 10000) (hz : Txt.split t u = zs)
    (hs : starEach [e] X.env = [(false, eval e X.env)] := by rfl) (hbase : attributeBase o "split" X.env (eval o X.env) = eval o X.env := by rfl) (hline : (apos.endLine == cpos.line) = true := by rfl) :
    PD C X (.Call (.Attribute o "split" apos) [e] [] cpos) γ (.lst (zs.map .str)) :=
  PE.weak (pe_split ho he hs hbase hline) fun σ H Q ⟨G, s, sl, q⟩ => ⟨G, s, sl, fun v G1 H1 n1 a1 => ⟨by rw [a1.str']; exact ⟨_, rfl⟩, G1, n1.s, sl.mono n1.g, fun v2 G2 H2 n2 a2 => ⟨t, u, a1.str', by rw [a2.str'], h0, Nat.le_trans (Nat.add_le_add_right hl 2) (by decide), fun p np => by
    rw [hz]
    exact q _ _ _ ((n1.trans n2).trans (Nx.new n2.s np)) (At.lst upd_same AtL.of_strs)⟩⟩⟩
theorem d_join {o e : Expr} {apos cpos : Pos} {t z : Str} {ys : List Str} (ho : PD C X o γ (.str t)) (he : PD C X e γ (.lst (ys.map .str))) (hl : (ys.map (·.length)).sum + ys.length * t.length ≤ 16777216) (hz : Txt.join t ys = z)
    (hs : starEach [e] X.env = [(false, eval e X.env)] := by rfl) (hbase : attributeBase o "join" X.env (eval o X.env) = eval o X.env := by rfl) (hline : (apos.endLine == cpos.line) = true := by rfl) :
    PD C X (.Call (.Attribute o "join" apos) [e] [] cpos) γ (.str z) :=
  PE.weak (pe_join ho he hs hbase hline) fun σ H Q ⟨G, s, sl, q⟩ => ⟨G, s, sl, fun v G1 H1 n1 a1 => ⟨by rw [a1.str']; exact ⟨_, rfl⟩, G1, n1.s, sl.mono n1.g, fun v2 G2 H2 n2 a2 => by
    obtain ⟨p, us, rfl, g, r⟩ := a2.lst'
    have e := r.strs
    subst e
    exact ⟨t, p, ys, a1.str', rfl, .inl (SqL.of (n2.s _ _ g)), hl, by rw [hz]; exact q _ _ _ (n1.trans n2) (At.str _)⟩⟩⟩
/-! list(range(n)), xs[::-1] -/
theorem d_listRg {p1 p2 pos2 : Pos} {n : Int} (hc : X.calm = true) (hm : X.mg "list" = Option.none) (hmr : X.mg "range" = Option.none) (ha : PD C X a γ (.int n)) (h0 : 0 ≤ n) (h1 : n ≤ 10000) (hg : Gl X "list" := by rfl) (hgr : Gl X "range" := by rfl)
    (na : starEach [a] X.env = (false, eval a X.env) :: starEach [] X.env := by rfl) (ne : starEach [.Call (.Name "range" p2) [a] [] pos2] X.env = (false, eval (.Call (.Name "range" p2) [a] [] pos2) X.env) :: starEach [] X.env := by rfl) :
    PD C X (.Call (.Name "list" p1) [.Call (.Name "range" p2) [a] [] pos2] [] pos) γ (.lst (rgD 0 n.toNat)) :=
  PE.weak (pe_listRg hc hg hm (prg_1 hgr hmr ha na) ne) fun σ H Q ⟨G, s, sl, q⟩ => ⟨G, s, sl, fun v G1 H1 n1 a1 => ⟨n, a1.int', RgOk.of_le (by omega) (by omega) (by omega) h0, fun l hl => q _ _ _ (n1.trans (Nx.new n1.s hl)) (At.lst upd_same (by
    have e : rgV 0 n = ((List.range n.toNat).map fun (i : Nat) => (0 + (i : Int))).map V.int := by
      unfold rgV
      rw [List.map_map, Int.sub_zero] <;> rfl
    have e2 : rgD 0 n.toNat = ((List.range n.toNat).map fun (i : Nat) => (0 + (i : Int))).map D.int := by
      unfold rgD
      rw [List.map_map] <;> rfl
    rw [e, e2]
    exact AtL.of_ints))⟩⟩
theorem d_revL {k : Nat} {p1 p2 p3 : Pos} (he : PD C X e γ (.lst xs)) : PD C X (.Subscript e (.Slice Option.none Option.none (some (.UnaryOp .USub (.Constant (.int 1) k p1) p2)) p3) pos) γ (.lst xs.reverse) :=
  PE.weak (pe_revL he) fun σ H Q ⟨G, s, sl, q⟩ => ⟨G, s, sl, fun v G1 H1 n1 a1 => by
    obtain ⟨a, us, rfl, g, r⟩ := a1.lst'
    exact ⟨a, us, rfl, SqL.of (n1.s _ _ g), fun l hl => q _ _ _ (n1.trans (Nx.new n1.s hl)) (At.lst upd_same (r.rev.mono (Same.new (n1.s.free hl))))⟩⟩
end
end Kp

/-! # sets of texts: a comprehension, sorted; sorted lists of texts of any length -/
namespace Kp
open PySem PySem.Spec PyProof.Rows L2 PySem.Froz
/-! ### sorted(list of texts), any length -/
def rSortedT (K : PySem.W.Frag) : List V → Hp → VK → Prop := fun vs H Q => ∃ (a : Addr) (xs : List Str), vs = [V.ref a] ∧ SqL K H a (xs.map V.str) ∧
  ∀ (ys : List Str) (p : Addr), ys.Perm xs → sortedS ys = true → H p = Option.none → Q (.ref p) (upd H p (.lst (ys.map V.str)))
theorem cr_sortedT {X : Cx} : CallR X (.builtin "sorted") (rSortedT X.K) := by
  intro pins s σ H vs us Q I r h
  obtain ⟨a, xs, e0, hs, q⟩ := h
  subst e0
  obtain ⟨its, rv, hl, hz⟩ := I.list hs
  rw [Vals.ref1 r]
  have n0 := rv.length
  rw [List.length_map] at n0 hz
  refine sorted_strsAny hl.isList rv.strs (by rw [← n0]; exact hz) fun out ys h1 h2 h3 => ?_
  obtain ⟨ep, he'⟩ := sortedAll_at s.heap its out
  have hlen : (ys.map V.str).length ≤ sizeLine := by
    rw [List.length_map, h2.length_eq]
    exact hz
  refine ⟨.ref _, upd H (s.heap.objs.size + 1) (.lst (ys.map V.str)), ?_, rfl, q ys _ h2 h3 (I.hok.fresh (Nat.le_succ _))⟩
  exact I.laid (t' := s.toks) (fun _ _ => sortedAll_old) (Nat.le_succ _) ⟨hlen, out.toList, ep, vals_of_strs h1, he'⟩
/-! ### the set as a tracked thing -/
def sv : Value → Str
  | .str x _ => x
  | _ => ⟨#[]⟩
structure TxS (P : Program) (w : World) (D : SD) (l : List Str) : Prop where
  ok : TxOk P w D l
  ris : Ris D.2.2.place.toList
  led : w.params.followText "set-order" = true ∨ D.2.2.led = true
  sts : ∀ e ∈ D.1.toList, ∃ x t, e.2 = Value.str x t
  perm : (D.1.toList.map fun e => sv e.2).Perm l
theorem TxS.tail {P : Program} {w : World} {ep : Nat} {es1 : Array (Int × Value)} {t2 : SetTable} {wasDummy : Bool} {l : List Str} (h : TxS P w (es1, ep, t2) l) : TxS P w (tailTx ep es1 t2 wasDummy) l := by
  have hok := tail_ok (ep := ep) (wasDummy := wasDummy) h.ok
  unfold tailTx at hok ⊢
  by_cases c : (!wasDummy && t2.tooFull) = true
  · rw [if_pos c] at hok ⊢
    have pm := relayAll_perm t2 es1 (SetTable.grown es1.size)
    exact ⟨hok, relayAll_ris _ _ _, h.led.imp id fun z => by rw [relayAll_led]; exact z, fun e he => h.sts e (pm.mem_iff.mp he), (pm.map _).trans h.perm⟩
  · rw [if_neg c] at hok ⊢
    exact ⟨hok, h.ris, h.led, h.sts, h.perm⟩
theorem TxS.add {P : Program} {w : World} {D : SD} {l : List Str} {k : Str} (u : Tok) (h : TxS P w D l) : TxS P w (addTx (hashStr w k) (.str k u) D) (k :: l) := by
  obtain ⟨es, ep, t⟩ := D
  have hp := layNew_perm t es (hashStr w k) (.str k u)
  have hf := layNew_fits t es (hashStr w k) (.str k u)
  have hr := layNew_ris t es (hashStr w k) (.str k u) h.ris
  have hl := layNew_led t es (hashStr w k) (.str k u)
  have hp2 : (layNew t es (hashStr w k) (.str k u)).1.toList.Perm (es.push (hashStr w k, .str k u)).toList := hp
  rw [Array.toList_push] at hp2
  have led2 : w.params.followText "set-order" = true ∨ (layNew t es (hashStr w k) (.str k u)).2.1.led = true := h.led.imp id fun z => by rw [hl]; exact z
  have st2 : ∀ e ∈ (layNew t es (hashStr w k) (.str k u)).1.toList, ∃ x t, e.2 = Value.str x t := fun e he => by
    rcases List.mem_append.mp (hp2.mem_iff.mp he) with z | z
    · exact h.sts e z
    · rw [List.mem_singleton.mp z]
      exact ⟨k, u, rfl⟩
  have pm2 : ((layNew t es (hashStr w k) (.str k u)).1.toList.map fun e => sv e.2).Perm (k :: l) := by
    refine (hp2.map fun e => sv e.2).trans ?_
    rw [List.map_append]
    exact (List.perm_append_singleton _ _).trans (h.perm.cons k)
  unfold addTx
  by_cases c : (layNew t es (hashStr w k) (.str k u)).2.1.plain = true
  · rw [if_pos c]
    exact TxS.tail ⟨h.ok.push hp (SetTable.fits_plain_off hf), hr, led2, st2, pm2⟩
  · rw [if_neg c]
    exact TxS.tail ⟨h.ok.push hp hf, hr, led2, st2, pm2⟩
/-- the set of the texts l at a -/
def SetSO (P : Program) (w : World) (a : Addr) (l : List Str) : HO := .ext fun h => ∃ D : SD, h.get? a = some (sObj "set" D) ∧ TxS P w D l
theorem setSO_ok {P : Program} {w : World} {H : Hp} {h : Heap} {a : Addr} {l : List Str} {D : SD} (ho : h.get? a = some (sObj "set" D)) (t : TxS P w D l) : ObjOk P w H h a (SetSO P w a l) :=
  ⟨⟨D, ho, t⟩, ⟨_, ho⟩, fun h1 h2 z k => by
    obtain ⟨D', e, t'⟩ := z
    exact ⟨D', k _ e, t'⟩⟩
theorem setSO_at {P : Program} {w : World} {H : Hp} {h : Heap} {a : Addr} {l : List Str} (hok : HOk P w H h) (e : H a = some (SetSO P w a l)) : ∃ D : SD, h.get? a = some (sObj "set" D) ∧ TxS P w D l := (hok a _ e).1
theorem fresh_txs {P : Program} {w : World} : TxS P w (#[], 0, .fresh 0 0 (!w.params.followText "set-order")) [] where
  ok := TxOk.nil rfl
  ris := List.Pairwise.nil
  led := by
    show _ ∨ (!w.params.followText "set-order") = true
    cases w.params.followText "set-order" <;> simp
  sts := fun e he => by simp at he
  perm := List.Perm.refl _
section
variable {X : Cx} {pins : List (Addr × Obj)} {σ : L2.St} {H : Hp} {s : Shared} {E : Value → Shared → Prop}
theorem addS_ok {D : Addr} {l : List Str} {k : Str} {v : Value} {Q : Value → Shared → Prop} (I : Inv X pins σ H s) (hD : H D = some (SetSO X.prog X.w D l)) (rv : RelV (.str k) v) (hk : k ∉ l) (room : l.length + 1 < scanBound)
    (h : ∀ s', Inv X pins σ (upd H D (SetSO X.prog X.w D (k :: l))) s' → Q .none s') : wpAny (model X.prog X.w) X.A (call (.builtin "set.add") [.ref D, v]) Q E s := by
  obtain ⟨u, rfl⟩ := rv
  obtain ⟨P0, ho, t⟩ := setSO_at I.hok hD
  have hT : s.TypeIs (.ref D) "set" := ⟨_, ho, rfl⟩
  refine wpAny_call_entry F.slot_set_add hT F.entry_set_add ?_ (F.args_set_add_2 _ _)
  unfold Builtin.«set.add» Builtin.Frozenset.oneOther
  simp only [List.isEmpty_nil, bind_assoc]
  unfold Builtin.Frozenset.addrOf setAdd
  refine wpAny_bind (wpAny_pure ?_)
  try dsimp only
  refine wpAny_bind (wpAny_pure ?_)
  try dsimp only
  refine wpAny_bind (wpAny_holding ?_)
  refine wpAny_bind ((strKind X.prog X.w).pyHash (k := k) (is_str _ _) ?_)
  refine add_x (l := l) (s := { s with toks := s.toks + 1 }) ho t.ok hk room ?_
  have hob := get_upd (sObj "set" (addTx (hashStr X.w k) (.str k u) P0)) ho rfl
  have J := I.write (t' := s.toks + 1) (x := D) (e := D) (o := SetSO X.prog X.w D (k :: l)) (by rw [hD]; trivial) (.inl rfl) (fun b o hb e => PySem.Heap.get?_update_of_ne _ (Ne.symm hb) e) ⟨_, hob⟩ (setSO_ok hob (t.add u))
  show wpAny _ _ (ret Value.none) _ _ _
  exact wpAny_pure ⟨_, rfl, h _ J⟩
end
/-! ### sorted of it -/
theorem vals_sv : ∀ {us : List Value}, (∀ v ∈ us, ∃ x t, v = Value.str x t) → Vals ((us.map sv).map V.str) us
  | [], _ => .nil
  | v :: us, h => by
    obtain ⟨x, t, e⟩ := h v (List.mem_cons_self ..)
    subst e
    exact .cons ⟨t, rfl⟩ (vals_sv fun u hu => h u (List.mem_cons_of_mem _ hu))
def rSortedSet (P : Program) (w : World) : List V → Hp → VK → Prop := fun vs H Q => ∃ (a : Addr) (l : List Str), vs = [V.ref a] ∧ H a = some (SetSO P w a l) ∧ l.length < 64 ∧
  ∀ (ys : List Str) (p : Addr), ys.Perm l → sortedS ys = true → H p = Option.none → Q (.ref p) (upd H p (.lst (ys.map V.str)))
theorem cr_sortedSetS {X : Cx} (hc : X.calm = true) : CallR X (.builtin "sorted") (rSortedSet X.prog X.w) := by
  intro pins s σ H vs us Q I r h
  obtain ⟨a, l, e0, hs, h64, q⟩ := h
  subst e0
  rw [Vals.ref1 r]
  obtain ⟨⟨es, ep, t⟩, ho, T⟩ := setSO_at I.hok hs
  have hsz : es.size = l.length := T.ok.sz
  have hsb : es.size < scanBound := by
    rw [hsz]
    exact Nat.lt_trans h64 (by decide)
  refine Calls.call_function_entry kind_sorted plain_sorted entry_sorted (args_sorted1 _) ?_
  unfold Builtin.«sorted»
  refine wpAny_bind (m := checkCount "sorted" 1 1 _) (wpAny_pure ?_)
  refine wpAny_bind (collect_set (A := X.A.in1) (I.ok.hd hc) ⟨_, ho, rfl, rfl⟩ T.ok.fit hsb T.ris T.led fun s1 out k1 hz g1 o1 pm => ?_)
  have hout : ∀ v ∈ out, ∃ x t, v = Value.str x t := fun v hv => by
    obtain ⟨e, he, e2⟩ := List.mem_map.mp (pm.mem_iff.mp hv)
    rw [← e2]
    exact T.sts e he
  have pk : (out.map sv).Perm l := by
    refine (pm.map sv).trans ?_
    rw [List.map_map]
    exact T.perm
  have ol : out.length = l.length := by
    rw [← pk.length_eq, List.length_map]
  have hS : StrsAre out (out.map sv) := (vals_sv hout).strs
  have o64 : out.length < 64 := by rw [ol]; exact h64
  refine wpAny_bind (wpAny_newList ?_ (by rw [sizeLine_eq]; omega))
  have hoL : (s1.heap.push (seqObj "list" out.toArray 0)).get? s1.heap.objs.size = some (seqObj "list" out.toArray 0) := Heap.get?_push_size _ rfl
  refine wpAny_bind (wpAny_holding (wpAny_call_entry slot_list_sort ⟨_, hoL, rfl⟩ entry_list_sort (list_sort_treeK strKind_oneLt hoL hS.keysOf (fun v₁ v₂ rest e => keyKind_strs (by rw [← e]; exact hS)) o64 fun st' hp hst => ⟨_, rfl, ?_⟩) (args_list_sort _)))
  obtain ⟨ys, h1, h2, h3⟩ := sorted_out_str hS hp hst
  obtain ⟨c, hcp⟩ := sortedHeap_at (vs := out) (out := (arrOf st').map (·.2)) hoL
  refine wpAny_pure ⟨_, rfl, ?_⟩
  have old : ∀ b u, s.heap.get? b = some u → (sortedHeap (s1.heap.push (seqObj "list" out.toArray 0)) s1.heap.objs.size out ((arrOf st').map (·.2))).get? b = some u := fun b u e => by
    have e1 := k1 b u e
    have hlt := Heap.lt_size e1
    rw [sortedHeap_old (Nat.ne_of_lt hlt) (by rw [Heap.size_push]; exact Nat.lt_succ_of_lt hlt)]
    exact Heap.get?_push_of_some _ e1
  have hlen : (ys.map V.str).length ≤ sizeLine := by
    rw [List.length_map, h2.length_eq, pk.length_eq, sizeLine_eq]
    omega
  have hn : H s1.heap.objs.size = Option.none := I.hok.fresh hz
  have J : Inv X pins σ (upd H s1.heap.objs.size (.lst (ys.map V.str))) { s1 with heap := sortedHeap (s1.heap.push (seqObj "list" out.toArray 0)) s1.heap.objs.size out ((arrOf st').map (·.2)) } := by
    refine I.call' (ch := []) o1 ⟨fun b o e n _ _ => old b o e, fun b o e n _ _ => ⟨o.slots, old b o e⟩, fun b o e n _ => ?_, fun b o e _ => ⟨o, old b o e⟩, fun b zs e => ?_, fun b o z e => ?_, fun b ps e => ⟨#[], ?_⟩⟩ ?_ (by rw [show s1.gens = s.gens from g1]; exact I.bare) (fun _ z => nomatch z)
    · rw [upd_ne (Nat.ne_of_lt (Nat.lt_of_lt_of_le (Heap.lt_size e) hz))]
      exact n
    · rw [upd_ne (ne_of_none e hn)]
      exact e
    · rw [upd_ne (ne_of_none e hn)]
      exact e
    · rw [upd_ne (ne_of_none e hn), e]
      simp
    · exact I.hok.laid old hz ⟨hlen, ((arrOf st').map (·.2)).toList, c, vals_of_strs h1, hcp⟩
  exact ⟨.ref _, _, J, rfl, q ys _ (h2.trans pk) h3 hn⟩
end Kp

/-! # a set comprehension of texts, sorted -/
namespace Kp
open PySem PySem.Spec PyProof.Rows L2 PySem.Froz PpSet
section
variable {X : Cx}
def tScS (P : Program) (w : World) (wi : TI) (g : TG) (tt : TT) (te : TE) (vs : List Nat) : TE := fun σ H Q => wi σ H fun J H1 => ∀ D, H1 D = none → ∃ W : Nat → Nat → Hp → Prop, (∃ m, W 0 m (upd H1 D (SetSO P w D []))) ∧ ∀ i m H, W i m H →
  (J.stop i H ∧ Q (.ref D) H) ∨ (J.go i H ∧ ∃ Nx : Hp → Prop, (∀ H', Nx H' → ∃ m', m' < m ∧ W (i + 1) m' H') ∧ ∀ x H', J.yld i H x H' → g x (wipe σ vs) H' fun σ2 H2 => wipe σ2 vs = wipe σ vs ∧ tt σ2 H2 fun b H3 =>
    if b = true then te σ2 H3 fun y H4 => ∃ (c : Str) (l : List Str), y = .str c ∧ H4 D = some (SetSO P w D l) ∧ c ∉ l ∧ l.length + 1 < scanBound ∧ Nx (upd H4 D (SetSO P w D (c :: l))) else Nx H3)
theorem sc_coreS {pins : List (Addr × Obj)} {s : Shared} {σ : L2.St} {H : Hp} {Q : VK} {elt tg iter : Expr} {ifs : List Expr} {scope : Scope} {own : List (PySem.Str × Nat)} {pos pos' : Pos} {wi : TI} {g : TG} {tt : TT} {te : TE} {use : Option (Value → Sem Unit)} {Qf : Value → Shared → Prop}
    (hc : X.calm = true) (hN : X.N.Nodup) (I : Inv X pins σ H s) (hi : PI X tg iter wi) (ok : BlkOk X.N X.env.scope scope own)
    (hg : ∀ (s : Shared) (H : Hp) (C : Addr) (cl : List (PySem.Str × Addr)) (fp : List Addr), PG (X.blk s H scope (compEnvC scope cl C X.env) fp) tg g) (ht : ∀ (s : Shared) (H : Hp) (C : Addr) (cl : List (PySem.Str × Addr)) (fp : List Addr), PTs (X.blk s H scope (compEnvC scope cl C X.env) fp) ifs tt)
    (he : ∀ (s : Shared) (H : Hp) (C : Addr) (cl : List (PySem.Str × Addr)) (fp : List Addr), PE (X.blk s H scope (compEnvC scope cl C X.env) fp) elt te) (hs : ∀ x, foldedSetIterable iter X.env x = pure x)
    (h : tScS X.prog X.w wi g tt te (own.map (·.2)) σ H Q)
    (hRR : ∀ D C s' m H', Inv X pins σ H' s' → Q (.ref D) H' → s'.heap.Ns C m → FpOk X pins H' C → compPost (model X.prog X.w) X.A X.xe use Qf (.ref D) C (.ok .next) s') :
    wpAny (model X.prog X.w) X.A (comprehension (.SetComp elt [⟨tg, iter, ifs, 0⟩] scope pos) scope X.env pos' (newSet (.type "set")) false (eval iter X.env) use) Qf X.xe s := by
  have hfree : ∀ y ∈ scope.names, y.2 = .free → ∃ c, X.env.cells.lookup y.1 = some c := fun y hy e => by
    rcases ok.free y hy e with k | k
    · exact I.ok.has _ (.inl k)
    · exact I.ok.has _ (.inr k)
  refine wpAny_comprehension_free (use := use) rfl hs (closure_ok hfree) ok.kind (fun y hy e => by rw [ok.uniq y hy, e])
    (thn (hi.run pins s σ H _ I h) fun xv s1 hx => thn hx fun itv s2 h2 => ?_)
  obtain ⟨it, fp, tn, J, H2, e, I2, T, st2, f2, q⟩ := h2
  subst e
  refine newSet_ok (newEnv_comp ?_)
  generalize hD : s2.heap.objs.size = D
  have hDn : H2 D = none := I2.hok.fresh (Nat.le_of_eq hD)
  obtain ⟨W, ⟨m0, w0⟩, turn⟩ := q D hDn
  -- the new list
  generalize hs3 : ({ s2 with heap := s2.heap.push { cls := .type "set", dict := none, data := .set #[] 0 (.fresh 0 0 (!X.w.params.followText "set-order")) } } : Shared) = s3
  have I3 : Inv X pins σ (upd H2 D (SetSO X.prog X.w D [])) s3 := by
    rw [← hs3]
    refine I2.laid (t' := s2.toks) (fun b o e => Heap.get?_push_of_some _ e) (Nat.le_of_eq hD) ?_
    rw [← hD]
    exact setSO_ok (Heap.get?_push_size _ rfl) fresh_txs
  have h3 : s3.heap = s2.heap.push { cls := .type "set", dict := none, data := .set #[] 0 (.fresh 0 0 (!X.w.params.followText "set-order")) } := by rw [← hs3]
  have sz : ∀ b ∈ fp, b < s2.heap.objs.size := fun b hb => by
    obtain ⟨o, e, _⟩ := T.obj _ _ st2 b hb
    exact Heap.lt_size e
  have f3 : ∀ b ∈ fp, FpOk X pins (upd H2 D (SetSO X.prog X.w D [])) b ∧ b < s3.heap.objs.size := fun b hb => by
    have hlt := sz b hb
    refine ⟨⟨?_, (f2 b hb).2⟩, by rw [h3, Heap.size_push]; exact Nat.lt_succ_of_lt hlt⟩
    rw [upd_ne (by rw [← hD]; exact Nat.ne_of_lt hlt)]
    exact (f2 b hb).1
  have st3 : tn 0 s3.heap := T.keep _ _ _ st2 fun b _ o e => by rw [h3]; exact Heap.get?_push_of_some _ e
  have I4 := block_start I3 ok hN f3
  have pg := hg s3 (upd H2 D (SetSO X.prog X.w D [])) s3.heap.objs.size (cellsFrom (s3.heap.objs.size + 1) scope.names (cloFrom X.env.cells scope.names [])) fp
  have pt := ht s3 (upd H2 D (SetSO X.prog X.w D [])) s3.heap.objs.size (cellsFrom (s3.heap.objs.size + 1) scope.names (cloFrom X.env.cells scope.names [])) fp
  have pe := he s3 (upd H2 D (SetSO X.prog X.w D [])) s3.heap.objs.size (cellsFrom (s3.heap.objs.size + 1) scope.names (cloFrom X.env.cells scope.names [])) fp
  show codeAny _ _ (.compStart (.SetComp elt [⟨tg, iter, ifs, 0⟩] scope pos) 0 (.ref it) (.ref D) (compEnvC scope (cellsFrom (s3.heap.objs.size + 1) scope.names (cloFrom X.env.cells scope.names [])) s3.heap.objs.size X.env)) (compPost (model X.prog X.w) X.A X.xe use Qf (.ref D) s3.heap.objs.size) { s3 with heap := pushCells (s3.heap.push { cls := .type "dict", data := .dict #[] }) scope.names }
  have nfp : ∀ b ∈ fp, (upd H2 D (SetSO X.prog X.w D [])) b = none := fun b hb => (f3 b hb).1.1
  generalize hce : compEnvC scope (cellsFrom (s3.heap.objs.size + 1) scope.names (cloFrom X.env.cells scope.names [])) s3.heap.objs.size X.env = ce at I4 pg pt pe ⊢
  have cL : ce.locals = s3.heap.objs.size := by subst hce; rfl
  generalize hH3 : upd H2 D (SetSO X.prog X.w D []) = H3 at I3 I4 pg pt pe w0 nfp f3
  generalize hs4 : ({ s3 with heap := pushCells (s3.heap.push { cls := .type "dict", data := .dict #[] }) scope.names } : Shared) = s4 at I4 ⊢
  have st4 : tn 0 s4.heap := T.keep _ _ _ st3 fun b _ o e => by rw [← hs4]; exact pushCells_keeps _ _ _ _ (Heap.get?_push_of_some _ e)
  have stat : ∀ {σ' : L2.St} {H' : Hp} {s' : Shared}, Inv (X.blk s3 H3 scope ce fp) [] σ' H' s' → (∀ b ∈ fp, H' b = none) → ∀ b ∈ fp, FpOk (X.blk s3 H3 scope ce fp) [] H' b := fun {σ' H' s'} I' hn b hb =>
    ⟨hn b hb, (I'.ok.exf b hb).1, I'.ok.exfs b hb, .inl hb, fun x c e => (I'.ok.exf b hb).2 x c e, fun p hp => absurd (show p ∈ ([] : List (Addr × Obj)) ++ [] from hp) (by simp)⟩
  have loop : codeAny (model X.prog X.w) X.A (.compLoop (.SetComp elt [⟨tg, iter, ifs, 0⟩] scope pos) 0 (.ref it) (.ref D) ce) (compPost (model X.prog X.w) X.A X.xe use Qf (.ref D) s3.heap.objs.size) s4 := by
    refine compLoopS_any (fun n s' => ∃ i H', Inv (X.blk s3 H3 scope ce fp) [] (wipe σ (own.map (·.2))) H' s' ∧ tn i s'.heap ∧ (∀ b ∈ fp, H' b = none) ∧ W i n H') ?_ m0 ⟨0, H3, I4, st4, nfp, w0⟩
    rintro n s5 ⟨i, H5, I5, st5, n5, w5⟩
    rcases turn i n H5 w5 with ⟨stop, qq⟩ | ⟨go, Nx, hNx, step⟩
    · have td := T.done (X.blk s3 H3 scope ce fp) rfl rfl rfl hc i [] s5 _ H5 (fun _ _ => False) I5 (stat I5 n5) st5 stop
      refine thnF td fun r s6 ⟨hr, I6⟩ => ?_
      subst hr
      -- back in the def's context
      have I7 : Inv X pins σ H5 s6 := I3.call' (ch := fp) I6.os I6.base I6.hok I6.bare fun b hb => ⟨(f3 b hb).1.2.2.2.1, (f3 b hb).1.2.1, (f3 b hb).1.2.2.2.2.1, (f3 b hb).1.2.2.2.2.2⟩
      have nC : H5 s3.heap.objs.size = none := by
        have z : H5 ce.locals = none := I6.free
        rw [cL] at z
        exact z
      obtain ⟨m, hn, _⟩ := I6.loc
      have hn : s6.heap.Ns ce.locals m := hn
      rw [cL] at hn
      exact hRR D s3.heap.objs.size s6 m H5 I7 qq hn (I3.fpOk (Nat.le_refl _) nC)
    · have ti := T.item (X.blk s3 H3 scope ce fp) rfl rfl rfl hc i [] s5 _ H5 (fun _ _ => False) I5 (stat I5 n5) st5 go
      refine thnF ti fun r s6 ⟨u, hr, h6⟩ => ?_
      subst hr
      refine thnF h6 fun _ s7 ⟨x, H7, I7, r7, y7, st7, n7⟩ => ?_
      have I7' := I7.pinned (stat I7 n7) (T.obj _ _ st7)
      refine thnF (pg.run _ s7 _ H7 x u _ I7' r7 (step x H7 y7)) fun _ s8 ⟨σ8, H8, I8, hw8, q8⟩ => ?_
      refine thnF (pt.run _ s8 σ8 H8 _ I8 q8) fun b s9 ⟨H9, I9, q9⟩ => ?_
      -- the turn's end
      have fin : ∀ {s' : Shared} {H' : Hp}, Inv (X.blk s3 H3 scope ce fp) ([] ++ pinsAt fp s7.heap) σ8 H' s' → Nx H' → ∃ m, m < n ∧ ∃ i H', Inv (X.blk s3 H3 scope ce fp) [] (wipe σ (own.map (·.2))) H' s' ∧ tn i s'.heap ∧ (∀ b ∈ fp, H' b = none) ∧ W i m H' := fun {s' H'} I' nx => by
        obtain ⟨m', hm, w'⟩ := hNx H' nx
        have pin' : ∀ b ∈ fp, ∀ o, s7.heap.get? b = some o → s'.heap.get? b = some o ∧ H' b = none := fun b hb o e =>
          let z := I'.pin (b, o) (List.mem_append_right _ (List.mem_append_right _ (mem_pinsAt hb e)))
          ⟨z.1, z.2.1⟩
        have hl : (wipe σ (own.map (·.2))).length = σ8.length := by rw [← hw8, wipe_length]
        refine ⟨m', hm, i + 1, H', (I'.unpinned (pins := [])).weak hl (fun j v e => ?_), T.keep _ _ _ st7 fun b hb o e => (pin' b hb o e).1, fun b hb => ?_, w'⟩
        · rw [← hw8] at e
          exact (wipe_some e).1
        · obtain ⟨o, e, _⟩ := T.obj _ _ st7 b hb
          exact (pin' b hb o e).2
      cases b with
      | false =>
        simp only [Bool.false_eq_true, if_false] at q9 ⊢
        exact fin I9 q9
      | true =>
        simp only [if_true] at q9 ⊢
        refine thnF (pe.run _ s9 σ8 H9 _ I9 q9) fun z s10 ⟨yv, H10, I10, r10, cb, l0, ey, hD10, hk10, hz10, nx⟩ => ?_
        subst ey
        exact addS_ok (X := X.blk s3 H3 scope ce fp) I10 hD10 r10 hk10 hz10 fun s11 I11 => fin I11 nx
  exact codeAny_compStart_set loop (T.self X.A 0 _ _ _ st4 loop)
/-- as a value -/
theorem pe_scS {elt tg iter : Expr} {ifs : List Expr} {scope : Scope} {own : List (PySem.Str × Nat)} {pos : Pos} {wi : TI} {g : TG} {tt : TT} {te : TE} (hc : X.calm = true) (hN : X.N.Nodup) (hi : PI X tg iter wi) (ok : BlkOk X.N X.env.scope scope own)
    (hg : ∀ (s : Shared) (H : Hp) (C : Addr) (cl : List (PySem.Str × Addr)) (fp : List Addr), PG (X.blk s H scope (compEnvC scope cl C X.env) fp) tg g) (ht : ∀ (s : Shared) (H : Hp) (C : Addr) (cl : List (PySem.Str × Addr)) (fp : List Addr), PTs (X.blk s H scope (compEnvC scope cl C X.env) fp) ifs tt)
    (he : ∀ (s : Shared) (H : Hp) (C : Addr) (cl : List (PySem.Str × Addr)) (fp : List Addr), PE (X.blk s H scope (compEnvC scope cl C X.env) fp) elt te) (hs : ∀ x, foldedSetIterable iter X.env x = pure x := by intro _; rfl) :
    PE X (.SetComp elt [⟨tg, iter, ifs, 0⟩] scope pos) (tScS X.prog X.w wi g tt te (own.map (·.2))) := by
  refine ⟨fun pins s σ H Q I h => ?_⟩
  rw [eval_SetComp]
  refine sc_coreS hc hN I hi ok hg ht he hs h fun D C s' m H' I' q hn f => ⟨m, hn, fun h'' sb => ?_⟩
  obtain ⟨f0, f1, f2, f3, f4, f5⟩ := f
  exact ⟨.ref D, H', I'.turned (t' := s'.toks) (fun b o hb e => (sb.2 b hb).trans e) f0 f1 f3 f4 f5, rfl, q⟩
end
/-- within a set comprehension -/
structure AccS (P : Program) (w : World) (K : PySem.W.Frag) (C : Addr) (G H : Hp) (L : Addr) (l : List Str) (G' H' : Hp) : Prop where
  g : Same G G'
  h : Same H H'
  s : Same G' H'
  n : ∀ b, G b = Option.none → H b ≠ Option.none → G' b = Option.none
  ln : G' L = Option.none
  at_ : H' L = some (SetSO P w L l)
section
variable {P : Program} {w : World} {K : PySem.W.Frag} {C L : Addr} {G H G' H' : Hp} {l : List Str}
theorem AccS.start (s : Same G H) (hL : H L = Option.none) : AccS P w K C G H L [] G (upd H L (SetSO P w L [])) :=
  ⟨Same.refl _, Same.new hL, s.trans (Same.new hL), fun _ h _ => h, s.free hL, upd_same⟩
theorem AccS.step {G2 H2 : Hp} (a : AccS P w K C G H L l G' H') (n : Nx G' H' G2 H2) : AccS P w K C G H L l G2 H2 :=
  ⟨a.g.trans n.g, a.h.trans n.h, n.s, fun b h3 h4 => n.n b (a.n b h3 h4) fun z => h4 (a.h.free z), n.n L a.ln (by rw [a.at_]; intro z; cases z), n.h _ _ a.at_⟩
theorem AccS.push (a : AccS P w K C G H L l G' H') (hL : H L = Option.none) (k : Str) : AccS P w K C G H L (k :: l) G' (upd H' L (SetSO P w L (k :: l))) := by
  refine ⟨a.g, fun b u e => ?_, fun b u e => ?_, a.n, a.ln, upd_same⟩
  · rw [upd_ne (ne_of_none e hL)]
    exact a.h b u e
  · rw [upd_ne (ne_of_none e a.ln)]
    exact a.s b u e
theorem AccS.done (a : AccS P w K C G H L l G' H') : Nx G H G' H' := ⟨a.g, a.h, a.s, a.n⟩
end
section
variable {ι : Type} {C : Addr} {X : Cx} {tg e elt iter : Expr} {ifs : List Expr} {γ : DSt} {xs : List ι} {mk : ι → D} {d : D} {pos p : Pos} {scope : Scope} {own : List (Str × Nat)} {tgt : D → DSt → Option DSt}
/-- the reading of a set that was made: some set of the texts l -/
def cSet (P : Program) (w : World) (K : PySem.W.Frag) (C : Addr) (γ : DSt) (l : List Str) : TE := fun σ H Q => ∃ G, Same G H ∧ Sl K C G σ γ ∧ ∀ a m G' H', Nx G H G' H' → m.Perm l → H' a = some (SetSO P w a m) → Q (.ref a) H'
theorem sc_read {P : Program} {w : World} {K : PySem.W.Frag} {vs : List Nat} {γs : ι → DSt} {f : ι → Bool} {g : ι → Str} (hl : xs.length ≤ 1000) (hnd : ((xs.filter f).map g).Nodup) (htg : ∀ d ∈ xs, tgt (mk d) (dwipe γ vs) = some (γs d)) {σ : L2.St} {H : Hp} {Q : VK} (h : cSet P w K C γ ((xs.filter f).map g) σ H Q) :
    tScS P w (cI K C γ (xs.map mk)) (cG K C vs tgt) (rT K C xs γs f) (rE K C xs γs f fun d => .str (g d)) vs σ H Q := by
  obtain ⟨G, s, sl, k⟩ := h
  refine ⟨G, s, sl, fun J G1 H1 n1 wk L hL => ?_⟩
  have lm : (xs.map mk).length = xs.length := List.length_map ..
  refine ⟨fun i m H' => m = xs.length - i ∧ i ≤ xs.length ∧ ∃ G', AccS P w K C G1 H1 L (((xs.take i).filter f).map g).reverse G' H', ⟨_, rfl, Nat.zero_le _, G1, by simp only [List.take_zero]; exact AccS.start n1.s hL⟩, ?_⟩
  rintro i m H' ⟨rfl, hi, G', a⟩
  by_cases hlt : i < xs.length
  · refine .inr ⟨wk.goes i H' (by rw [lm]; exact hlt) (a.g.trans a.s), fun H2 => i + 1 ≤ xs.length ∧ ∃ G2, AccS P w K C G1 H1 L (((xs.take (i + 1)).filter f).map g).reverse G2 H2, fun H2 ⟨q1, q2⟩ => ⟨xs.length - (i + 1), by omega, rfl, q1, q2⟩, fun x H2 y => ?_⟩
    obtain ⟨d0, G2, hd0, n2, a2⟩ := wk.yields i H' x H2 G' (by rw [lm]; exact hlt) a.g a.s y
    rw [List.getElem?_map] at hd0
    obtain ⟨d, hd, e0⟩ := Option.map_eq_some_iff.mp hd0
    subst e0
    have hm : d ∈ xs := List.mem_of_getElem? hd
    have b := a.step n2
    refine ⟨G2, _, mk d, _, n2.s, ((sl.mono n1.g).mono b.g).wipe vs, a2, htg d hm, fun σ2 sl2 hw => ⟨hw.trans wipe_idem, d, hm, G2, n2.s, sl2, fun G3 H3 n3 => ?_⟩⟩
    have c := b.step n3
    have tk : xs.take (i + 1) = xs.take i ++ [d] := take_succ' hd
    cases hf : f d with
    | true =>
      refine iteT ⟨d, hm, hf, G3, n3.s, sl2.mono n3.g, fun v G4 H4 n4 a4 => ?_⟩
      have e := c.step n4
      have el : ((xs.take (i + 1)).filter f).map g = ((xs.take i).filter f).map g ++ [g d] := by
        rw [tk, List.filter_append]
        simp only [List.filter_cons, hf, List.filter_nil, List.map_append, List.map_cons, List.map_nil, if_true]
      refine ⟨g d, _, a4.str', e.at_, ?_, ?_, hlt, G4, ?_⟩
      · intro z
        have nd2 : (((xs.take (i + 1)).filter f).map g).Nodup := by
          have q : (((xs.take (i + 1)).filter f).map g).Sublist ((xs.filter f).map g) := ((List.take_sublist _ _).filter _).map _
          exact q.nodup hnd
        rw [el, List.nodup_append] at nd2
        exact nd2.2.2 (g d) (List.mem_reverse.mp z) (g d) (by simp) rfl
      · rw [List.length_reverse, List.length_map]
        have := List.length_filter_le f (xs.take i)
        rw [List.length_take] at this
        have e : (2000 : Nat) < scanBound := by decide
        omega
      · rw [el, List.reverse_append, List.reverse_singleton, List.singleton_append]
        exact e.push hL (g d)
    | false =>
      refine iteF ⟨hlt, G3, ?_⟩
      rw [tk, List.filter_append]
      simp only [List.filter_cons, hf, List.filter_nil, List.append_nil, Bool.false_eq_true, ↓reduceIte]
      exact c
  · have ei : i = xs.length := by omega
    subst ei
    refine .inl ⟨by have z := wk.stops H' (a.g.trans a.s); rw [lm] at z; exact z, ?_⟩
    rw [List.take_length] at a
    exact k _ _ G' H' (n1.trans a.done) (List.reverse_perm _) a.at_
/-- sorted({elt for tg in iter if ..}) of texts, all apart -/
theorem d_sortSc (own : List (Str × Nat)) (xs : List ι) (mk : ι → D) (γs : ι → DSt) (f : ι → Bool) (g : ι → Str) {ys : List Str} {p1 : Pos} (hc : X.calm = true) (hN : X.N.Nodup) (hm : X.mg "sorted" = Option.none) (hi : PID C X tg iter γ (xs.map mk)) (ok : BlkOk X.N X.env.scope scope own) (hg : ∀ s H Ca cl fp, PGD C (Blk X scope s H Ca cl fp) tg (own.map (·.2)) tgt)
    (htg : ∀ d ∈ xs, tgt (mk d) (dwipe γ (own.map (·.2))) = some (γs d)) (ht : ∀ d ∈ xs, ∀ s H Ca cl fp, PTsD C (Blk X scope s H Ca cl fp) ifs (γs d) (f d)) (he : ∀ d ∈ xs, f d = true → ∀ s H Ca cl fp, PD C (Blk X scope s H Ca cl fp) elt (γs d) (.str (g d))) (hl : xs.length < 64)
    (hnd : ((xs.filter f).map g).Nodup) (hys : ∀ zs : List Str, zs.Perm ((xs.filter f).map g) → sortedS zs = true → zs = ys) (hgl : Gl X "sorted" := by rfl)
    (hst : starEach [.SetComp elt [⟨tg, iter, ifs, 0⟩] scope p1] X.env = (false, eval (.SetComp elt [⟨tg, iter, ifs, 0⟩] scope p1) X.env) :: starEach [] X.env := by rfl) (hpl : (backTo pos (starEach [] X.env)).any (·.1) = false := by rfl)
    (hs : ∀ x, foldedSetIterable iter X.env x = pure x := by intro _; rfl) : PD C X (.Call (.Name "sorted" p) [.SetComp elt [⟨tg, iter, ifs, 0⟩] scope p1] [] pos) γ (.lst (ys.map .str)) := by
  refine PE.weak (pe_callB (cr_sortedSetS hc) hgl hm (by decide +kernel) (pa_cons (pe_scS (own := own) (g := cG X.K C (own.map fun (q : Str × Nat) => q.2) tgt) hc hN hi ok hg (tt := rT X.K C xs γs f) (te := rE X.K C xs γs f fun d => .str (g d)) (fun s H Ca cl fp => ⟨fun pins s1 σ H1 Q I q => ?_⟩) (fun s H Ca cl fp => ⟨fun pins s1 σ H1 Q I q => ?_⟩) hs) pa_nil hst) (by decide) (by decide) hst hpl) fun σ H Q ⟨G, s, sl, k⟩ => ?_
  · obtain ⟨d, q1, q⟩ := q
    exact (ht d q1 s H Ca cl fp).run pins s1 σ H1 Q I q
  · obtain ⟨d, q1, q2, q⟩ := q
    exact (he d q1 q2 s H Ca cl fp).run pins s1 σ H1 Q I q
  · refine sc_read (P := X.prog) (w := X.w) (K := X.K) (g := g) (f := f) (γs := γs) (Q := fun x H1 => tNil σ H1 fun xs H2 => rSortedSet X.prog X.w (x :: xs) H2 Q) (Nat.le_trans (Nat.le_of_lt hl) (by decide)) hnd htg ⟨G, s, sl, fun a m G1 H1 n1 pm ha => ?_⟩
    refine ⟨a, m, rfl, ha, ?_, fun zs q h1 h2 hq => ?_⟩
    · rw [pm.length_eq, List.length_map]
      exact Nat.lt_of_le_of_lt (List.length_filter_le _ _) hl
    · rw [hys zs (h1.trans pm) h2]
      exact k _ _ _ (n1.trans (Nx.new n1.s hq)) (At.lst upd_same AtL.of_strs)
end
end Kp

/-! # errors: made, raised, passed on -/
namespace Kp
open PySem PySem.Spec PyProof.Rows L2
section
variable {X : Cx} {CK : Addr} {mc : Value} {e : Expr} {es : List Expr} {ta : TA} {p1 p2 pos : Pos} {x : Str}
/-- KeepError.__init__(self, ..), a class of one's own that takes it from ValueError -/
theorem pe_keinit {pl : Sem Bool} (hg : Gl X x) (hm : X.mg x = some (.ref CK)) (r : ClX.CRead X.K CK mc) (at_ : PySem.W.findCls X.K (.ref CK) mc "__init__" = some (.val (.builtin "ValueError.__init__"))) (ha : PA X (e :: es) ta)
    (hc : eval (.Call (.Attribute (.Name x p1) "__init__" p2) (e :: es) [] pos) X.env = (do
      let ov ← eval (.Name x p1) X.env
      standAt p2.atName
      let (f, first) ← holding [ov] (getMethod ov "__init__" pl)
      callWith pos f first (backTo pos (starEach (e :: es) X.env)) (backToKw pos (keywordEach [] X.env))) := by rfl)
    (hdb : (x == ("__debug__" : Str)) = false := by decide) (he : starEach (e :: es) X.env = (false, eval e X.env) :: starEach es X.env := by rfl) (hpl : (backTo pos (starEach es X.env)).any (·.1) = false := by rfl) :
    PE X (.Call (.Attribute (.Name x p1) "__init__" p2) (e :: es) [] pos) (tVeI X.K ta) := by
  refine ⟨fun pins s σ H Q I h => ?_⟩
  refine PySem.W.methodCall_KW (ld_glob I hg hm ?_ hdb) hc
  refine PySem.W.method_cls I.kIn r.ga (PySem.W.cls_value I.kIn r.rd at_ (by decide +kernel) ?_)
  show wpAny _ _ (callWith pos (Value.builtin "ValueError.__init__") [] (backTo pos (starEach (e :: es) X.env)) []) _ _ _
  refine PyProof.Rows.callWith_method1 (thn (ha.run pos pins _ σ H _ (I.tok _) h) fun us s1 ⟨vs, H1, I1, r1, a, C, ws, ev, hl, T, ea, q⟩ => ?_) he hpl
  subst ev
  cases r1 with
  | @cons _ u0 _ ur ra rw' =>
    obtain rfl : u0 = Value.ref a := ra
    have hlen : ur.length ≤ sizeLine := by
      rw [← Paired.length rw', sizeLine_eq]
      omega
    exact oinit_ok T I1 ea hlen fun s' J => ⟨.non, H1, J, rfl, q⟩
end
/-! ### the classes of errors -/
/-- what such a class's own __init__ keeps: one field -/
def spI (K : PySem.W.Frag) (f : Str) : Sp := fun vs H Q _ => ∃ (a C : Addr) (v : V), vs = [.ref a, v] ∧ OexC K C ∧ PySem.W.findIn K (.ref C) f = some none ∧ H a = some (exo a C none) ∧
  ∀ dx, H dx = none → dx ≠ a → Q .non (upd (upd H dx (exd dx [(f, v)])) a (exo a C (some dx)))
/-- a class of errors that keeps one field -/
structure Ek (P : Program) (w : World) (K : PySem.W.Frag) (mg : Str → Option Value) (base : Heap) (k : Nat) (x : Str) (C : Addr) (f : Str) : Prop where
  oex : OexC K C
  no : PySem.W.findIn K (.ref C) f = some none
  gm : mg x = some (.ref C)
  ini : ∃ (fI : Addr) (fd : FuncData) (ps : List Str), FnOk P w K mg base CX0 k fI fd ps (spI K f) ∧ PySem.W.findIn K (.ref C) "__init__" = some (some (.ref fI)) ∧ PySem.W.typeIn K (.ref fI) = some (.type "function") ∧ Binds K fd ps []
theorem Nx.junk {G H : Hp} {p : Addr} {o : HO} (s : Same G H) (hp : H p = Option.none) : Nx G H G (upd H p o) where
  g := Same.refl _
  h := Same.new hp
  s := s.trans (Same.new hp)
  n := fun b h1 _ => h1
/-- the wish W takes an error of the class at Ce, its field f being d -/
def Wd (K : PySem.W.Frag) (C : Addr) (W : XK) (G H : Hp) (Ce : Addr) (f : Str) (d : D) : Prop := ∀ v G' H' dd, Nx G H G' H' → H' dd = some (.xd [(f, v)]) → At K C G' d v → W (.ref Ce) (some dd) H'
theorem Wd.mono {K : PySem.W.Frag} {C : Addr} {W : XK} {G H G1 H1 : Hp} {Ce : Addr} {f : Str} {d : D} (h : Wd K C W G H Ce f d) (n : Nx G H G1 H1) : Wd K C W G1 H1 Ce f d := fun v G' H' dd n' e a => h v G' H' dd (n.trans n') e a
inductive Out where
  | ok (d : D) | er (C : Addr) (f : Str) (d : D)
/-- a def that may raise, on data -/
def spE (K : PySem.W.Frag) (C : Addr) (Fd : List D → Out → Prop) : Sp := fun vs H Q E => ∃ G ds o, Same G H ∧ AtL K C G ds vs ∧ Fd ds o ∧ match o with
  | .ok d => ∀ v G' H', Nx G H G' H' → At K C G' d v → Q v H'
  | .er Ce f d => Wd K C E G H Ce f d
structure DfE (P : Program) (w : World) (K : PySem.W.Frag) (mg : Str → Option Value) (base : Heap) (C : Addr) (k : Nat) (x : Str) (Fd : List D → Out → Prop) : Prop where
  ex : ∃ (f : Addr) (fd : FuncData) (ps : List Str), FnOk P w K mg base (L2.CX P w) k f fd ps (spE K C Fd) ∧ mg x = some (.ref f) ∧ PySem.W.keepIn K (.ref f) = true ∧ Binds K fd ps []
/-! ### statements that may raise -/
abbrev EX := Addr → Str → D → Prop
def cW (K : PySem.W.Frag) (C : Addr) (W : XK) (ex : EX) (γ : DSt) (E : DE) : TS := fun Dn σ H => ∃ G, Same G H ∧ Sl K C G σ γ ∧
  (∀ σ' γ' G' H', Nx G H G' H' → Sl K C G' σ' γ' → E.nx γ' → Dn.nx σ' H') ∧ (∀ d v G' H', Nx G H G' H' → At K C G' d v → E.rt d → Dn.rt v H') ∧
  (∀ σ' γ' G' H', Nx G H G' H' → Sl K C G' σ' γ' → E.bk γ' → Dn.bk σ' H') ∧ (∀ σ' γ' G' H', Nx G H G' H' → Sl K C G' σ' γ' → E.ct γ' → Dn.ct σ' H') ∧ (∀ Ce f d, ex Ce f d → Wd K C W G H Ce f d)
def PSW (C : Addr) (X : Cx) (W : XK) (ex : EX) (st : Stmt) (γ : DSt) (E : DE) : Prop := PS X st (cW X.K C W ex γ E)
def PSsW (C : Addr) (X : Cx) (W : XK) (ex : EX) (st : List Stmt) (γ : DSt) (E : DE) : Prop := PSs X st (cW X.K C W ex γ E)
section
variable {C : Addr} {X : Cx} {W : XK} {ex : EX} {st : Stmt} {rest body orelse : List Stmt} {γ : DSt} {E : DE} {pos p : Pos} {tg e c : Expr} {es : List Expr} {xs ds : List D} {d : D}
theorem w_of (h : PSD C X st γ E) : PSW C X W ex st γ E := PS.weak h fun Dn σ H ⟨G, s, sl, kn, kr, kb, kc, _⟩ => ⟨G, s, sl, kn, kr, kb, kc⟩
theorem w_ofs (h : PSsD C X rest γ E) : PSsW C X W ex rest γ E := PSs.weak h fun Dn σ H ⟨G, s, sl, kn, kr, kb, kc, _⟩ => ⟨G, s, sl, kn, kr, kb, kc⟩
theorem w_nil (k : E.nx γ) : PSsW C X W ex [] γ E := w_ofs (s_nil k)
theorem w_cons (h : PSW C X W ex st γ { E with nx := fun γ' => PSsW C X W ex rest γ' E }) : PSsW C X W ex (st :: rest) γ E :=
  PSs.weak (pss_cons h (PSs.all (t := fun (i : { γ' : DSt // PSsW C X W ex rest γ' E }) => cW X.K C W ex i.1 E) fun i => i.2)) fun Dn σ H ⟨G, s, sl, kn, kr, kb, kc, kx⟩ =>
    ⟨G, s, sl, fun σ' γ' G1 H1 n1 sl1 q => ⟨⟨γ', q⟩, G1, n1.s, sl1, fun σ2 γ2 G2 H2 n2 => kn σ2 γ2 G2 H2 (n1.trans n2), fun d v G2 H2 n2 => kr d v G2 H2 (n1.trans n2), fun σ2 γ2 G2 H2 n2 => kb σ2 γ2 G2 H2 (n1.trans n2), fun σ2 γ2 G2 H2 n2 => kc σ2 γ2 G2 H2 (n1.trans n2), fun Ce f d q => (kx Ce f d q).mono n1⟩, kr, kb, kc, kx⟩
theorem w_one (h : PSW C X W ex st γ E) : PSsW C X W ex [st] γ E := pss_one h
theorem w_if {k : Bool} (hc : PTD C X c γ k) (h1 : k = true → PSsW C X W ex body γ E) (h2 : k = false → PSsW C X W ex orelse γ E) : PSW C X W ex (.If c body orelse pos) γ E :=
  PS.weak (ps_if hc (PSs.guard h1) (PSs.guard h2)) fun Dn σ H ⟨G, s, sl, kn, kr, kb, kc, kx⟩ => ⟨G, s, sl, fun G1 H1 n1 => by
    have fin : cW X.K C W ex γ E Dn σ H1 := ⟨G1, n1.s, sl.mono n1.g, fun σ2 γ2 G2 H2 n2 => kn σ2 γ2 G2 H2 (n1.trans n2), fun d v G2 H2 n2 => kr d v G2 H2 (n1.trans n2), fun σ2 γ2 G2 H2 n2 => kb σ2 γ2 G2 H2 (n1.trans n2), fun σ2 γ2 G2 H2 n2 => kc σ2 γ2 G2 H2 (n1.trans n2), fun Ce f d q => (kx Ce f d q).mono n1⟩
    cases k with
    | true => exact iteT ⟨rfl, fin⟩
    | false => exact iteF ⟨rfl, fin⟩⟩
theorem w_for {js : List Nat} {tgt : D → DSt → Option DSt} (hp : PassesOwn (model X.prog X.w) X.A X.env X.xe) (hc : X.calm = true) (hi : PID C X tg e γ xs) (hg : PGD C X tg js tgt) (Pv : Nat → DSt → Prop) (h0 : Pv 0 γ)
    (hb : ∀ (i : Nat) (d : D) (γ' : DSt), xs[i]? = some d → Pv i γ' → ∃ γ2, tgt d γ' = some γ2 ∧ PSsW C X W ex body γ2 { nx := Pv (i + 1), rt := E.rt, bk := E.nx, ct := Pv (i + 1) }) (hd : ∀ γ', Pv xs.length γ' → E.nx γ')
    (hs : ∀ x, foldedSetIterable e X.env x = pure x := by intro _; rfl) : PSW C X W ex (.For tg e body [] pos) γ E := by
  have hbb : PSs X body (fun Dn σ H => ∃ (i : Nat) (d : D) (γ' γ2 : DSt), xs[i]? = some d ∧ Pv i γ' ∧ tgt d γ' = some γ2 ∧ cW X.K C W ex γ2 { nx := Pv (i + 1), rt := E.rt, bk := E.nx, ct := Pv (i + 1) } Dn σ H) := ⟨fun pins s σ H Dn I q => by
    obtain ⟨i, d, γ', γ2, q1, q2, q3, q⟩ := q
    obtain ⟨γ3, e3, hb'⟩ := hb i d γ' q1 q2
    rw [q3] at e3
    cases e3
    exact hb'.run pins s σ H Dn I q⟩
  refine PS.weak (ps_for hp hc hi hg hbb hs) fun Dn σ H ⟨G, s, sl, kn, kr, kb, kc, kx⟩ => ⟨G, s, sl, fun J G1 H1 n1 wk => ?_⟩
  refine ⟨fun i m σ' H' => m = xs.length - i ∧ i ≤ xs.length ∧ ∃ G' γ', Nx G1 H1 G' H' ∧ Sl X.K C G' σ' γ' ∧ Pv i γ', ⟨_, rfl, Nat.zero_le _, G1, γ, Nx.refl n1.s, sl.mono n1.g, h0⟩, ?_⟩
  rintro i m σ' H' ⟨rfl, hi', G', γ', n', sl', pv'⟩
  by_cases hlt : i < xs.length
  · refine .inr ⟨wk.goes i H' hlt (n'.g.trans n'.s), fun σ2 H2 => i + 1 ≤ xs.length ∧ ∃ G2 γ2, Nx G1 H1 G2 H2 ∧ Sl X.K C G2 σ2 γ2 ∧ Pv (i + 1) γ2, fun σ2 H2 ⟨hl, G2, γ2, a, b, c⟩ => ⟨xs.length - (i + 1), by omega, rfl, hl, G2, γ2, a, b, c⟩, fun x H2 y => ?_⟩
    obtain ⟨d, G2, hd2, n2, a2⟩ := wk.yields i H' x H2 G' hlt n'.g n'.s y
    obtain ⟨γ2, e2, _⟩ := hb i d γ' hd2 pv'
    refine ⟨G2, γ', d, γ2, n2.s, sl'.mono n2.g, a2, e2, fun σ2 sl2 _ => ⟨i, d, γ', γ2, hd2, pv', e2, G2, n2.s, sl2, ?_, ?_, ?_, ?_, ?_⟩⟩
    · exact fun σ3 γ3 G3 H3 n3 sl3 p3 => ⟨hlt, G3, γ3, (n'.trans n2).trans n3, sl3, p3⟩
    · exact fun d v G3 H3 n3 a3 r => kr d v G3 H3 (((n1.trans n').trans n2).trans n3) a3 r
    · exact fun σ3 γ3 G3 H3 n3 sl3 p3 => kn σ3 γ3 G3 H3 (((n1.trans n').trans n2).trans n3) sl3 p3
    · exact fun σ3 γ3 G3 H3 n3 sl3 p3 => ⟨hlt, G3, γ3, (n'.trans n2).trans n3, sl3, p3⟩
    · exact fun Ce f d q => (kx Ce f d q).mono ((n1.trans n').trans n2)
  · have ei : i = xs.length := by omega
    subst ei
    exact .inl ⟨wk.stops H' (n'.g.trans n'.s), kn _ _ G' H' (n1.trans n') sl' (hd γ' pv')⟩
/-- raise N(e) -/
theorem w_raise {k : Nat} {n : Str} {Ce : Addr} {f : Str} {p2 : Pos} (tk : Takes X (fun c d _ H => W c d H)) (T : Ek X.prog X.w X.K X.mg X.base k n Ce f) (hc : X.calm = true) (hr : Room (k + 1) X.A) (hp : Passes CX0 X (fun _ _ _ => False)) (ha : PAD C X [e] γ [d]) (hx : ex Ce f d) (hg : Gl X n := by rfl)
    (hdb : (n == ("__debug__" : Str)) = false := by decide) (he : starEach [e] X.env = (false, eval e X.env) :: starEach [] X.env := by rfl) (hpl : (backTo p2 (starEach [] X.env)).any (·.1) = false := by rfl) : PSW C X W ex (.Raise (some (.Call (.Name n p) [e] [] p2)) none pos) γ E := by
  obtain ⟨fI, fd, ps, F, iC, tI, hb⟩ := T.ini
  refine PS.weak (ps_raise hc tk (pmk_oex T.oex iC tI F hr hb .nil hp hg T.gm ha hdb he hpl)) fun Dn σ H ⟨G, s, sl, kn, kr, kb, kc, kx⟩ => ?_
  refine ⟨G, s, sl, fun vs G1 H1 n1 a1 => ?_⟩
  obtain ⟨v, r, rfl, h2, h3⟩ := a1.inv
  rw [h3.inv0]
  refine ⟨by show 1 ≤ 1000; decide, fun a hn => ⟨a, Ce, v, rfl, T.oex, T.no, upd_same, fun dx hdx hne => ⟨rfl, dx, [(f, v)], upd_same, ?_, ?_, ?_⟩⟩⟩
  · rw [upd_ne hne, upd_same]
  · rw [upd_ne hne] at hdx
    exact hdx
  · rw [upd_ne hne] at hdx
    have e1 : upd (del (upd (upd (upd H1 a (exo a Ce none)) dx (exd dx [(f, v)])) a (exo a Ce (some dx))) a) dx (.xd [(f, v)]) = upd H1 dx (.xd [(f, v)]) := by
      funext b
      by_cases h1 : b = dx
      · rw [h1, upd_same, upd_same]
      · rw [upd_ne h1, upd_ne h1]
        by_cases h2 : b = a
        · rw [h2, del_same, hn]
        · rw [del_ne h2, upd_ne h2, upd_ne h1, upd_ne h2]
    rw [e1]
    exact kx Ce f d hx v G1 _ dx (n1.trans (Nx.junk n1.s hdx)) upd_same h2
/-- a call of a def that may raise, as a statement and as what is given back -/
def cEW (K : PySem.W.Frag) (C : Addr) (W : XK) (γ : DSt) (o : Out) : TE := fun σ H Q => ∃ G, Same G H ∧ Sl K C G σ γ ∧ match o with
  | .ok d => ∀ v G' H', Nx G H G' H' → At K C G' d v → Q v H'
  | .er Ce f d => Wd K C W G H Ce f d
theorem dw_call {k : Nat} {n : Str} {Fd : List D → Out → Prop} {o : Out} (F : DfE X.prog X.w X.K X.mg X.base C k n Fd) (tk : Takes X (fun c d _ H => W c d H)) (hr : Room k X.A) (ha : PAD C X (e :: es) γ ds) (hF : Fd ds o) (hg : Gl X n := by rfl) (hdb : (n == ("__debug__" : Str)) = false := by decide)
    (he : starEach (e :: es) X.env = (false, eval e X.env) :: starEach es X.env := by rfl) (hpl : (backTo pos (starEach es X.env)).any (·.1) = false := by rfl) : PE X (.Call (.Name n p) (e :: es) [] pos) (cEW X.K C W γ o) := by
  obtain ⟨f, fd, ps, F, hm, hk, hb⟩ := F.ex
  refine PE.weak (pe_call F hr hg hm hk hb .nil (E := W) (passes_call tk fun _ _ _ _ h => h) ha hdb he hpl) fun σ H Q ⟨G, s, sl, q⟩ => ⟨G, s, sl, fun vs G1 H1 n1 a1 => ⟨G1, ds, o, n1.s, by rw [List.append_nil]; exact a1, hF, ?_⟩⟩
  cases o with
  | ok d => exact fun v G2 H2 n2 a2 => q v G2 H2 (n1.trans n2) a2
  | er Ce f d => exact Wd.mono q n1
/-- .. where it does not raise -/
theorem d_callE {k : Nat} {n : Str} {Fd : List D → Out → Prop} (F : DfE X.prog X.w X.K X.mg X.base C k n Fd) (hr : Room k X.A) (ha : PAD C X (e :: es) γ ds) (hF : Fd ds (.ok d)) (hg : Gl X n := by rfl) (hdb : (n == ("__debug__" : Str)) = false := by decide)
    (he : starEach (e :: es) X.env = (false, eval e X.env) :: starEach es X.env := by rfl) (hpl : (backTo pos (starEach es X.env)).any (·.1) = false := by rfl) : PD C X (.Call (.Name n p) (e :: es) [] pos) γ d := by
  obtain ⟨f, fd, ps, F, hm, hk, hb⟩ := F.ex
  refine PE.weak (pe_call F hr hg hm hk hb .nil passL ha hdb he hpl) fun σ H Q ⟨G, s, sl, q⟩ => ⟨G, s, sl, fun vs G1 H1 n1 a1 => ⟨G1, ds, .ok d, n1.s, by rw [List.append_nil]; exact a1, hF, fun v G2 H2 n2 a2 => q v G2 H2 (n1.trans n2) a2⟩⟩
theorem w_expr {o : Out} (he : PE X e (cEW X.K C W γ o)) (h1 : ∀ d, o = .ok d → E.nx γ) (h2 : ∀ Ce f d, o = .er Ce f d → ex Ce f d) (hs : swapsWith e Option.none pos.line X.env = pure false := by rfl) : PSW C X W ex (.Expr e pos) γ E :=
  PS.weak (ps_expr he hs) fun Dn σ H ⟨G, s, sl, kn, kr, kb, kc, kx⟩ => ⟨G, s, sl, by
    cases o with
    | ok d => exact fun v G1 H1 n1 a1 => kn σ γ G1 H1 n1 (sl.mono n1.g) (h1 d rfl)
    | er Ce f d => exact kx Ce f d (h2 Ce f d rfl)⟩
theorem w_ret {o : Out} (he : PE X e (cEW X.K C W γ o)) (h1 : ∀ d, o = .ok d → E.rt d) (h2 : ∀ Ce f d, o = .er Ce f d → ex Ce f d) : PSW C X W ex (.Return (some e) pos) γ E :=
  PS.weak (ps_ret he) fun Dn σ H ⟨G, s, sl, kn, kr, kb, kc, kx⟩ => ⟨G, s, sl, by
    cases o with
    | ok d => exact fun v G1 H1 n1 a1 => kr d v G1 H1 n1 a1 (h1 d rfl)
    | er Ce f d => exact kx Ce f d (h2 Ce f d rfl)⟩
end
/-! ### defs that may raise -/
section
variable {P : Program} {w : World} {K : PySem.W.Frag} {mg : Str → Option Value} {base : Heap} {C : Addr}
theorem dfe_mk {x : Str} {st : Stmt} {N ps : List Str} {k : Nat} {Fd : List D → Out → Prop} (h : Has K mg x st ps) (S : FnScope N ps (defScope st)) (hl : ∀ ds o, Fd ds o → ds.length = ps.length)
    (hb : ∀ (f : Addr) (cdv : Value) (A : Around) (outer : List Env) (s : Shared) (H : Hp) (E : XK) (ds : List D) (o : Out), Room k (A.deeper (envOfC x (defScope st) s.heap.objs.size f cdv)) → Fd ds o →
      Takes (cxOf (L2.CX P w) P w K mg base N x (defScope st) f cdv A outer s H E) (fun c d _ H => E c d H) → PassesOwn (model P w) (cxOf (L2.CX P w) P w K mg base N x (defScope st) f cdv A outer s H E).A (cxOf (L2.CX P w) P w K mg base N x (defScope st) f cdv A outer s H E).env (cxOf (L2.CX P w) P w K mg base N x (defScope st) f cdv A outer s H E).xe →
      PSsW C (cxOf (L2.CX P w) P w K mg base N x (defScope st) f cdv A outer s H E) E (fun Ce f d => o = .er Ce f d) (defBody st) (dstart N ds) { nx := fun _ => o = .ok .non, rt := fun d' => o = .ok d' }) : DfE P w K mg base C (k + 1) x Fd := by
  obtain ⟨f, fd, F, hm, hbn⟩ := h.ex
  refine ⟨f, fd, ps, F.okX S (fun vs H Q E h => ?_) (fun cdv A outer s H vs Q E hr h => ?_), hm, F.kp, hbn⟩
  · obtain ⟨G, ds, o, _, r, hf, _⟩ := h
    rw [r.len, hl ds o hf]
  · obtain ⟨G, ds, o, sm, r, hf, q⟩ := h
    refine ⟨_, hb f cdv A outer s H E ds o hr hf (takes_of rfl rfl rfl rfl) (passes_of rfl), G, sm, sl_start r, ?_, ?_, ?_, ?_, ?_⟩
    · intro σ' γ' G' H' n sl e
      have e' : o = .ok .non := e
      subst e'
      exact q .non G' H' n At.non
    · intro d' v G' H' n a e
      have e' : o = .ok d' := e
      subst e'
      exact q v G' H' n a
    · exact fun _ _ _ _ _ _ z => False.elim z
    · exact fun _ _ _ _ _ _ z => False.elim z
    · intro Ce f d e
      have e' : o = .er Ce f d := e
      subst e'
      exact q
end
end Kp

/-! # an error that was caught is kept -/
namespace Kp
open PySem PySem.Spec PyProof.Rows L2
section
variable {X : Cx} {pins : List (Addr × Obj)} {σ : L2.St} {H : Hp} {s : Shared}
/-- an object that is new since the entry is tracked from now on -/
theorem track {a : Addr} {o : HO} (I : Inv X pins σ H s) (hn : H a = Option.none) (h0 : X.s_0.heap.get? a = Option.none) (hex : X.ex = []) (nL : a ≠ X.env.locals) (nc : ∀ y c, X.env.cells.lookup y = some c → c ≠ a) (np : ∀ p ∈ X.pn ++ pins, p.1 ≠ a) (new : ObjOk X.prog X.w (upd H a o) s.heap a o) :
    Inv X pins σ (upd H a o) s := by
  refine ⟨I.ok, I.os, I.bare, ⟨I.base.keep, I.base.slot, fun b u q n hx => ?_, I.base.there, fun b xs q => ?_, fun b u v q => ?_, fun b ps q => ?_⟩, I.loc, I.cell, ?_, fun y c e => ?_, fun p hp => ?_, I.hok.laidN (fun _ _ z => z) hn new, I.len⟩
  · rw [upd_ne (fun z => by rw [z, h0] at q; cases q)]
    exact I.base.free b u q n hx
  · have z := I.base.tups b xs q
    rw [upd_ne (ne_of_none z hn)]
    exact z
  · have z := I.base.frzs b u v q
    rw [upd_ne (ne_of_none z hn)]
    exact z
  · obtain ⟨more, z⟩ := I.base.tbls b ps q
    exact ⟨more, by rw [upd_ne (ne_of_none z hn)]; exact z⟩
  · rw [upd_ne (Ne.symm nL)]
    exact I.free
  · rw [upd_ne (nc y c e)]
    exact I.freeC y c e
  · obtain ⟨z1, z2, z3, z4, z5⟩ := I.pin p hp
    exact ⟨z1, by rw [upd_ne (np p hp)]; exact z2, z3, z4, z5⟩
end
end Kp
namespace L2
open PySem PySem.Spec PyProof.Rows Kp
/-- what the clause 'except x as n' wishes, where the error is kept -/
def wKeep (K : PySem.W.Frag) (c : Value) (i : Nat) (ts : Addr → Value → Option Addr → TS) (Wout : WX) (D : Ends) : WX := fun cls d σ H =>
  ∃ b, PySem.W.exmOne K cls c = some b ∧ (b = true → ∀ a, H a = none → ts a cls d { nx := fun σ' H' => H' a = none → D.nx (σ'.set i none) (upd H' a (KeptE cls d a)), rt := fun _ _ => False, bk := fun _ _ => False, ct := fun _ _ => False } (σ.set i (some (.ref a))) H) ∧
    (b = false → Wout cls d σ H)
section
variable {X : Cx} {x n : Str} {c : Value} {i : Nat} {body suite : List Stmt} {b₀ : Stmt} {np pos pos' : Pos} {tb : WX → TS} {ts : Addr → Value → Option Addr → TS} {Wout : WX}
theorem ps_try_keep (hex : X.ex = []) (hs : X.stack = X.env :: X.outer) (hf : X.env.frame = some X.env.locals) (hN : X.N.Nodup) (hi : X.N[i]? = some n) (hln : X.env.kindOf n = some .local) (hc : Names X x c) (tk : Takes X Wout)
    (hb : ∀ (W : WX) (pn : List (Addr × Obj)) (xe : Value → Shared → Prop), Takes (X.tr pn xe) W → PassesOwn (model X.prog X.w) X.A X.env xe → PSs (X.tr pn xe) body (tb W))
    (hsu : ∀ (a : Addr) (oe : Obj) (cls : Value) (d : Option Addr) (pn : List (Addr × Obj)), Zc cls d oe → (∃ vs, oe.data = .fields vs) → PSs (X.suite a ((a, oe) :: pn)) (b₀ :: suite) (ts a cls d)) :
    PS X (.Try body [.ExceptHandler (some (.Name x np)) (some n) (b₀ :: suite) pos'] [] [] pos) (fun D σ H => tb (wKeep X.K c i ts Wout D) D σ H) := by
  refine ⟨fun pins s σ H D I h => ?_⟩
  have ok := I.ok
  have hfr : X.A.frames = some (X.env :: X.outer) := by rw [ok.frames, hs]
  have hloc : Loc X.env.scope n := .inl hln
  refine wpAny_Try_except ?_
  refine wpAny_mono ((hb (wKeep X.K c i ts Wout D) (X.pn ++ pins) (fun e s₁ => wpAny (model X.prog X.w) X.A (noteFrame e X.env) (fun _ s₂ => wpAny (model X.prog X.w) X.A (setFlight e none) (fun _ s₃ =>
    wpAny (model X.prog X.w) X.A (handleBy e X.env [.ExceptHandler (some (.Name x np)) (some n) (b₀ :: suite) pos']) (SP X pins D) X.xe s₃) X.xe s₂) X.xe s₁) (fun u s' xx => ?_) PassesOwn.looking).run [] s σ H D (I.toTry _) h) (fun f s1 hsp => ?_) (fun e s1 he => he)
  · -- the catch
    obtain ⟨a, B, sI, pins', σ', H', cls, d, rfl, J', nb, up, sky, na, os, ag, b, hb1, hyes, hno⟩ := xx
    have J : Inv X pins σ' H' sI := J'.ofTry ok
    have sky' : Sky B (X.env :: X.outer) a (Zc cls d) X.env.locals s'.heap := by rw [← hs]; exact sky
    show wpAny (model X.prog X.w) X.A (noteFrame (.ref a) X.env) _ _ _
    refine Sky.land Zc.steady hfr hf sky' fun h3 fl3 up3 => ?_
    have J3 : Inv X pins σ' H' { s' with heap := h3 } := J.landed nb fl3.1 (up.trans up3) os ag
    obtain ⟨oe3, vs3, he3, hz3, hd3⟩ := fl3.there
    have notFr : ∀ {h : Heap} {o : Obj} {vs : Array Value}, h.FunFrames B (X.env :: X.outer) → h.get? a = some o → o.data = .fields vs → a ∉ frs (X.env :: X.outer) := fun {h o vs} ff e dd hm => by
      obtain ⟨_, o', e', hnf⟩ := ff.mem hm
      rw [e] at e'; cases e'
      exact hnf _ dd
    have nfr := notFr fl3.2.2.1 he3 hd3
    have nL : a ≠ X.env.locals := fun z => nfr (List.mem_filterMap.mpr ⟨X.env, List.mem_cons_self, by rw [hf, z]⟩)
    have nF : a ∉ X.fs := fun hm => by
      obtain ⟨e, he, q⟩ := List.mem_filterMap.mp hm
      exact nfr (List.mem_filterMap.mpr ⟨e, List.mem_cons_of_mem _ he, q⟩)
    have S3 := J3.suite he3 hd3 na nL nF
    refine wpAny_handleBy_cons (codeAny_handlers_test ?_) (by intro q; cases q)
    have LT : PySem.W.Looks (model X.prog X.w) h3 (typeOf (.ref a)) cls := fun A Q E s k q => wpAny_typeOf_ref (k _ _ he3) (by rw [hz3.1]; exact q)
    have LM := PySem.W.exm_one (M := model X.prog X.w) (J3.kIn) LT hb1
    have test : ∀ {Q : Value → Shared → Prop} {E : Value → Shared → Prop}, Q c { s' with heap := h3 } → wpAny (model X.prog X.w) (X.A.mark (some (.ref a))) (eval (.Name x np) X.env) Q E { s' with heap := h3 } := fun {Q E} q => by
      obtain ⟨hg, hdbg, hm | ⟨hm, hv, hnn⟩⟩ := hc
      · exact ld_glob (X := X.suite a ((a, oe3) :: (X.pn ++ pins))) S3 hg hm q hdbg
      · exact ld_blt (X := X.suite a ((a, oe3) :: (X.pn ++ pins))) S3 hg hm hv q hnn hdbg
    refine test (LM.here ?_)
    cases b with
    | true =>
      refine codeAny_handlers_suite_as ?_
      refine HandSPX.lands_againZ fl3 fun h4 fl4 up4 => ?_
      have J4 : Inv X pins σ' H' { s' with heap := h4 } := J.landed nb fl4.1 ((up.trans up3).trans up4) os ag
      obtain ⟨oe4, vs4, he4, hz4, hd4⟩ := fl4.there
      have S4 := J4.suite he4 hd4 na nL nF
      refine store_ok (X := X.suite a ((a, oe4) :: (X.pn ++ pins))) (v := .ref a) S4 hN hi hloc rfl (fun s5 S5 => ?_) (.inr hln)
      refine wpAny_mono ((hsu a oe4 cls d (X.pn ++ pins) hz4 ⟨_, hd4⟩).run [] s5 _ H' _ S5 (hyes rfl a na)) (fun f s6 hsp => ?_) (fun _ _ z => False.elim z)
      have a0 : X.s_0.heap.get? a = Option.none := by
        cases q : X.s_0.heap.get? a with
        | none => rfl
        | some o0 =>
          obtain ⟨o1, q1⟩ := J.base.there a o0 q (by rw [hex]; simp)
          have z := nb a o1 q1 (by rw [hs]; exact nfr)
          have bn : B.get? a = Option.none := fl3.2.1
          rw [bn] at z
          cases z
      have aI : sI.heap.get? a = Option.none := by
        cases q : sI.heap.get? a with
        | none => rfl
        | some o1 =>
          have z := nb a o1 q (by rw [hs]; exact nfr)
          have bn : B.get? a = Option.none := fl3.2.1
          rw [bn] at z
          cases z
      have np : ∀ p ∈ X.pn ++ pins, p.1 ≠ a := fun p hp z => by
        have q := (J.pin p hp).1
        rw [z, aI] at q
        cases q
      have nc : ∀ y c0, X.env.cells.lookup y = some c0 → c0 ≠ a := fun y c0 e z => by
        obtain ⟨v0, o0, q, _⟩ := J.cell y c0 e
        rw [z, aI] at q
        cases q
      have end_ : ∀ {σ6 : St} {H6 : Hp} {Q : Shared → Prop}, Inv (X.suite a ((a, oe4) :: (X.pn ++ pins))) [] σ6 H6 s6 → (∀ s7, H6 a = Option.none → Inv X pins (σ6.set i none) (upd H6 a (KeptE cls d a)) s7 → Q s7) →
          wpAny (model X.prog X.w) X.A (do bindName X.env n .none; unbindBehindTheSuite X.env n pos') (fun _ s7 => Q s7) X.xe s6 := fun {σ6 H6 Q} S6 hq => gone_ok (X := X.suite a ((a, oe4) :: (X.pn ++ pins))) S6 hN hi hln fun s7 S7 => by
        obtain ⟨e7, n7, _, _, _⟩ := S7.pin (a, oe4) (List.mem_append_left _ List.mem_cons_self)
        exact hq s7 n7 (track (S7.unsuite ok) n7 a0 hex nL nc np ⟨⟨oe4, vs4, e7, hz4, hd4⟩, ⟨_, e7⟩, fun h1 h2 ⟨o, v, z1, z2, z3⟩ k => ⟨o, v, k _ z1, z2, z3⟩⟩)
      cases f with
      | next =>
        obtain ⟨σ6, H6, S6, q6⟩ := hsp
        exact end_ S6 fun s7 n7 J7 => ⟨_, _, J7, q6 n7⟩
      | brk =>
        obtain ⟨σ6, H6, S6, q6⟩ := hsp
        exact q6.elim
      | cont =>
        obtain ⟨σ6, H6, S6, q6⟩ := hsp
        exact q6.elim
      | ret u =>
        obtain ⟨v6, σ6, H6, S6, r6, q6⟩ := hsp
        exact q6.elim
    | false =>
      show wpAny _ X.A (handleBy (.ref a) X.env []) _ _ _
      refine wpAny_handleBy_nil ?_
      obtain ⟨k1, k2, k3, oe, vs, T, oT, ts', he, hz, hd, h1, hr⟩ := id fl3
      unfold PySem.passOn
      refine wpAny_bind (wpAny_field he hd h1 ?_)
      rw [if_neg (show ¬ ((Value.ref T == Value.none) = true) from by simp)]
      have fin : wpAny (model X.prog X.w) X.A (setFlight (.ref a) X.env.frame) (fun _ s4 => wpAny (model X.prog X.w) X.A (throw (.ref a) : Sem Flow) (SP X pins D) X.xe s4) X.xe { s' with heap := h3 } := by
        rw [hf]
        refine HandSPX.setFlight_upZ fl3 fun h4 hh4 up4 => wpAny_throw (tk _ _ ?_)
        exact ⟨a, B, sI, pins, σ', H', cls, d, rfl, J, nb, (up.trans up3).trans up4, .inr (.inr (by rw [hs]; exact hh4)), na, os, ag, hno rfl⟩
      first
        | exact wpAny_bind (wpAny_pure (wpAny_bind fin))
        | exact wpAny_bind fin
  · cases f with
    | next =>
      obtain ⟨σ', H', J', q⟩ := hsp
      exact wpAny_execs_nil ⟨σ', H', J'.ofTry ok, q⟩
    | brk =>
      obtain ⟨σ', H', J', q⟩ := hsp
      exact ⟨σ', H', J'.ofTry ok, q⟩
    | cont =>
      obtain ⟨σ', H', J', q⟩ := hsp
      exact ⟨σ', H', J'.ofTry ok, q⟩
    | ret u =>
      obtain ⟨v, σ', H', J', r, q⟩ := hsp
      exact ⟨v, σ', H', J'.ofTry ok, r, q⟩
end
end L2

/-! # an error that was caught: its class, its field -/
namespace PySem.W
open PySem PySem.Spec PySem.Calls PyProof.Rows
section
variable {prog : Program} {w : World} {A : Around} {E : Value → Shared → Prop} {s : Shared} {K : Frag} {x D : Addr} {ox : Obj} {od : Option Obj}
theorem findObj_dataO {C : Addr} {name : Str} {a g : Value} (hc : (clsIn K C).isSome = true) (ha : findIn K (.ref C) name = some (some a)) (hg : specialIn K a "__get__" = some (some g)) (ht : takesIn K a = some true) : findObj K C od name = some (.bind g a) := by
  obtain ⟨cd, hc⟩ := Option.isSome_iff_exists.mp hc
  unfold findObj
  rw [hc, Option.bind_some, ha, Option.bind_some]
  simp [hg, ht]
theorem kin_classO {Q : Option Value → Shared → Prop} (hga : findIn K (.ref D) "__getattribute__" = some (some (.builtin "BaseException.__getattribute__"))) (hgt : findIn K (.ref D) "__getattr__" = some none) (hsub : subIn K (.ref D) (.type "BaseException") = some true)
    (hdct : hasDictIn K D = true) (ha : findIn K (.ref D) "__class__" = some (some (.builtin "object.__class__")))
    (hn : specialIn K (.builtin "object.__class__") "__get__" = some (some (.builtin "getset_descriptor.__get__"))) (htk : takesIn K (.builtin "object.__class__") = some true) (hm : mroIn K D (.type "object") = some true)
    (X : K.In s.heap) (I : InstAt s.heap x ox D od) (h : Q (some (.ref D)) { s with toks := s.toks + 1 }) : wpAny (model prog w) A (getAttr? (.ref x) "__class__") Q E s := by
  have hf : findObj K D od "__class__" = some (.bind (.builtin "getset_descriptor.__get__") (.builtin "object.__class__")) := findObj_dataO (by obtain ⟨cd, hc, _⟩ := any_some hdct; rw [hc]; rfl) ha hn htk
  obtain ⟨hp, g, d, t, os⟩ := s
  have L0 := I.type (M := model prog w)
  have L1 := looks_findIn (M := model prog w) X hga
  have L2 := looks_findIn (M := model prog w) X hgt
  have L3 := looks_find (M := model prog w) X I hf
  have sub : Looks (model prog w) hp (isInstance (.ref x) (.type "BaseException")) true := L0.andThen (looks_subIn X hsub)
  have hx0 : (false && onTheHeap (Value.builtin "BaseException.__getattribute__")) = false := rfl
  have hx2 : (Value.builtin "BaseException.__getattribute__" == Value.builtin "object.__getattribute__") = false := by decide +kernel
  have hx1 : (onTheHeap (Value.ref D) && Value.builtin "BaseException.__getattribute__" == Value.builtin "object.__getattribute__") = false := by rw [hx2]; rfl
  unfold getAttr? getAttrBy? getAttrBy
  refine wpAny_bind (wpAny_mkText (wpAny_bind (wpAny_attempt (wpAny_holding (wpAny_bind (L0.at (wpAny_bind (L1.at ?_))))))))
  show wpAny _ _ (if (onTheHeap (Value.ref D) && Value.builtin "BaseException.__getattribute__" == Value.builtin "object.__getattribute__") = true then _ else _) _ _ _
  rw [hx1, if_neg Bool.false_ne_true]
  unfold getAttrByItsOwn hookBefore
  refine wpAny_bind ?_
  rw [if_pos (show onTheHeap (Value.ref D) = true from rfl)]
  refine L2.at ?_
  refine wpAny_bind (wpAny_attempt (wpAny_holding ?_))
  unfold callGetattribute
  rw [hx0, if_neg Bool.false_ne_true]
  unfold boundAndCalled
  rw [PySem.F.excAttr_ValueError.ga.bind (.ref x)]
  refine wpAny_bind (wpAny_pure ?_)
  show wpAny _ _ (call (.builtin "BaseException.__getattribute__") [.ref x, .str "__class__" t]) _ _ _
  refine wpAny_call (codeAny_call_builtin PySem.F.excAttr_ValueError.ga.plain PySem.F.entry_bexc_ga ?_)
  refine @check_slot (model prog w) _ _ ⟨hp, g, d, t + 1, os⟩ "BaseException.__getattribute__" "BaseException" "__getattribute__" (.ref x) [.str "__class__" t] [] _ (by decide +kernel) (by decide +kernel) sub (PySem.F.args_bexc_ga (.ref x) (.str "__class__" t)) ?_
  unfold Builtin.«object.__getattribute__»
  refine wpAny_bind (wpAny_of_eq (a := ((Value.ref x : Value), [Value.str "__class__" t])) (by first | rfl | (simp only [slotArgs]; rfl)) ?_)
  refine wpAny_bind (wpAny_pure (wpAny_bind (L0.at (wpAny_bind (L3.at ?_)))))
  show wpAny _ _ (holding [Value.builtin "object.__class__"] (call (.builtin "getset_descriptor.__get__") [.builtin "object.__class__", .ref x, .ref D]) >>= ret) _ _ _
  refine wpAny_bind (wpAny_holding (wpAny_call (class_get (s := ⟨hp, g, d, t + 1, os⟩) (ox := ox) (od := od) X I hm ?_)))
  refine wpAny_pure ?_
  show wpAny _ _ (handedOut (.ref D)) _ _ _
  rw [handedOut_of (v := .ref D) rfl]
  first
    | exact wpAny_pure (wpAny_pure h)
    | exact wpAny_pure h
    | exact wpAny_pure (wpAny_bind (wpAny_pure (wpAny_pure h)))
theorem kitx_excO (hga : findIn K (.ref D) "__getattribute__" = some (some (.builtin "BaseException.__getattribute__"))) (hgt : findIn K (.ref D) "__getattr__" = some none) (hsub : subIn K (.ref D) (.type "BaseException") = some true) (hdct : hasDictIn K D = true) (ha : findIn K (.ref D) "__class__" = some (some (.builtin "object.__class__")))
    (hn : specialIn K (.builtin "object.__class__") "__get__" = some (some (.builtin "getset_descriptor.__get__"))) (htk : takesIn K (.builtin "object.__class__") = some true) (hm : mroIn K D (.type "object") = some true) :
    KitX K (.ref x) (.ref D) (fun h => InstAt h x ox D od) where
  ty := fun _ _ _ I => I.type
  it := fun _ _ X _ => by
    obtain ⟨cdD, hcD, _⟩ := any_some hdct
    unfold clsIn at hcD
    split at hcD
    · rename_i c' d' cd' sl' ho
      intro A' Q' E' s' k q
      unfold isType loadHead
      exact wpAny_bind (wpAny_loadPart (k _ _ (X _ _ ho)) (wpAny_pure q))
    · cases hcD
  ne := fun h tp dd its n sl X htp => by
    obtain ⟨cdD, hcD, _⟩ := any_some hdct
    refine Bool.eq_false_iff.mpr fun q => ?_
    have e : D = tp := Value.ref.inj (beq_iff_eq.mp q)
    subst e
    unfold clsIn at hcD
    split at hcD
    · rename_i c' d' cd' sl' ho
      have z := (X _ _ ho).symm.trans htp
      cases z
    · cases hcD
  ca := fun X I k => kin_classO hga hgt hsub hdct ha hn htk hm X I k
end
end PySem.W
namespace Kp
open PySem PySem.Spec PyProof.Rows L2
section
variable {X : Cx} {pins : List (Addr × Obj)} {σ : L2.St} {H : Hp} {s : Shared}
theorem kept_at {cls : Value} {d : Option Addr} {a : Addr} (I : Inv X pins σ H s) (h : H a = some (KeptE cls d a)) : ∃ (oe : Obj) (vs : Array Value), s.heap.get? a = some oe ∧ Zc cls d oe ∧ oe.data = .fields vs := by
  have z : ObjOk X.prog X.w H s.heap a (KeptE cls d a) := I.hok a _ h
  exact z.1
theorem kept_inst {a Ce dd : Addr} {fs : List (Str × V)} (I : Inv X pins σ H s) (h : H a = some (KeptE (.ref Ce) (some dd) a)) (h2 : H dd = some (.xd fs)) :
    ∃ (oe od : Obj) (mA : Str → Option Value), PySem.W.InstAt s.heap a oe Ce (some od) ∧ (∀ f, RelO (fs.lookup f) (mA f)) ∧ ∀ f, PySem.W.lookIn f od = some (mA f) := by
  obtain ⟨oe, vs, ho, hz, hd⟩ := kept_at I h
  have hx : ObjOk X.prog X.w H s.heap dd (.xd fs) := I.hok dd _ h2
  obtain ⟨mA, hns, hr⟩ := hx
  obtain ⟨od, hod, hl⟩ := lookIn_ns hns
  exact ⟨oe, od, mA, ⟨ho, hz.1, by unfold PySem.W.notCls; rw [hd] <;> rfl, by rw [hz.2]; exact hod⟩, hr, hl⟩
/-- isinstance(e, c), e an error that was caught -/
def rIsK (K : PySem.W.Frag) : List V → Hp → VK → Prop := fun xs H Q => ∃ (a Ce dd : Addr) (fs : List (Str × V)) (c : V) (cv : Value) (b : Bool), xs = [.ref a, c] ∧ ExcC K Ce ∧ H a = some (KeptE (.ref Ce) (some dd) a) ∧ H dd = some (.xd fs) ∧ (∀ u, RelV c u → u = cv) ∧ PySem.W.kitOne K (.ref Ce) cv = some b ∧ Q (.bl b) H
theorem call_isK : CallR X (.builtin "isinstance") (rIsK X.K) := by
  intro pins s σ H xs us Q I r h
  obtain ⟨a, Ce, dd, fs, c, cv, b, rfl, C, h1, h2, hcv, e, q⟩ := h
  cases r with
  | cons rx rr =>
    cases rr with
    | cons rt rr =>
      cases rr
      cases rx
      have ec := hcv _ rt
      subst ec
      obtain ⟨oe, od, mA, J, _, _⟩ := kept_inst I h1 h2
      exact PySem.W.kia_one (PySem.W.kitx_excO C.hg C.hk C.hs C.hd C.ha C.hn C.ht C.hm) I.kIn J e (fun z => nomatch z) fun tk => ⟨.bl b, H, I.kept (t' := tk) fun _ _ z => z, rfl, q⟩
/-- e.f, e an error that was caught -/
def tXk (K : PySem.W.Frag) (f : Str) (te : TE) : TE := fun σ H Q => te σ H fun x H1 => ∃ (a Ce dd : Addr) (fs : List (Str × V)) (v : V), x = .ref a ∧ XfC K Ce ∧ PySem.W.findIn K (.ref Ce) f = some none ∧ H1 a = some (KeptE (.ref Ce) (some dd) a) ∧ H1 dd = some (.xd fs) ∧ fs.lookup f = some v ∧ Q v H1
theorem pe_xk {e : Expr} {te : TE} {pos : Pos} {n : Str} (he : PE X e te) (hb : attributeBase e n X.env (eval e X.env) = eval e X.env := by rfl) : PE X (.Attribute e n pos) (tXk X.K n te) := by
  refine ⟨fun pins s σ H Q I h => ?_⟩
  refine attr_of hb (thn (he.run pins s σ H _ I h) fun u s1 hh => ?_)
  obtain ⟨x, H1, I1, rx, a, Ce, dd, fs, v, ex, T, hno, h1, h2, l, q⟩ := hh
  subst ex
  obtain rfl : u = Value.ref a := rx
  obtain ⟨oe, od, mA, J, hr, hl⟩ := kept_inst I1 h1 h2
  obtain ⟨u, hu, ru⟩ := RelO.some_of (v := v) (o := mA n) (by rw [← l]; exact hr n)
  exact HandSPX.exc_get I1.kIn J T.ga T.gg T.exC (PySem.W.findObj_own T.hdC hno rfl (by rw [hl, hu])) (handed_of ru) ⟨v, H1, I1.tok _, ru, q⟩
end
section
variable {C : Addr} {X : Cx} {a : Expr} {γ : DSt} {d : D} {pos p : Pos}
theorem d_isE {Ce Cc : Addr} {f x : Str} {r : Bool} {p1 p2 : Pos} (T : ExcC X.K Ce) (hm : X.mg "isinstance" = Option.none) (hx : X.mg x = some (.ref Cc)) (ha : PD C X a γ (.exc Ce f d)) (hk : PySem.W.kitOne X.K (.ref Ce) (.ref Cc) = some r)
    (hg : Gl X "isinstance" := by rfl) (hgT : Gl X x := by rfl) (hd : (x == ("__debug__" : Str)) = false := by decide)
    (he : starEach [a, .Name x p2] X.env = (false, eval a X.env) :: starEach [.Name x p2] X.env := by rfl) (hs : starEach [.Name x p2] X.env = (false, eval (.Name x p2) X.env) :: starEach [] X.env := by rfl)
    (hpl : (backTo pos (starEach [.Name x p2] X.env)).any (·.1) = false := by rfl) : PD C X (.Call (.Name "isinstance" p1) [a, .Name x p2] [] pos) γ (.bl r) :=
  PE.weak (pe_callB call_isK hg hm (by decide +kernel) (pa_cons ha (pa_cons (pe_glob (v := .ref Cc) hgT hx rfl hd) pa_nil hs) he) (by decide) (by decide) he hpl) fun σ H Q ⟨G, s, sl, q⟩ => ⟨G, s, sl, fun v G1 H1 n1 a1 => by
    obtain ⟨b, dd, u, rfl, g1, g2, g3⟩ := a1.exc'
    exact ⟨b, Ce, dd, _, .ref Cc, .ref Cc, r, rfl, T, n1.s _ _ g1, n1.s _ _ g2, fun u h => h, hk, q _ G1 H1 n1 (At.bl _)⟩⟩
theorem d_xk {Ce : Addr} {f : Str} (T : XfC X.K Ce) (hno : PySem.W.findIn X.K (.ref Ce) f = some none) (ha : PD C X a γ (.exc Ce f d)) (hb : attributeBase a f X.env (eval a X.env) = eval a X.env := by rfl) : PD C X (.Attribute a f pos) γ d :=
  PE.weak (pe_xk ha hb) fun σ H Q ⟨G, s, sl, q⟩ => ⟨G, s, sl, fun v G1 H1 n1 a1 => by
    obtain ⟨b, dd, u, rfl, g1, g2, g3⟩ := a1.exc'
    exact ⟨b, Ce, dd, _, u, rfl, T, hno, n1.s _ _ g1, n1.s _ _ g2, by simp [List.lookup], q u G1 H1 n1 g3⟩⟩
end
end Kp

/-! # zip of texts, enumerate of a text, of a tuple -/
namespace PySem
open PySem.Calls
theorem meets_enum_newB1 {v : Value} {o : Obj} {H : Heap → Prop} (B : Begins v o H) :
    Meets (Builtin.«enumerate.__new__» ⟨[.type "enumerate", v], []⟩) (fun _ R s => H s.heap ∧ R (.ok (.ret (.ref (s.heap.push o).objs.size)))
        { s with heap := (s.heap.push o).push { cls := .type "enumerate", data := .fields #[.none, .bool false, .ref s.heap.objs.size, rawInt 0, .none, .none] } }) :=
  .of_wp fun prog w A R s ⟨h1, h⟩ => by
    obtain ⟨hp, g, d, tk, os⟩ := s
    have hsub := sub_enumerate
    have q1 : ∀ {A' : Around} {E : Value → Shared → Prop} {Q : Value → Shared → Prop}, Q (.ref hp.objs.size) ⟨hp.push o, g, d, tk, os⟩ → wpAny (model prog w) A' (pyIter v) Q E ⟨hp, g, d, tk, os⟩ :=
      fun q => B.iter prog w _ _ ⟨hp, g, d, tk, os⟩ _ h1 q
    wp_walk using q1
    refine wpAny_stack_any fun st => wpAny_pure ?_
    split
    · rename_i c _ _ _ _ _
      cases (c == Value.type "enumerate")
      · wp_walk using q1
        exact ⟨_, rfl, h⟩
      · wp_walk using q1
        exact ⟨_, rfl, h⟩
    · wp_walk using q1
      exact ⟨_, rfl, h⟩
section
variable {prog : Program} {w : World} {A : Around} {E : Value → Shared → Prop} {s : Shared}
theorem enum_begins1 {v : Value} {o : Obj} {H : Heap → Prop} {Q : Value → Shared → Prop} (B : Begins v o H) (h1 : H s.heap)
    (h : ∀ h', IsEnum h' (s.heap.objs.size + 1) s.heap.objs.size 0 .none → h'.get? s.heap.objs.size = some o → h'.objs.size = s.heap.objs.size + 2 →
      (∀ b o, s.heap.get? b = some o → h'.get? b = some o) → Q (.ref (s.heap.objs.size + 1)) { s with heap := h' }) :
    wpAny (model prog w) A (call (.type "enumerate") [v]) Q E s := by
  refine callType_new F.called_enumerate (by decide) (F.typeCall_enumerate_1 _) (F.newCall_enumerate_1 _) (fun obj => F.args_object_init_2 obj _) F.entry_enumerate_new
    (meets_enum_newB1 B) ⟨h1, ?_⟩
  have hz : (s.heap.push o).objs.size = s.heap.objs.size + 1 := Heap.size_push ..
  show _ ∧ _
  rw [hz]
  have he : IsEnum ((s.heap.push o).push { cls := .type "enumerate", data := .fields #[.none, .bool false, .ref s.heap.objs.size, rawInt 0, .none, .none] }) (s.heap.objs.size + 1) s.heap.objs.size 0 .none := by
    have := Heap.get?_push_size (s.heap.push o) (o := { cls := .type "enumerate", data := .fields #[.none, .bool false, .ref s.heap.objs.size, rawInt 0, .none, .none] }) rfl
    rw [hz] at this; exact this
  refine ⟨⟨_, he, rfl⟩, h _ he (Heap.get?_push_of_some _ (Heap.get?_push_size _ B.free)) (by rw [Heap.size_push, hz]) fun b o x => Heap.get?_push_of_some _ (Heap.get?_push_of_some _ x)⟩
end
end PySem
namespace Kp
open PySem PySem.Spec PyProof.Rows L2
/-- n new pairs, the i-th f i, while g stands -/
def Itp (g : Hp → Prop) (n : Nat) (f : Nat → Option (V × V)) : It := ⟨fun i H => i < n ∧ g H, fun i H v H' => ∃ T x y, v = .ref T ∧ H T = Option.none ∧ H' = upd H T (.tup [x, y]) ∧ f i = some (x, y), fun i H => i = n ∧ g H⟩
theorem turn_pairs {P : Program} {w : World} {K : PySem.W.Frag} {tg : Expr} {fp : List Addr} {it : Addr} {tn : Nat → Heap → Prop} {g : Hp → Prop} {n : Nat} {f : Nat → Option (V × V)} (mem : it ∈ fp)
    (obj : ∀ i h, tn i h → ∀ b ∈ fp, ∃ o, h.get? b = some o ∧ ∀ v, o.data ≠ .cell v) (keep : ∀ i h h', tn i h → (∀ b ∈ fp, ∀ o, h.get? b = some o → h'.get? b = some o) → tn i h')
    (self : ∀ (A : Around) (i : Nat) (s : Shared) (Q : Value → Shared → Prop) (E : Value → Shared → Prop), tn i s.heap → Q (.ref it) s → wpAny (model P w) A (pyIter (.ref it)) Q E s)
    (go : ∀ (X : Cx), X.prog = P → X.w = w → X.K = K → X.calm = true → ∀ (pins : List (Addr × Obj)) (s : Shared) (σ : L2.St) (H : Hp), Inv X pins σ H s → g H →
      ∃ (fp' wr : List Addr) (Y : Nat → Heap → Value → Heap → Prop) (St : Nat → Heap → Prop), (∀ b ∈ wr, b ∈ fp) ∧ GoesN P w X.A tg it fp' wr n Y St ∧ (∀ i, tn i s.heap → St i s.heap) ∧ (∀ i h, St i h → tn i h) ∧
        ∀ i h₀ v h, Y i h₀ v h → ∃ T x y u1 u2, v = .ref T ∧ h₀.objs.size ≤ T ∧ f i = some (x, y) ∧ RelV x u1 ∧ RelV y u2 ∧ IsTup h T #[u1, u2]) : Turn P w K tg (Itp g n f) fp it tn where
  mem := mem
  obj := obj
  keep := keep
  self := self
  item := by
    intro X hP hw hK hc i pins s σ H E I hf st hg
    obtain ⟨fp', wr, Y, St, hwr, W, to, back, hY⟩ := go X hP hw hK hc pins s σ H I hg.2
    subst hP hw hK
    refine W.goes i s (fun u s2 => ∃ x H', Inv X pins σ H' s2 ∧ RelV x u ∧ (Itp g n f).yld i H x H' ∧ tn (i + 1) s2.heap ∧ ∀ b ∈ fp, H' b = Option.none) E hg.1 (to i st) fun v h' tk hy st' hk htk => ?_
    obtain ⟨T, x, y, u1, u2, ev, hT, ef, r1, r2, ht⟩ := hY i s.heap v h' hy
    subst ev
    have new : ObjOk X.prog X.w (upd H T (.tup [x, y])) h' T (.tup [x, y]) := ⟨by show 2 ≤ sizeLine; decide, [u1, u2], .cons r1 (.cons r2 .nil), ht⟩
    have I1 : Inv X pins σ (upd H T (.tup [x, y])) { s with heap := h', toks := tk } := I.turnedNew (ch := fp) (fun c o hb q => hk c o (fun z => hb (hwr c z)) q) hf hT new
    refine ⟨.ref T, _, I1, rfl, ⟨T, x, y, rfl, I.hok.fresh hT, rfl, ef⟩, back _ _ st', fun b hb => ?_⟩
    obtain ⟨o, ho, _⟩ := obj i s.heap st b hb
    rw [upd_ne (Nat.ne_of_lt (Nat.lt_of_lt_of_le (Heap.lt_size ho) hT))]
    exact (hf b hb).1
  done := by
    intro X hP hw hK hc i pins s σ H E I hf st hg
    obtain ⟨fp', wr, Y, St, hwr, W, to, back, hY⟩ := go X hP hw hK hc pins s σ H I hg.2
    subst hP hw hK
    have e : i = n := hg.1
    subst e
    exact W.stops s (fun s1 => Inv X pins σ H s1) E (to _ st) fun h' tk hk htk => I.turnedL (t' := tk) (ch := fp) (fun c o hb q => hk c o (fun z => hb (hwr c z)) q) hf
/-! ### enumerate -/
theorem turn_enumS {P : Program} {w : World} {K : PySem.W.Frag} {elts : List Expr} {kk : Nat} {tpos : Pos} {e it : Addr} {x : Str} {t : Tok} (hne : e ≠ it) :
    Turn P w K (.Tuple elts kk tpos) (Itp (fun _ => True) x.cps.size fun i => x.cps[i]?.map fun c => (.int (i : Int), .str ⟨#[c]⟩)) [e, it] e (fun i h => (∃ old, IsEnum h e it (0 + (i : Int)) old) ∧ h.IsStrIter it (strIterType x) x t i) :=
  turn_pairs (by simp) (fun i h st b hb => by
    obtain ⟨⟨old, he⟩, ⟨o, ho, hc, hd⟩⟩ := st
    have e' : b = e ∨ b = it := by simpa using hb
    rcases e' with z | z
    · rw [z]; exact ⟨_, he, fun v q => nomatch q⟩
    · rw [z]; exact ⟨o, ho, fun v q => by rw [hd] at q; cases q⟩) (fun i h h' st k => by
    obtain ⟨⟨old, he⟩, ⟨o, ho, r⟩⟩ := st
    exact ⟨⟨old, k e (by simp) _ he⟩, o, k it (by simp) _ ho, r⟩) (fun A i s Q E st h => let ⟨⟨_, he⟩, _⟩ := st; wpAny_pyIter_enum he h)
    fun X hP hw hK hc pins s σ H I _ => ⟨_, _, _, _, fun b hb => hb, GoesN.enumFrom 0 (Draws.text (show X.A.in1.handled = Option.none from I.ok.hd hc) it x t) e hne (by simpa using hne) (by simp), fun i h => h, fun i h q => q, fun i h₀ v h hy => by
      obtain ⟨T, t', y, ev, hT, ⟨c, u, hx, ey⟩, ht⟩ := hy
      refine ⟨T, .int (i : Int), .str ⟨#[c]⟩, _, _, ev, hT, by rw [hx] <;> rfl, ⟨t', rfl⟩, ⟨u, ey⟩, ?_⟩
      rw [Int.zero_add] at ht
      exact ht⟩
theorem turn_enumT {P : Program} {w : World} {K : PySem.W.Frag} {elts : List Expr} {kk : Nat} {tpos : Pos} {e it t : Addr} {xs : List V} (hne : e ≠ it) (hti : t ≠ it) (hte : t ≠ e) :
    Turn P w K (.Tuple elts kk tpos) (Itp (fun H => SqT K H t xs) xs.length fun i => xs[i]?.map fun y => (.int (i : Int), y)) [e, it] e (fun i h => ((∃ old, IsEnum h e it (0 + (i : Int)) old) ∧ h.IsTupleIter it t i)) :=
  turn_pairs (by simp) (fun i h st b hb => by
    obtain ⟨⟨old, he⟩, ⟨o, ho, hc, hd⟩⟩ := st
    have e' : b = e ∨ b = it := by simpa using hb
    rcases e' with z | z
    · rw [z]; exact ⟨_, he, fun v q => nomatch q⟩
    · rw [z]; exact ⟨o, ho, fun v q => by rw [hd] at q; cases q⟩) (fun i h h' st k => by
    obtain ⟨⟨old, he⟩, ⟨o, ho, r⟩⟩ := st
    exact ⟨⟨old, k e (by simp) _ he⟩, o, k it (by simp) _ ho, r⟩) (fun A i s Q E st h => let ⟨⟨_, he⟩, _⟩ := st; wpAny_pyIter_enum he h)
    fun X hP hw hK hc pins s σ H I hg => by
      subst hK
      obtain ⟨its, rv, ht, _⟩ := I.tuple hg
      have el : xs.length = its.toArray.size := rv.length.trans (by simp)
      have W := GoesN.enumFrom (elts := elts) (x1 := kk) (pos := tpos) 0 (Draws.tuple (prog := P) (w := w) (A := X.A.in1) (show X.A.in1.handled = Option.none from I.ok.hd hc) it t hti its.toArray) e hne (by simp [hne, Ne.symm hte]) (by simp)
      rw [el]
      refine ⟨_, _, _, _, fun b hb => hb, W, fun i h => ⟨h.1, h.2, ht⟩, fun i h q => ⟨q.1, q.2.1⟩, fun i h₀ v h hy => ?_⟩
      obtain ⟨T, t', y, ev, hT, hx, ht'⟩ := hy
      have hx2 : its[i]? = some y := by simpa using hx
      obtain ⟨z, hz, rz⟩ : ∃ z, xs[i]? = some z ∧ RelV z y := by
        have hi : i < xs.length := by
          have := (List.getElem?_eq_some_iff.mp hx2).1
          rw [el]
          simpa using this
        obtain ⟨u, h1, h2⟩ := rv.get (List.getElem?_eq_getElem hi)
        rw [hx2] at h1
        cases h1
        exact ⟨_, List.getElem?_eq_getElem hi, h2⟩
      refine ⟨T, .int (i : Int), z, _, y, ev, hT, by rw [hz] <;> rfl, ⟨t', rfl⟩, rz, ?_⟩
      rw [Int.zero_add] at ht'
      exact ht'
/-! ### zip of texts -/
theorem turn_zipS {P : Program} {w : World} {K : PySem.W.Frag} {elts : List Expr} {kk : Nat} {tpos : Pos} {z TI TO i1 i2 : Addr} {x1 x2 : Str} {t1 t2 : Tok} (S : ZipSep2 z TI TO i1 i2 [i1] [i2]) :
    Turn P w K (.Tuple elts kk tpos) (Itp (fun _ => True) (min x1.cps.size x2.cps.size) fun i => x1.cps[i]?.bind fun c => x2.cps[i]?.map fun d => (.str ⟨#[c]⟩, .str ⟨#[d]⟩)) (z :: TI :: TO :: ([i1] ++ [i2])) z
      (fun i h => IsZip h z TI TO .none ∧ IsTupOf2 h TI (.ref i1) (.ref i2) ∧ (∃ a1 a2, IsTupOf2 h TO a1 a2) ∧ h.IsStrIter i1 (strIterType x1) x1 t1 i ∧ h.IsStrIter i2 (strIterType x2) x2 t2 i) :=
  turn_pairs (by simp) (fun i h st b hb => by
    obtain ⟨hz, hTI, ⟨x, y, hTO⟩, ⟨o1, e1, _, d1⟩, ⟨o2, e2, _, d2⟩⟩ := st
    have e' : b = z ∨ b = TI ∨ b = TO ∨ b = i1 ∨ b = i2 := by simpa using hb
    rcases e' with q | q | q | q | q
    · rw [q]; exact ⟨_, hz, fun v q => nomatch q⟩
    · rw [q]; exact ⟨_, hTI, fun v q => nomatch q⟩
    · rw [q]; exact ⟨_, hTO, fun v q => nomatch q⟩
    · rw [q]; exact ⟨o1, e1, fun v q => by rw [d1] at q; cases q⟩
    · rw [q]; exact ⟨o2, e2, fun v q => by rw [d2] at q; cases q⟩) (fun i h h' st k => by
    obtain ⟨hz, hTI, ⟨x, y, hTO⟩, ⟨o1, e1, r1⟩, ⟨o2, e2, r2⟩⟩ := st
    exact ⟨k z (by simp) _ hz, k TI (by simp) _ hTI, ⟨x, y, k TO (by simp) _ hTO⟩, ⟨o1, k i1 (by simp) _ e1, r1⟩, ⟨o2, k i2 (by simp) _ e2, r2⟩⟩) (fun A i s Q E st h => wpAny_pyIter_zip st.1 h)
    fun X hP hw hK hc pins s σ H I _ => ⟨_, _, _, _, fun b hb => by
        have e' : b = z ∨ b = TO ∨ b = i1 ∨ b = i2 := by simpa using hb
        rcases e' with q | q | q | q <;> simp [q], GoesN.zip2 S (Draws.text (show X.A.in1.handled = Option.none from I.ok.hd hc) i1 x1 t1) (Draws.text (show X.A.in1.handled = Option.none from I.ok.hd hc) i2 x2 t2), fun i h => h, fun i h q => q, fun i h₀ v h hy => by
      obtain ⟨T, y1, y2, ev, hT, ⟨c, u, hx, ey⟩, ⟨c2, u2, hx2, ey2⟩, ht⟩ := hy
      exact ⟨T, .str ⟨#[c]⟩, .str ⟨#[c2]⟩, _, _, ev, hT, by rw [hx, hx2] <;> rfl, ⟨u, ey⟩, ⟨u2, ey2⟩, ht⟩⟩
/-! ### the walks as rules -/
def iEnumS (ta : TA) : TI := fun σ H R => ta σ H fun vs H1 => ∃ x, vs = [.str x] ∧ R (Itp (fun _ => True) x.cps.size fun i => x.cps[i]?.map fun c => (.int (i : Int), .str ⟨#[c]⟩)) H1
theorem pi_enumS {X : Cx} {e : Expr} {ta : TA} {p pos tpos : Pos} {elts : List Expr} {kk : Nat} (hg : Gl X "enumerate") (hm : X.mg "enumerate" = Option.none) (ha : PA X [e] ta) (hs : starEach [e] X.env = [(false, eval e X.env)] := by rfl) :
    PI X (.Tuple elts kk tpos) (.Call (.Name "enumerate" p) [e] [] pos) (iEnumS ta) := by
  refine ⟨fun pins s σ H R I h => ?_⟩
  refine Call_ (ld_blt I hg hm PyProof.Rows.boot_enumerate (PyProof.Rows.callWith_type1 (thn (ha.run pos pins s σ H _ I h) fun us s1 ⟨vs, H1, I1, r1, q1⟩ => ?_) hs rfl))
  obtain ⟨x, ex, q⟩ := q1
  subst ex
  obtain ⟨u, rfl, r⟩ := vals1 r1
  obtain ⟨t, rfl⟩ := r
  refine call_enumerate_str fun h' he hit hsz hk => wpAny_pyIter_enum he ?_
  have I2 : Inv X pins σ H1 { s1 with heap := h' } := I1.kept (t' := s1.toks) hk
  refine ⟨s1.heap.objs.size + 1, [s1.heap.objs.size + 1, s1.heap.objs.size], _, _, H1, rfl, I2, turn_enumS (Nat.succ_ne_self _), ⟨⟨.none, he⟩, hit⟩, fun b hb => ?_, q⟩
  have e' : b = s1.heap.objs.size + 1 ∨ b = s1.heap.objs.size := by simpa using hb
  have hle : s1.heap.objs.size ≤ b := by
    rcases e' with z | z
    · rw [z]; exact Nat.le_add_right _ _
    · rw [z]; exact Nat.le_refl _
  exact I1.fpOk hle (I1.hok.fresh hle)
def iEnumT (K : PySem.W.Frag) (ta : TA) : TI := fun σ H R => ta σ H fun vs H1 => ∃ t xs, vs = [.ref t] ∧ SqT K H1 t xs ∧ R (Itp (fun H => SqT K H t xs) xs.length fun i => xs[i]?.map fun y => (.int (i : Int), y)) H1
theorem pi_enumT {X : Cx} {e : Expr} {ta : TA} {p pos tpos : Pos} {elts : List Expr} {kk : Nat} (hg : Gl X "enumerate") (hm : X.mg "enumerate" = Option.none) (ha : PA X [e] ta) (hs : starEach [e] X.env = [(false, eval e X.env)] := by rfl) :
    PI X (.Tuple elts kk tpos) (.Call (.Name "enumerate" p) [e] [] pos) (iEnumT X.K ta) := by
  refine ⟨fun pins s σ H R I h => ?_⟩
  refine Call_ (ld_blt I hg hm PyProof.Rows.boot_enumerate (PyProof.Rows.callWith_type1 (thn (ha.run pos pins s σ H _ I h) fun us s1 ⟨vs, H1, I1, r1, q1⟩ => ?_) hs rfl))
  obtain ⟨t, xs, ex, hq, q⟩ := q1
  subst ex
  rw [Vals.ref1 r1]
  obtain ⟨its, rv, ht, _⟩ := I1.tuple hq
  have lt : t < s1.heap.objs.size := ht.lt
  refine enum_begins1 (begins_tuple t its.toArray) ht fun h' he hit hsz hk => wpAny_pyIter_enum he ?_
  have I2 : Inv X pins σ H1 { s1 with heap := h' } := I1.kept (t' := s1.toks) hk
  refine ⟨s1.heap.objs.size + 1, [s1.heap.objs.size + 1, s1.heap.objs.size], _, _, H1, rfl, I2, turn_enumT (Nat.succ_ne_self _) (Nat.ne_of_lt lt) (Nat.ne_of_lt (Nat.lt_succ_of_lt lt)), ⟨⟨.none, he⟩, _, hit, rfl, rfl⟩, fun b hb => ?_, q⟩
  have e' : b = s1.heap.objs.size + 1 ∨ b = s1.heap.objs.size := by simpa using hb
  have hle : s1.heap.objs.size ≤ b := by
    rcases e' with z | z
    · rw [z]; exact Nat.le_add_right _ _
    · rw [z]; exact Nat.le_refl _
  exact I1.fpOk hle (I1.hok.fresh hle)
def iZipS (ta : TA) : TI := fun σ H R => ta σ H fun vs H1 => ∃ x1 x2, vs = [.str x1, .str x2] ∧ R (Itp (fun _ => True) (min x1.cps.size x2.cps.size) fun i => x1.cps[i]?.bind fun c => x2.cps[i]?.map fun d => (.str ⟨#[c]⟩, .str ⟨#[d]⟩)) H1
theorem pi_zipS {X : Cx} {e e2 : Expr} {ta : TA} {p pos tpos : Pos} {elts : List Expr} {kk : Nat} (hg : Gl X "zip") (hm : X.mg "zip" = Option.none) (ha : PA X [e, e2] ta)
    (hs : starEach [e, e2] X.env = (false, eval e X.env) :: starEach [e2] X.env := by rfl) (hpl : (backTo pos (starEach [e2] X.env)).any (·.1) = false := by rfl) :
    PI X (.Tuple elts kk tpos) (.Call (.Name "zip" p) [e, e2] [] pos) (iZipS ta) := by
  refine ⟨fun pins s σ H R I h => ?_⟩
  refine Call_ (ld_blt I hg hm PyProof.Rows.boot_zip (PyProof.Rows.callWith_type1 (thn (ha.run pos pins s σ H _ I h) fun us s1 ⟨vs, H1, I1, r1, q1⟩ => ?_) hs hpl))
  obtain ⟨x1, x2, ex, q⟩ := q1
  subst ex
  obtain ⟨u1, u2, rfl, ra, rb⟩ := vals2 r1
  obtain ⟨t1, rfl⟩ := ra
  obtain ⟨t2, rfl⟩ := rb
  refine zip_begins2 (begins_text x1 t1) (begins_text x2 t2) trivial trivial fun h' hz hTI hTO h1 h2 hsz hk => wpAny_pyIter_zip hz ?_
  have I2 : Inv X pins σ H1 { s1 with heap := h' } := I1.kept (t' := s1.toks) hk
  have S := zip_sep2 (N := s1.heap.objs.size) (fp1 := []) (fp2 := []) (by simp) (by simp)
  refine ⟨s1.heap.objs.size + 4, _, _, _, H1, rfl, I2, turn_zipS S, ⟨hz, hTI, ⟨_, _, hTO⟩, ⟨_, h1, rfl, rfl⟩, ⟨_, h2, rfl, rfl⟩⟩, fun c hcm => ?_, q⟩
  have e' : c = s1.heap.objs.size + 4 ∨ c = s1.heap.objs.size + 2 ∨ c = s1.heap.objs.size + 3 ∨ c = s1.heap.objs.size ∨ c = s1.heap.objs.size + 1 := by simpa using hcm
  have hle : s1.heap.objs.size ≤ c := by
    rcases e' with z | z | z | z | z
    · rw [z]; exact Nat.le_add_right _ _
    · rw [z]; exact Nat.le_add_right _ _
    · rw [z]; exact Nat.le_add_right _ _
    · rw [z]; exact Nat.le_refl _
    · rw [z]; exact Nat.le_add_right _ _
  exact I1.fpOk hle (I1.hok.fresh hle)
/-! ### on data -/
section
variable {K : PySem.W.Frag} {C : Addr} {G : Hp}
theorem wk_pairs {g : Hp → Prop} {n : Nat} {f : Nat → Option (V × V)} {xs : List D} (hg : ∀ H, Same G H → g H) (hn : xs.length = n) (hf : ∀ i x y, i < n → f i = some (x, y) → ∃ d1 d2, xs[i]? = some (.tup [d1, d2]) ∧ At K C G d1 x ∧ At K C G d2 y) : WkD K C (Itp g n f) G xs where
  goes := fun i H hi s => ⟨by rw [← hn]; exact hi, hg H s⟩
  stops := fun H s => ⟨hn, hg H s⟩
  yields := fun i H v H' Gi hi gi s y => by
    obtain ⟨T, x, y, e1, e2, e3, e4⟩ := y
    obtain ⟨d1, d2, h1, h2, h3⟩ := hf i x y (by rw [← hn]; exact hi) e4
    rw [e1, e3]
    have up := gi.trans (Same.new (o := .tup [x, y]) (s.free e2))
    exact ⟨_, _, h1, Nx.new s e2, At.tup (.inl (.inl upd_same)) (.cons (h2.mono up) (.cons (h3.mono up) .nil))⟩
end
section
variable {C : Addr} {X : Cx} {tg e e2 : Expr} {γ : DSt} {xs : List D} {pos p tpos : Pos} {elts : List Expr} {kk : Nat}
theorem i_enumT (hm : X.mg "enumerate" = Option.none) (h : PAD C X [e] γ [.tup xs]) (hg : Gl X "enumerate" := by rfl) (hs : starEach [e] X.env = [(false, eval e X.env)] := by rfl) : PID C X (.Tuple elts kk tpos) (.Call (.Name "enumerate" p) [e] [] pos) γ (enD xs) :=
  PI.weak (pi_enumT hg hm h hs) fun σ H R ⟨G, s, sl, k⟩ => ⟨G, s, sl, fun vs G1 H1 n1 a1 => by
    obtain ⟨v, r, rfl, h2, h3⟩ := a1.inv
    rw [h3.inv0]
    obtain ⟨a, us, rfl, g, r⟩ := h2.tup'
    refine ⟨a, us, rfl, same_t n1.s g, k _ G1 H1 n1 (wk_pairs (fun H s => same_t s g) (by rw [enD_len, r.len]) fun i x y hi he => ?_)⟩
    cases hu : us[i]? with
    | none =>
      rw [hu] at he
      cases he
    | some u =>
      rw [hu] at he
      cases he
      obtain ⟨d, h4, h5⟩ := r.getV hu
      exact ⟨_, _, enD_get h4, At.int _, h5⟩⟩
theorem i_enumS {t : Str} (hm : X.mg "enumerate" = Option.none) (h : PAD C X [e] γ [.str t]) (hg : Gl X "enumerate" := by rfl) (hs : starEach [e] X.env = [(false, eval e X.env)] := by rfl) : PID C X (.Tuple elts kk tpos) (.Call (.Name "enumerate" p) [e] [] pos) γ (enD (sgD t)) :=
  PI.weak (pi_enumS hg hm h hs) fun σ H R ⟨G, s, sl, k⟩ => ⟨G, s, sl, fun vs G1 H1 n1 a1 => by
    obtain ⟨v, r, rfl, h2, h3⟩ := a1.inv
    rw [h3.inv0, h2.str']
    refine ⟨t, rfl, k _ G1 H1 n1 (wk_pairs (fun H s => trivial) (by rw [enD_len]; unfold sgD; simp) fun i x y hi he => ?_)⟩
    cases hu : t.cps[i]? with
    | none =>
      rw [hu] at he
      cases he
    | some u =>
      rw [hu] at he
      cases he
      refine ⟨_, _, enD_get (d := .str ⟨#[u]⟩) ?_, At.int _, At.str _⟩
      unfold sgD
      rw [List.getElem?_map, Array.getElem?_toList, hu] <;> rfl⟩
def zpD (xs ys : List D) : List D := (xs.zip ys).map fun p => .tup [p.1, p.2]
theorem i_zipS {t u : Str} (hm : X.mg "zip" = Option.none) (h : PAD C X [e, e2] γ [.str t, .str u]) (hg : Gl X "zip" := by rfl) (hs : starEach [e, e2] X.env = (false, eval e X.env) :: starEach [e2] X.env := by rfl) (hpl : (backTo pos (starEach [e2] X.env)).any (·.1) = false := by rfl) :
    PID C X (.Tuple elts kk tpos) (.Call (.Name "zip" p) [e, e2] [] pos) γ (zpD (sgD t) (sgD u)) :=
  PI.weak (pi_zipS hg hm h hs hpl) fun σ H R ⟨G, s, sl, k⟩ => ⟨G, s, sl, fun vs G1 H1 n1 a1 => by
    obtain ⟨v, r, rfl, h2, h3⟩ := a1.inv
    obtain ⟨v2, r2, rfl, h4, h5⟩ := h3.inv
    rw [h5.inv0, h2.str', h4.str']
    refine ⟨t, u, rfl, k _ G1 H1 n1 (wk_pairs (fun H s => trivial) (by unfold zpD sgD; simp) fun i x y hi he => ?_)⟩
    cases hu : t.cps[i]? with
    | none =>
      rw [hu] at he
      cases he
    | some c =>
      cases hv : u.cps[i]? with
      | none =>
        rw [hu, hv] at he
        cases he
      | some c2 =>
        rw [hu, hv] at he
        cases he
        refine ⟨.str ⟨#[c]⟩, .str ⟨#[c2]⟩, ?_, At.str _, At.str _⟩
        unfold zpD sgD
        have q1 : (t.cps.toList.map fun c => D.str ⟨#[c]⟩)[i]? = some (D.str ⟨#[c]⟩) := by rw [List.getElem?_map, Array.getElem?_toList, hu] <;> rfl
        have q2 : (u.cps.toList.map fun c => D.str ⟨#[c]⟩)[i]? = some (D.str ⟨#[c2]⟩) := by rw [List.getElem?_map, Array.getElem?_toList, hv] <;> rfl
        have q3 : ((t.cps.toList.map fun c => D.str ⟨#[c]⟩).zip (u.cps.toList.map fun c => D.str ⟨#[c]⟩))[i]? = some (D.str ⟨#[c]⟩, D.str ⟨#[c2]⟩) := List.getElem?_zip_eq_some.mpr ⟨q1, q2⟩
        rw [List.getElem?_map, q3] <;> rfl⟩
end
end Kp

/-! # The text by places -/
namespace Kp
open PySem PySem.Spec PyProof.Rows L2
def topS (i : Nat) : Stmt := PySem.Challenge.pw_keepplace_k30_whole_smallest_languages.main.body.getD i (.Pass ⟨0, 0, 0, 0⟩)
abbrev s__wall : Stmt := topS 0
abbrev n__wall : List Str := ["k"]
abbrev s_InvalidWord_init : Stmt := inClass (topS 3) 0
abbrev n_InvalidWord_init : List Str := ["self", "index"]
theorem sc_InvalidWord_init : FnScope n_InvalidWord_init ["self", "index"] (defScope s_InvalidWord_init) := ⟨rfl, rfl, rfl, by decide +kernel, rfl, by decide +kernel, by decide +kernel⟩
abbrev s_InvalidKinds_init : Stmt := inClass (topS 4) 0
abbrev n_InvalidKinds_init : List Str := ["self", "index"]
theorem sc_InvalidKinds_init : FnScope n_InvalidKinds_init ["self", "index"] (defScope s_InvalidKinds_init) := ⟨rfl, rfl, rfl, by decide +kernel, rfl, by decide +kernel, by decide +kernel⟩
abbrev s_InvalidSize_init : Stmt := inClass (topS 5) 0
abbrev n_InvalidSize_init : List Str := ["self", "number"]
theorem sc_InvalidSize_init : FnScope n_InvalidSize_init ["self", "number"] (defScope s_InvalidSize_init) := ⟨rfl, rfl, rfl, by decide +kernel, rfl, by decide +kernel, by decide +kernel⟩
abbrev s_is_integer : Stmt := topS 7
abbrev n_is_integer : List Str := ["value"]
theorem sc_is_integer : FnScope n_is_integer ["value"] (defScope s_is_integer) := ⟨rfl, rfl, rfl, by decide +kernel, rfl, by decide +kernel, by decide +kernel⟩
abbrev s_is_place : Stmt := topS 8
abbrev n_is_place : List Str := ["value", "size"]
theorem sc_is_place : FnScope n_is_place ["value", "size"] (defScope s_is_place) := ⟨rfl, rfl, rfl, by decide +kernel, rfl, by decide +kernel, by decide +kernel⟩
abbrev s_applied : Stmt := topS 9
abbrev n_applied : List Str := ["items", "change", "item", "found", "word", "taken"]
theorem sc_applied : FnScope n_applied ["items", "change", "item"] (defScope s_applied) := ⟨rfl, rfl, rfl, by decide +kernel, rfl, by decide +kernel, by decide +kernel⟩
abbrev s_is_word : Stmt := topS 15
abbrev n_is_word : List Str := ["value", "letter"]
theorem sc_is_word : FnScope n_is_word ["value"] (defScope s_is_word) := ⟨rfl, rfl, rfl, by decide +kernel, rfl, by decide +kernel, by decide +kernel⟩
abbrev s_is_form : Stmt := topS 16
abbrev n_is_form : List Str := ["value"]
theorem sc_is_form : FnScope n_is_form ["value"] (defScope s_is_form) := ⟨rfl, rfl, rfl, by decide +kernel, rfl, by decide +kernel, by decide +kernel⟩
abbrev s_runs_of : Stmt := topS 17
abbrev n_runs_of : List Str := ["word", "one", "other"]
theorem sc_runs_of : FnScope n_runs_of ["word"] (defScope s_runs_of) := ⟨rfl, rfl, rfl, by decide +kernel, rfl, by decide +kernel, by decide +kernel⟩
abbrev s_need_size : Stmt := topS 18
abbrev n_need_size : List Str := ["size"]
theorem sc_need_size : FnScope n_need_size ["size"] (defScope s_need_size) := ⟨rfl, rfl, rfl, by decide +kernel, rfl, by decide +kernel, by decide +kernel⟩
abbrev s_chosen : Stmt := topS 19
abbrev n_chosen : List Str := ["many", "few", "found", "at"]
theorem sc_chosen : FnScope n_chosen ["many", "few"] (defScope s_chosen) := ⟨rfl, rfl, rfl, by decide +kernel, rfl, by decide +kernel, by decide +kernel⟩
abbrev s_Language_init : Stmt := inClass (topS 20) 0
abbrev n_Language_init : List Str := ["self", "forms", "index", "form", "longest"]
theorem sc_Language_init : FnScope n_Language_init ["self", "forms"] (defScope s_Language_init) := ⟨rfl, rfl, rfl, by decide +kernel, rfl, by decide +kernel, by decide +kernel⟩
abbrev s_Language_forms : Stmt := inClass (topS 20) 1
abbrev n_Language_forms : List Str := ["self"]
theorem sc_Language_forms : FnScope n_Language_forms ["self"] (defScope s_Language_forms) := ⟨rfl, rfl, rfl, by decide +kernel, rfl, by decide +kernel, by decide +kernel⟩
abbrev s_Language_eq : Stmt := inClass (topS 20) 2
abbrev n_Language_eq : List Str := ["self", "other"]
theorem sc_Language_eq : FnScope n_Language_eq ["self", "other"] (defScope s_Language_eq) := ⟨rfl, rfl, rfl, by decide +kernel, rfl, by decide +kernel, by decide +kernel⟩
abbrev s_Language_contains : Stmt := inClass (topS 20) 3
abbrev n_Language_contains : List Str := ["self", "word"]
theorem sc_Language_contains : FnScope n_Language_contains ["self", "word"] (defScope s_Language_contains) := ⟨rfl, rfl, rfl, by decide +kernel, rfl, by decide +kernel, by decide +kernel⟩
abbrev s_Language_lets : Stmt := inClass (topS 20) 4
abbrev n_Language_lets : List Str := ["self", "word", "many"]
theorem sc_Language_lets : FnScope n_Language_lets ["self", "word"] (defScope s_Language_lets) := ⟨rfl, rfl, rfl, by decide +kernel, rfl, by decide +kernel, by decide +kernel⟩
abbrev s_Language_ends : Stmt := inClass (topS 20) 5
abbrev n_Language_ends : List Str := ["self", "begun", "left", "many", "found", "more"]
theorem sc_Language_ends : FnScope n_Language_ends ["self", "begun", "left"] (defScope s_Language_ends) := ⟨rfl, rfl, rfl, by decide +kernel, rfl, by decide +kernel, by decide +kernel⟩
abbrev s_Language_many : Stmt := inClass (topS 20) 6
abbrev n_Language_many : List Str := ["self", "size", "found", "more"]
theorem sc_Language_many : FnScope n_Language_many ["self", "size"] (defScope s_Language_many) := ⟨rfl, rfl, rfl, by decide +kernel, rfl, by decide +kernel, by decide +kernel⟩
abbrev s_Language_count : Stmt := inClass (topS 20) 7
abbrev n_Language_count : List Str := ["self", "size"]
theorem sc_Language_count : FnScope n_Language_count ["self", "size"] (defScope s_Language_count) := ⟨rfl, rfl, rfl, by decide +kernel, rfl, by decide +kernel, by decide +kernel⟩
abbrev s_Language_made : Stmt := inClass (topS 20) 8
abbrev n_Language_made : List Str := ["self", "size", "number", "found", "left", "low"]
theorem sc_Language_made : FnScope n_Language_made ["self", "size", "number"] (defScope s_Language_made) := ⟨rfl, rfl, rfl, by decide +kernel, rfl, by decide +kernel, by decide +kernel⟩
abbrev s_Language_words : Stmt := inClass (topS 20) 9
abbrev n_Language_words : List Str := ["self", "size", "number"]
abbrev s_Language_rank : Stmt := inClass (topS 20) 10
abbrev n_Language_rank : List Str := ["self", "word", "found", "at", "letter"]
abbrev s_Language_word_at : Stmt := inClass (topS 20) 11
abbrev n_Language_word_at : List Str := ["self", "size", "number"]
abbrev s_led : Stmt := topS 21
abbrev n_led : List Str := ["word", "step", "at", "letter", "letters"]
theorem sc_led : FnScope n_led ["word", "step"] (defScope s_led) := ⟨rfl, rfl, rfl, by decide +kernel, rfl, by decide +kernel, by decide +kernel⟩
abbrev s_need_kinds : Stmt := topS 22
abbrev n_need_kinds : List Str := ["kinds", "index", "kind"]
theorem sc_need_kinds : FnScope n_need_kinds ["kinds"] (defScope s_need_kinds) := ⟨rfl, rfl, rfl, by decide +kernel, rfl, by decide +kernel, by decide +kernel⟩
abbrev s_places_of : Stmt := topS 23
abbrev n_places_of : List Str := ["kind", "size"]
theorem sc_places_of : FnScope n_places_of ["kind", "size"] (defScope s_places_of) := ⟨rfl, rfl, rfl, by decide +kernel, rfl, by decide +kernel, by decide +kernel⟩
abbrev s_steps_of : Stmt := topS 24
abbrev n_steps_of : List Str := ["kind", "size", "place", "many", "pairs", "other", "pair"]
theorem sc_steps_of : FnScope n_steps_of ["kind", "size"] (defScope s_steps_of) := ⟨rfl, rfl, rfl, by decide +kernel, rfl, by decide +kernel, by decide +kernel⟩
abbrev s_leads_out : Stmt := topS 25
abbrev n_leads_out : List Str := ["language", "word", "step", "later"]
theorem sc_leads_out : FnScope n_leads_out ["language", "word", "step"] (defScope s_leads_out) := ⟨rfl, rfl, rfl, by decide +kernel, rfl, by decide +kernel, by decide +kernel⟩
abbrev s_first_open : Stmt := topS 26
abbrev n_first_open : List Str := ["language", "kinds", "size", "steps", "kind", "step", "word"]
theorem sc_first_open : FnScope n_first_open ["language", "kinds"] (defScope s_first_open) := ⟨rfl, rfl, rfl, by decide +kernel, rfl, by decide +kernel, by decide +kernel⟩
abbrev s_open_at : Stmt := topS 27
abbrev n_open_at : List Str := ["language", "kinds"]
theorem sc_open_at : FnScope n_open_at ["language", "kinds"] (defScope s_open_at) := ⟨rfl, rfl, rfl, by decide +kernel, rfl, by decide +kernel, by decide +kernel⟩
abbrev s_need_deletes : Stmt := topS 29
abbrev n_need_deletes : List Str := ["kinds"]
theorem sc_need_deletes : FnScope n_need_deletes ["kinds"] (defScope s_need_deletes) := ⟨rfl, rfl, rfl, by decide +kernel, rfl, by decide +kernel, by decide +kernel⟩
abbrev s_sorts_at : Stmt := topS 30
abbrev n_sorts_at : List Str := ["kinds", "end", "ends", "how", "one"]
theorem sc_sorts_at : FnScope n_sorts_at ["kinds", "end"] (defScope s_sorts_at) := ⟨rfl, rfl, rfl, by decide +kernel, rfl, by decide +kernel, by decide +kernel⟩
abbrev s_smallest_of : Stmt := topS 31
abbrev n_smallest_of : List Str := ["kinds", "front", "back"]
theorem sc_smallest_of : FnScope n_smallest_of ["kinds"] (defScope s_smallest_of) := ⟨rfl, rfl, rfl, by decide +kernel, rfl, by decide +kernel, by decide +kernel⟩
abbrev s_smallest : Stmt := topS 32
abbrev n_smallest : List Str := ["kinds"]
theorem sc_smallest : FnScope n_smallest ["kinds"] (defScope s_smallest) := ⟨rfl, rfl, rfl, by decide +kernel, rfl, by decide +kernel, by decide +kernel⟩
abbrev s_needed : Stmt := topS 33
abbrev n_needed : List Str := ["kinds", "size"]
theorem sc_needed : FnScope n_needed ["kinds", "size"] (defScope s_needed) := ⟨rfl, rfl, rfl, by decide +kernel, rfl, by decide +kernel, by decide +kernel⟩
abbrev s_L_begin : Stmt := topS 35
abbrev n_L_begin : List Str := ["_law_script", "_law_items", "_law_item"]
theorem sc_L_begin : FnScope n_L_begin ["_law_script"] (defScope s_L_begin) := ⟨rfl, rfl, rfl, by decide +kernel, rfl, by decide +kernel, by decide +kernel⟩
abbrev s_L_mixed : Stmt := topS 36
abbrev n_L_mixed : List Str := ["_law_draw", "_law_whole", "_law_prime", "_law_part", "_law_item"]
theorem sc_L_mixed : FnScope n_L_mixed ["_law_draw"] (defScope s_L_mixed) := ⟨rfl, rfl, rfl, by decide +kernel, rfl, by decide +kernel, by decide +kernel⟩
abbrev s_L_take : Stmt := topS 37
abbrev n_L_take : List Str := ["_law_draw", "_law_wide", "_law_digit"]
theorem sc_L_take : FnScope n_L_take ["_law_draw", "_law_wide"] (defScope s_L_take) := ⟨rfl, rfl, rfl, by decide +kernel, rfl, by decide +kernel, by decide +kernel⟩
abbrev s_L_pick : Stmt := topS 38
abbrev n_L_pick : List Str := ["_law_draw", "_law_some"]
theorem sc_L_pick : FnScope n_L_pick ["_law_draw", "_law_some"] (defScope s_L_pick) := ⟨rfl, rfl, rfl, by decide +kernel, rfl, by decide +kernel, by decide +kernel⟩
abbrev s_L_all_words : Stmt := topS 39
abbrev n_L_all_words : List Str := ["_law_many_here", "_law_found", "_law_k", "_law_page"]
theorem sc_L_all_words : FnScope n_L_all_words ["_law_many_here"] (defScope s_L_all_words) := ⟨rfl, rfl, rfl, by decide +kernel, rfl, by decide +kernel, by decide +kernel⟩
abbrev s_L_fits : Stmt := topS 40
abbrev n_L_fits : List Str := ["_law_form", "_law_page", "_law_spot", "_law_sign"]
theorem sc_L_fits : FnScope n_L_fits ["_law_form", "_law_page"] (defScope s_L_fits) := ⟨rfl, rfl, rfl, by decide +kernel, rfl, by decide +kernel, by decide +kernel⟩
abbrev s_L_has : Stmt := topS 41
abbrev n_L_has : List Str := ["_law_forms_here", "_law_page", "_law_form"]
theorem sc_L_has : FnScope n_L_has ["_law_forms_here", "_law_page"] (defScope s_L_has) := ⟨rfl, rfl, rfl, by decide +kernel, rfl, by decide +kernel, by decide +kernel⟩
abbrev s_L_forms : Stmt := topS 42
abbrev n_L_forms : List Str := ["_law_draw", "_law_menu", "_law_k"]
theorem sc_L_forms : FnScope n_L_forms ["_law_draw"] (defScope s_L_forms) := ⟨rfl, rfl, rfl, by decide +kernel, rfl, by decide +kernel, by decide +kernel⟩
abbrev s_L_sorts : Stmt := topS 43
abbrev n_L_sorts : List Str := ["_law_draw", "_law_least", "_law_menu", "_law_some", "_law_k", "_law_sort", "_law_cut"]
theorem sc_L_sorts : FnScope n_L_sorts ["_law_draw", "_law_least"] (defScope s_L_sorts) := ⟨rfl, rfl, rfl, by decide +kernel, rfl, by decide +kernel, by decide +kernel⟩
abbrev s_L_letters : Stmt := topS 44
abbrev n_L_letters : List Str := ["_law_how"]
theorem sc_L_letters : FnScope n_L_letters ["_law_how"] (defScope s_L_letters) := ⟨rfl, rfl, rfl, by decide +kernel, rfl, by decide +kernel, by decide +kernel⟩
abbrev s_L_led : Stmt := topS 45
abbrev n_L_led : List Str := ["_law_page", "_law_deed", "_law_spots", "_law_at", "_law_sign", "_law_signs", "_law_taken"]
theorem sc_L_led : FnScope n_L_led ["_law_page", "_law_deed"] (defScope s_L_led) := ⟨rfl, rfl, rfl, by decide +kernel, rfl, by decide +kernel, by decide +kernel⟩
abbrev s_L_deeds_of : Stmt := topS 46
abbrev n_L_deeds_of : List Str := ["_law_sort", "_law_many_here", "_law_spots", "_law_at", "_law_found", "_law_others", "_law_other", "_law_end", "_law_how"]
theorem sc_L_deeds_of : FnScope n_L_deeds_of ["_law_sort", "_law_many_here"] (defScope s_L_deeds_of) := ⟨rfl, rfl, rfl, by decide +kernel, rfl, by decide +kernel, by decide +kernel⟩
abbrev s_L_deeds : Stmt := topS 47
abbrev n_L_deeds : List Str := ["_law_sorts_here", "_law_page", "_law_found", "_law_sort"]
theorem sc_L_deeds : FnScope n_L_deeds ["_law_sorts_here", "_law_page"] (defScope s_L_deeds) := ⟨rfl, rfl, rfl, by decide +kernel, rfl, by decide +kernel, by decide +kernel⟩
abbrev s_L_is_left : Stmt := topS 48
abbrev n_L_is_left : List Str := ["_law_forms_here", "_law_page", "_law_deed", "_law_one"]
theorem sc_L_is_left : FnScope n_L_is_left ["_law_forms_here", "_law_page", "_law_deed"] (defScope s_L_is_left) := ⟨rfl, rfl, rfl, by decide +kernel, rfl, by decide +kernel, by decide +kernel⟩
abbrev s_L_ends : Stmt := topS 49
abbrev n_L_ends : List Str := ["_law_sorts_here", "_law_found", "_law_end", "_law_how", "_law_both"]
theorem sc_L_ends : FnScope n_L_ends ["_law_sorts_here"] (defScope s_L_ends) := ⟨rfl, rfl, rfl, by decide +kernel, rfl, by decide +kernel, by decide +kernel⟩
abbrev s_L_due : Stmt := topS 50
abbrev n_L_due : List Str := ["_law_sorts_here", "_law_front", "_law_back", "_law_hard"]
theorem sc_L_due : FnScope n_L_due ["_law_sorts_here"] (defScope s_L_due) := ⟨rfl, rfl, rfl, by decide +kernel, rfl, by decide +kernel, by decide +kernel⟩
abbrev s_L_many : Stmt := topS 51
abbrev n_L_many : List Str := ["_law_forms_here", "_law_many_here"]
theorem sc_L_many : FnScope n_L_many ["_law_forms_here", "_law_many_here"] (defScope s_L_many) := ⟨rfl, rfl, rfl, by decide +kernel, rfl, by decide +kernel, by decide +kernel⟩
abbrev s_L_tongue : Stmt := topS 52
abbrev n_L_tongue : List Str := ["_law_forms_here"]
theorem sc_L_tongue : FnScope n_L_tongue ["_law_forms_here"] (defScope s_L_tongue) := ⟨rfl, rfl, rfl, by decide +kernel, rfl, by decide +kernel, by decide +kernel⟩
abbrev s_L_caught : Stmt := topS 53
abbrev n_L_caught : List Str := ["_law_work", "_law_caught_here", "error"]
theorem sc_L_caught : FnScope n_L_caught ["_law_work"] (defScope s_L_caught) := ⟨rfl, rfl, rfl, by decide +kernel, rfl, by decide +kernel, by decide +kernel⟩
abbrev s_L_is_closed : Stmt := topS 54
abbrev n_L_is_closed : List Str := ["_law_forms_here", "_law_sorts_here", "_law_many_here", "_law_page", "_law_deed"]
theorem sc_L_is_closed : FnScope n_L_is_closed ["_law_forms_here", "_law_sorts_here"] (defScope s_L_is_closed) := ⟨rfl, rfl, rfl, by decide +kernel, rfl, by decide +kernel, by decide +kernel⟩
abbrev s_L_refused_right : Stmt := topS 55
abbrev n_L_refused_right : List Str := ["_law_draw", "_law_sorts_here", "_law_odd", "_law_rest", "_law_sort"]
theorem sc_L_refused_right : FnScope n_L_refused_right ["_law_draw", "_law_sorts_here"] (defScope s_L_refused_right) := ⟨rfl, rfl, rfl, by decide +kernel, rfl, by decide +kernel, by decide +kernel⟩
abbrev s_law : Stmt := topS 56
abbrev n_law : List Str := ["_law_script", "_law_draw", "_law_turn", "_law_sorts_here", "_law_due_here", "_law_found", "_law_many_here"]
theorem sc_law : FnScope n_law ["_law_script"] (defScope s_law) := ⟨rfl, rfl, rfl, by decide +kernel, rfl, by decide +kernel, by decide +kernel⟩
end Kp

/-! # the class, on data -/
namespace Kp
open PySem PySem.Spec PyProof.Rows L2
/-- what the class must have -/
structure LC (K : PySem.W.Frag) (C : Addr) : Prop where
  cls : Cls K C
  n1 : NoAttr K C "kept_forms"
  n2 : NoAttr K C "is_all"
  n3 : NoAttr K C "runs"
  n4 : NoAttr K C "firsts"
  ha : PySem.W.findIn K (.ref C) "__class__" = some (some (.builtin "object.__class__"))
  hn : PySem.W.specialIn K (.builtin "object.__class__") "__get__" = some (some (.builtin "getset_descriptor.__get__"))
  ht : PySem.W.takesIn K (.builtin "object.__class__") = some true
  hm : PySem.W.mroIn K C (.type "object") = some true
  kit : PySem.W.kitOne K (.ref C) (.ref C) = some true
/-- a method as it stands behind the top -/
structure MHas (K : PySem.W.Frag) (C : Addr) (m qual : Str) (st : Stmt) (ps : List Str) : Prop where
  ex : ∃ (f : Addr) (fd : FuncData), Fun K m qual st f fd ∧ Meth K C m f ∧ Binds K fd ps []
structure DfM (P : Program) (w : World) (K : PySem.W.Frag) (mg : Str → Option Value) (base : Heap) (C : Addr) (k : Nat) (m : Str) (Fd : List D → D → Prop) : Prop where
  ex : ∃ (f : Addr) (fd : FuncData) (ps : List Str), FnOk P w K mg base CX0 k f fd ps (spD K C Fd) ∧ Meth K C m f ∧ Binds K fd ps []
section
variable {P : Program} {w : World} {K : PySem.W.Frag} {mg : Str → Option Value} {base : Heap} {C : Addr}
theorem dfm_mk {m qual : Str} {st : Stmt} {N ps : List Str} {k : Nat} {Fd : List D → D → Prop} (h : MHas K C m qual st ps) (S : FnScope N ps (defScope st)) (hl : ∀ ds d, Fd ds d → ds.length = ps.length)
    (hb : ∀ (f : Addr) (cdv : Value) (A : Around) (outer : List Env) (s : Shared) (H : Hp) (E : XK) (ds : List D) (d : D), Room k (A.deeper (envOfC qual (defScope st) s.heap.objs.size f cdv)) → Fd ds d →
      PSsD C (cxOf CX0 P w K mg base N qual (defScope st) f cdv A outer s H E).nox (defBody st) (dstart N ds) { nx := fun _ => d = .non, rt := fun d' => d' = d }) : DfM P w K mg base C (k + 1) m Fd := by
  obtain ⟨f, fd, F, hm, hbn⟩ := h.ex
  exact ⟨f, fd, ps, fn_d F S hl (hb f), hm, hbn⟩
end
section
variable {C : Addr} {X : Cx} {a b e : Expr} {es : List Expr} {γ : DSt} {d x : D} {ds : List D} {pos p apos : Pos} {L : Lang}
theorem At.lang' {K : PySem.W.Frag} {G : Hp} {v : V} (h : At K C G (.lang L) v) : LangAt C G L v := by simp only [At] at h; exact h
theorem At.lang {K : PySem.W.Frag} {G : Hp} {v : V} (h : LangAt C G L v) : At K C G (.lang L) v := by simp only [At]; exact h
theorem d_fld {f : Str} (lc : LC X.K C) (no : NoAttr X.K C f) (ha : PD C X a γ (.lang L)) (hv : ∀ G f1 f4, G f1 = some (.lst (L.ks.map V.str)) → G f4 = some (.lst (L.firsts.map V.str)) → ∃ v, (langFs L f1 f4).lookup f = some v ∧ At X.K C G d v)
    (hb : attributeBase a f X.env (eval a X.env) = eval a X.env := by rfl) : PD C X (.Attribute a f pos) γ d :=
  PE.weak (pe_fld ha hb) fun σ H Q ⟨G, s, sl, q⟩ => ⟨G, s, sl, fun v G1 H1 n1 a1 => by
    obtain ⟨c, dx, f1, f4, rfl, g1, g2, g3⟩ := a1.lang'
    obtain ⟨u, h1, h2⟩ := hv G1 f1 f4 g2 g3
    exact ⟨c, C, dx, _, u, rfl, n1.s _ _ g1, lc.cls, no, h1, q u G1 H1 n1 h2⟩⟩
theorem d_kept (lc : LC X.K C) (ha : PD C X a γ (.lang L)) (hb : attributeBase a "kept_forms" X.env (eval a X.env) = eval a X.env := by rfl) : PD C X (.Attribute a "kept_forms" pos) γ (.lst (L.ks.map .str)) :=
  d_fld lc lc.n1 ha (fun G f1 f4 h1 h4 => ⟨_, rfl, At.lst h1 AtL.of_strs⟩) hb
theorem d_isall (lc : LC X.K C) (ha : PD C X a γ (.lang L)) (hb : attributeBase a "is_all" X.env (eval a X.env) = eval a X.env := by rfl) : PD C X (.Attribute a "is_all" pos) γ (.bl L.all) :=
  d_fld lc lc.n2 ha (fun G f1 f4 h1 h4 => ⟨_, rfl, At.bl _⟩) hb
theorem d_runs (lc : LC X.K C) (ha : PD C X a γ (.lang L)) (hb : attributeBase a "runs" X.env (eval a X.env) = eval a X.env := by rfl) : PD C X (.Attribute a "runs" pos) γ (.int L.runs) :=
  d_fld lc lc.n3 ha (fun G f1 f4 h1 h4 => ⟨_, rfl, At.int _⟩) hb
theorem d_firsts (lc : LC X.K C) (ha : PD C X a γ (.lang L)) (hb : attributeBase a "firsts" X.env (eval a X.env) = eval a X.env := by rfl) : PD C X (.Attribute a "firsts" pos) γ (.lst (L.firsts.map .str)) :=
  d_fld lc lc.n4 ha (fun G f1 f4 h1 h4 => ⟨_, rfl, At.lst h4 AtL.of_strs⟩) hb
/-- o.m(e, ..) -/
theorem d_meth {k : Nat} {m : Str} {Fd : List D → D → Prop} {pl : Sem Bool} (lc : LC X.K C) (F : DfM X.prog X.w X.K X.mg X.base C k m Fd) (hr : Room k X.A) (ho : PD C X a γ (.lang L)) (ha : PAD C X (e :: es) γ ds) (hF : Fd (.lang L :: ds) d)
    (hl : ∀ f1 f4, (langFs L f1 f4).lookup m = Option.none := by intro _ _; rfl)
    (hst : starEach (e :: es) X.env = (false, eval e X.env) :: starEach es X.env := by rfl) (hpl : (backTo pos (starEach es X.env)).any (·.1) = false := by rfl)
    (ht : eval (.Call (.Attribute a m apos) (e :: es) [] pos) X.env = (do
      let ov ← eval a X.env
      standAt apos.atName
      let (f, first) ← holding [ov] (getMethod ov m pl)
      callWith pos f first (backTo pos (starEach (e :: es) X.env)) (backToKw pos (keywordEach [] X.env))) := by rfl) : PD C X (.Call (.Attribute a m apos) (e :: es) [] pos) γ d := by
  obtain ⟨f, fd, ps, F, hm, hb⟩ := F.ex
  refine PE.weak (pe_meth ho lc.cls hm F hr hb .nil pass0 ha hst hpl ht) fun σ H Q ⟨G, s, sl, q⟩ => ⟨G, s, sl, fun v G1 H1 n1 a1 => ?_⟩
  obtain ⟨c, dx, f1, f4, rfl, g1, g2, g3⟩ := a1.lang'
  refine ⟨c, dx, _, rfl, n1.s _ _ g1, hl f1 f4, G1, n1.s, sl.mono n1.g, fun us G2 H2 n2 a2 => ⟨G2, _, d, n2.s, ?_, hF, fun v G3 H3 n3 a3 => q v G3 H3 ((n1.trans n2).trans n3) a3⟩⟩
  rw [List.append_nil]
  exact .cons (a1.mono n2.g) a2
/-- isinstance(x, Language) -/
theorem d_isiL {n : Str} {p1 p2 : Pos} (lc : LC X.K C) (hm : X.mg "isinstance" = Option.none) (hx : X.mg n = some (.ref C)) (ha : PD C X a γ (.lang L)) (hg : Gl X "isinstance" := by rfl) (hgT : Gl X n := by rfl) (hd : (n == ("__debug__" : Str)) = false := by decide)
    (he : starEach [a, .Name n p2] X.env = (false, eval a X.env) :: starEach [.Name n p2] X.env := by rfl) (hs : starEach [.Name n p2] X.env = (false, eval (.Name n p2) X.env) :: starEach [] X.env := by rfl)
    (hpl : (backTo pos (starEach [.Name n p2] X.env)).any (·.1) = false := by rfl) : PD C X (.Call (.Name "isinstance" p1) [a, .Name n p2] [] pos) γ (.bl true) :=
  PE.weak (pe_callB call_isi hg hm (by decide +kernel) (pa_cons ha (pa_cons (pe_glob (v := .ref C) hgT hx rfl hd) pa_nil hs) he) (by decide) (by decide) he hpl) fun σ H Q ⟨G, s, sl, q⟩ => ⟨G, s, sl, fun v G1 H1 n1 a1 => by
    obtain ⟨c, dx, f1, f4, rfl, g1, g2, g3⟩ := a1.lang'
    exact ⟨_, .ref C, .ref C, _, true, rfl, .own C, .base (.ins (n1.s _ _ g1) lc.cls lc.ha lc.hn lc.ht lc.hm), lc.kit, q _ G1 H1 n1 (At.bl _)⟩⟩
/-! ### == of its instances -/
def REq (C : Addr) (a b : Addr) (H : Hp) : Prop := ∃ G L, Same G H ∧ LangAt C G L (.ref a) ∧ LangAt C G L (.ref b)
structure EqO (P : Program) (w : World) (K : PySem.W.Frag) (mg : Str → Option Value) (base : Heap) (C : Addr) (k : Nat) : Prop where
  ex : ∃ (f : Addr) (fd : FuncData) (ps : List Str), FnOk P w K mg base CX0 k f fd ps (spEq (REq C)) ∧ Meth K C "__eq__" f ∧ Binds K fd ps []
theorem eqo_of {P : Program} {w : World} {K : PySem.W.Frag} {mg : Str → Option Value} {base : Heap} {k : Nat} (h : DfM P w K mg base C k "__eq__" (fun ds d => ∃ L, ds = [.lang L, .lang L] ∧ d = .bl true)) : EqO P w K mg base C k := by
  obtain ⟨f, fd, ps, F, hm, hb⟩ := h.ex
  refine ⟨f, fd, ps, F.imp fun vs H Q E ⟨a, b, e, ⟨G, L, s, l1, l2⟩, q⟩ => ⟨G, [.lang L, .lang L], .bl true, s, ?_, ⟨L, rfl, rfl⟩, fun v G' H' n a' => ?_⟩, hm, hb⟩
  · rw [e]
    exact .cons (At.lang l1) (.cons (At.lang l2) .nil)
  · rw [a'.bl']
    exact q H' n.h
theorem d_eqL {k : Nat} (F : EqO X.prog X.w X.K X.mg X.base C k) (hr : Room k X.A) (ha : PD C X a γ (.lang L)) (hb : PD C X b γ (.lang L)) (hm : behindInMarks .Eq b = false := by first | exact nomark _ | rfl) : PD C X (.Compare a [.Eq] [b] pos) γ (.bl true) := by
  obtain ⟨f, fd, ps, F, hme, hbn⟩ := F.ex
  refine d_cmp (op_eqG (rcG_ins F hme.at_ hme.fn hbn pass0) hr) ha hb (fun G H v u s a1 a2 Q q => ?_) hm
  obtain ⟨c, dx, f1, f4, rfl, g1, g2, g3⟩ := a1.lang'
  obtain ⟨c', dx', f1', f4', rfl, g1', g2', g3'⟩ := a2.lang'
  refine ⟨⟨c, c', dx, dx', _, _, rfl, rfl, s _ _ g1, s _ _ g1', G, L, s, ⟨_, _, _, _, rfl, g1, g2, g3⟩, ⟨_, _, _, _, rfl, g1', g2', g3'⟩⟩, fun H' e => q _ G H' ⟨Same.refl _, e, fun b o h => e _ _ (s _ _ h), fun _ h _ => h⟩ (At.bl _)⟩
/-! ### x not in it -/
def rNotInO (C : Addr) (sp : Sp) (E : XK) : R2 := fun x y H Q => ∃ a dx fs, y = .ref a ∧ H a = some (.ins C dx fs) ∧ sp [.ref a, x] H (fun v H' => ∃ b, v = .bl b ∧ Q (.bl (!b)) H') E
theorem op_notInO {CX : CXT} {k : Nat} {f : Addr} {fd : FuncData} {ps : List Str} {sp : Sp} {E : XK} (F : FnOk X.prog X.w X.K X.mg X.base CX k f fd ps sp) (hr : Room k X.A) (hm : Meth X.K C "__contains__" f) (hb : Binds X.K fd ps []) (hx : Passes CX X E) : OpR X (compareOp .NotIn) (rNotInO C sp E) := by
  intro pins s σ H x y v u Q I rx ry h
  obtain ⟨a, dx, fs, rfl, ha, hsp⟩ := h
  cases ry
  obtain ⟨mA, J, _⟩ := ins_get I.hok ha
  obtain ⟨od, J, _⟩ := J.look
  obtain ⟨m, hF⟩ := I.fr
  refine PySem.W.notIn_K hF I.ok.mod.kin J hm.at_ hm.fn ?_
  refine thn (run_fn (vs := [.ref a, x]) F hr hb .nil hx I (.cons rfl (.cons rx .nil)) hsp) fun r s1 ⟨z, H1, I1, rz, b, ez, q⟩ => ?_
  subst ez
  cases rz
  exact wpAny_pure ⟨.bl (!b), H1, I1, rfl, q⟩
theorem t_notin {k : Nat} {r : Bool} {Fd : List D → D → Prop} (F : DfM X.prog X.w X.K X.mg X.base C k "__contains__" Fd) (hr : Room k X.A) (ha : PD C X a γ x) (hb : PD C X b γ (.lang L)) (hF : Fd [.lang L, x] (.bl r)) (hm : behindInMarks .NotIn b = false := by first | exact nomark _ | rfl) : PTD C X (.Compare a [.NotIn] [b] pos) γ (!r) := by
  obtain ⟨f, fd, ps, F, hme, hbn⟩ := F.ex
  refine t_cmp (op_notInO F hr hme hbn pass0) ha hb (fun G H v u s a1 a2 Q q => ?_) hm
  obtain ⟨c, dx, f1, f4, rfl, g1, g2, g3⟩ := a2.lang'
  refine ⟨c, dx, _, rfl, s _ _ g1, G, _, .bl r, s, .cons a2 (.cons a1 .nil), hF, fun v G' H' n a' => ⟨r, a'.bl', q _ G' H' n (At.bl _)⟩⟩
/-! ### its property -/
structure PrO (P : Program) (w : World) (K : PySem.W.Frag) (mg : Str → Option Value) (base : Heap) (C : Addr) (k : Nat) (x : Str) (Fd : List D → D → Prop) : Prop where
  ex : ∃ (p g : Addr) (fd : FuncData) (ps : List Str), FnOk P w K mg base CX0 k g fd ps (spD K C Fd) ∧ PropOf K C x p g ∧ Binds K fd ps []
theorem d_prop {k : Nat} {f : Str} {Fd : List D → D → Prop} (lc : LC X.K C) (F : PrO X.prog X.w X.K X.mg X.base C k f Fd) (hr : Room (k + 1) X.A) (ha : PD C X a γ (.lang L)) (hF : Fd [.lang L] d) (hb : attributeBase a f X.env (eval a X.env) = eval a X.env := by rfl) : PD C X (.Attribute a f pos) γ d := by
  obtain ⟨p, g, fd, ps, F, hp, hbn⟩ := F.ex
  refine PE.weak (pe_prop ha lc.cls hp F hr hbn .nil pass0 hb) fun σ H Q ⟨G, s, sl, q⟩ => ⟨G, s, sl, fun v G1 H1 n1 a1 => ?_⟩
  obtain ⟨c, dx, f1, f4, rfl, g1, g2, g3⟩ := a1.lang'
  exact ⟨c, dx, _, rfl, n1.s _ _ g1, G1, [.lang L], d, n1.s, .cons a1 .nil, hF, fun v G2 H2 n2 a2 => q v G2 H2 (n1.trans n2) a2⟩
end
end Kp

namespace Kp
open PySem PySem.Spec PyProof.Rows L2
/-- the built-in names that the module leaves as they are -/
def bltNames : List Str := ["isinstance", "int", "bool", "str", "list", "tuple", "all", "any", "len", "range", "zip", "enumerate", "sorted", "max", "sum", "min", "abs"]
structure Tp (K : PySem.W.Frag) (mg : Str → Option Value) : Prop where
  blt : ∀ x ∈ bltNames, mg x = Option.none
  cAll : ∃ u, mg "ALL" = some u ∧ RelV (.str "all") u
  cRuns : ∃ u, mg "MOST_RUNS" = some u ∧ RelV (.int 5) u
  cSize : ∃ u, mg "MOST_SIZE" = some u ∧ RelV (.int 60) u
  cKinds : ∃ t, mg "KINDS" = some (.ref t) ∧ ∀ G, SqT K G t (Kd.all.map fun k => V.str k.s)
section
variable {P : Program} {w : World} {K : PySem.W.Frag} {mg : Str → Option Value} {base : Heap} {C : Addr}
theorem Tp.b (T : Tp K mg) (x : Str) (h : bltNames.contains x = true := by decide +kernel) : mg x = Option.none := T.blt x (by simpa using h)
def isInt : D → Bool
  | .int _ => true
  | _ => false
theorem df_is_integer (T : Tp K mg) (h : Has K mg "is_integer" s_is_integer ["value"]) : Df P w K mg base C 1 "is_integer" (fun ds d => ∃ x t, ds = [x] ∧ tyD x = some t ∧ d = .bl (isInt x)) := by
  refine df_mk h sc_is_integer (fun ds d ⟨x, t, e, _⟩ => by rw [e] <;> rfl) fun f cdv A outer s H E ds d hr ⟨x, t, e, ht, ed⟩ => ?_
  subst e ed
  refine s_one (s_ret ?_ rfl)
  obtain ⟨r1, r2, h1, h2, e⟩ : ∃ r1 r2, kitB t "int" = some r1 ∧ kitB t "bool" = some r2 ∧ (r1 && !r2) = isInt x := by
    cases x <;> cases ht
    case non => exact ⟨false, false, by decide +kernel, by decide +kernel, rfl⟩
    case bl => exact ⟨true, true, by decide +kernel, by decide +kernel, rfl⟩
    case int => exact ⟨true, false, by decide +kernel, by decide +kernel, rfl⟩
    case str => exact ⟨false, false, by decide +kernel, by decide +kernel, rfl⟩
    case lst => exact ⟨false, false, by decide +kernel, by decide +kernel, rfl⟩
    case tup => exact ⟨false, false, by decide +kernel, by decide +kernel, rfl⟩
    case dic => exact ⟨false, false, by decide +kernel, by decide +kernel, rfl⟩
  exact PD.of (d_and (d_isi (T := "int") (T.b _) (T.b _) (dv 0) ht h1) fun _ => d_one (d_not (d_isi (T := "bool") (T.b _) (T.b _) (dv 0) ht h2))) (by rw [e])

/-! ### constants -/
theorem Tp.all (T : Tp K mg) {X : Cx} {γ : DSt} {pos : Pos} (e : X.mg = mg) (hg : Gl X "ALL") : PD C X (.Name "ALL" pos) γ (.str "all") := by
  obtain ⟨u, h, r⟩ := T.cAll
  exact d_glob (by rw [e]; exact h) r (fun _ => At.str _) hg
theorem Tp.runs (T : Tp K mg) {X : Cx} {γ : DSt} {pos : Pos} (e : X.mg = mg) (hg : Gl X "MOST_RUNS") : PD C X (.Name "MOST_RUNS" pos) γ (.int 5) := by
  obtain ⟨u, h, r⟩ := T.cRuns
  exact d_glob (by rw [e]; exact h) r (fun _ => At.int _) hg
theorem Tp.size (T : Tp K mg) {X : Cx} {γ : DSt} {pos : Pos} (e : X.mg = mg) (hg : Gl X "MOST_SIZE") : PD C X (.Name "MOST_SIZE" pos) γ (.int 60) := by
  obtain ⟨u, h, r⟩ := T.cSize
  exact d_glob (by rw [e]; exact h) r (fun _ => At.int _) hg
theorem atL_strs {G : Hp} {ks : List Kd} : AtL K C G (ks.map fun k => .str k.s) (ks.map fun k => .str k.s) := by
  have z := AtL.of_strs (K := K) (C := C) (G := G) (ss := ks.map Kd.s)
  rw [List.map_map, List.map_map] at z
  exact z
theorem Tp.kinds (T : Tp K mg) {X : Cx} {γ : DSt} {pos : Pos} (e : X.mg = mg) (eK : X.K = K) (hg : Gl X "KINDS") : PD C X (.Name "KINDS" pos) γ (.tup (Kd.all.map fun k => .str k.s)) := by
  obtain ⟨t, h, r⟩ := T.cKinds
  subst eK
  exact d_glob (v := .ref t) (by rw [e]; exact h) rfl (fun G => At.tup (r G) atL_strs) hg
/-! ### is_place -/
def isPl : D → Int → Bool
  | .int i, n => decide (0 ≤ i) && decide (i < n)
  | _, _ => false
theorem df_is_place (F : Df P w K mg base C 1 "is_integer" (fun ds d => ∃ x t, ds = [x] ∧ tyD x = some t ∧ d = .bl (isInt x))) (h : Has K mg "is_place" s_is_place ["value", "size"]) :
    Df P w K mg base C 2 "is_place" (fun ds d => ∃ x t n, ds = [x, .int n] ∧ tyD x = some t ∧ d = .bl (isPl x n)) := by
  refine df_mk h sc_is_place (fun ds d ⟨x, t, n, e, _⟩ => by rw [e] <;> rfl) fun f cdv A outer s H E ds d hr ⟨x, t, n, e, ht, ed⟩ => ?_
  subst e ed
  refine s_one (s_ret ?_ rfl)
  cases x <;> cases ht
  case int i => exact PD.of (d_and (d_call F hr (a_cons (dv 0) a_nil) ⟨_, _, rfl, rfl, rfl⟩) fun _ => d_one (d_chain op_le op_lt d_int (dv 0) (dv 1) rd_le fun _ => rd_lt)) rfl
  all_goals exact PD.of (d_and (k := false) (l := false) (d_call F hr (a_cons (dv 0) a_nil) ⟨_, _, rfl, rfl, rfl⟩) fun h => by cases h) rfl
/-! ### is_word -/
def isW (t : Str) : Bool := t.cps.toList.all fun c => decide (c ∈ [48, 49])
abbrev rInT : R2 := fun x y H Q => ∃ (c : Nat) (z : Str), x = .str ⟨#[c]⟩ ∧ y = .str z ∧ Q (.bl (decide (c ∈ z.cps.toList))) H
theorem rd_inS {c : Nat} {z : Str} : RD K C rInT (.str ⟨#[c]⟩) (.str z) (.bl (decide (c ∈ z.cps.toList))) := fun G H v u s a1 a2 Q q => ⟨c, z, a1.str', a2.str', q _ G H (Nx.refl s) (At.bl _)⟩
theorem all_map {ι : Type} (ys : List ι) (g : ι → Bool) : (ys.map g).all id = ys.all g := by simp [List.all_map]
theorem any_map {ι : Type} (ys : List ι) (g : ι → Bool) : (ys.map g).any id = ys.any g := by simp [List.any_map]
theorem rc_all' {ι : Type} {ys : List ι} {g : ι → Bool} : RCD K C (rAll K) [.lst (ys.map fun y => .bl (g y))] (.bl (ys.all g)) := by
  have z := rc_all (K := K) (C := C) (bs := ys.map g)
  rw [all_map, List.map_map] at z
  exact z
theorem rc_any' {ι : Type} {ys : List ι} {g : ι → Bool} : RCD K C (rAny K) [.lst (ys.map fun y => .bl (g y))] (.bl (ys.any g)) := by
  have z := rc_any (K := K) (C := C) (bs := ys.map g)
  rw [any_map, List.map_map] at z
  exact z
theorem rc_sum' {ι : Type} {ys : List ι} {g : ι → Int} : RCD K C (rSum K) [.lst (ys.map fun y => .int (g y))] (.int (ys.map g).sum) := by
  have z := rc_sum (K := K) (C := C) (ns := ys.map g)
  rw [List.map_map] at z
  exact z
theorem sgD_len {t : Str} : t.cps.toList.length = t.length := by
  show t.cps.toList.length = t.cps.size
  simp
theorem df_is_word (T : Tp K mg) (h : Has K mg "is_word" s_is_word ["value"]) : Df P w K mg base C 1 "is_word" (fun ds d => ∃ t, ds = [.str t] ∧ t.length ≤ 1000 ∧ d = .bl (isW t)) := by
  refine df_mk h sc_is_word (fun ds d ⟨t, e, _⟩ => by rw [e] <;> rfl) fun f cdv A outer s H E ds d hr ⟨t, e, hl, ed⟩ => ?_
  subst e ed
  refine s_one (s_ret ?_ rfl)
  refine PD.of (d_and (k := true) (d_isi (T := "str") (r := true) (T.b _) (T.b _) (dv 0) rfl (by decide +kernel)) fun _ => d_one
    (d_callB (cr_all rfl) (T.b _) (a_cons (d_lc0 "letter" 1 t.cps.toList (fun c => .str ⟨#[c]⟩) (fun c => .bl (decide (c ∈ [48, 49]))) rfl sc_is_word.nd (i_str (dv 0)) (blkOk_by (N := n_is_word) (sc := defScope s_is_word) (by decide +kernel))
      (fun c hc s H Ca cl fp => d_cmp op_in_sign (dv 1) d_str rd_inS) (by rw [sgD_len]; omega)) a_nil) rc_all')) (by rw [Bool.true_and]; rfl)
end
end Kp

namespace Kp
open PySem PySem.Spec PyProof.Rows L2
/-! ### cuts -/
theorem cutS_from {t : Str} {i : Int} (k : Nat) (h : i = k) : cutS t (some i) Option.none = ⟨(t.cps.toList.drop k).toArray⟩ := by
  subst h
  have e : t.cps.toList.length = t.length := sgD_len
  unfold cutS
  rw [HT.sIx_nat, HT.sIx_none]
  congr 2
  rw [List.take_of_length_le (by rw [List.length_drop, e]; omega)]
  by_cases hk : k ≤ t.length
  · rw [Nat.min_eq_left hk]
  · rw [Nat.min_eq_right (by omega), List.drop_of_length_le (by omega), List.drop_of_length_le (by omega)]
theorem cutS_to {t : Str} {i : Int} (k : Nat) (h : i = k) : cutS t Option.none (some i) = ⟨(t.cps.toList.take k).toArray⟩ := by
  subst h
  have e : t.cps.toList.length = t.length := sgD_len
  unfold cutS
  rw [HT.sIx_nat, HT.sIx_none]
  congr 2
  rw [List.drop_zero, Nat.sub_zero]
  by_cases hk : k ≤ t.length
  · rw [Nat.min_eq_left hk]
  · rw [Nat.min_eq_right (by omega), List.take_of_length_le (by omega), List.take_of_length_le (by omega)]
theorem cutD_from {xs : List D} {i : Int} (k : Nat) (h : i = k) : cutD xs (some i) Option.none = xs.drop k := by
  subst h
  unfold cutD
  rw [HT.sIx_nat, HT.sIx_none]
  rw [List.take_of_length_le (by rw [List.length_drop]; omega)]
  by_cases hk : k ≤ xs.length
  · rw [Nat.min_eq_left hk]
  · rw [Nat.min_eq_right (by omega), List.drop_of_length_le (by omega), List.drop_of_length_le (by omega)]
theorem cutD_to {xs : List D} {i : Int} (k : Nat) (h : i = k) : cutD xs Option.none (some i) = xs.take k := by
  subst h
  unfold cutD
  rw [HT.sIx_nat, HT.sIx_none]
  rw [List.drop_zero, Nat.sub_zero]
  by_cases hk : k ≤ xs.length
  · rw [Nat.min_eq_left hk]
  · rw [Nat.min_eq_right (by omega), List.take_of_length_le (by omega), List.take_of_length_le (by omega)]
theorem sW_from (w : List Bool) {i : Int} (k : Nat) (h : i = k) : cutS (sW w) (some i) Option.none = sW (w.drop k) := by
  rw [cutS_from k h, sW_cps]
  unfold sW
  rw [List.map_drop]
theorem sW_to (w : List Bool) {i : Int} (k : Nat) (h : i = k) : cutS (sW w) Option.none (some i) = sW (w.take k) := by
  rw [cutS_to k h, sW_cps]
  unfold sW
  rw [List.map_take]
theorem rg0 (n : Nat) : rgD 0 n = (List.range n).map fun (i : Nat) => D.int (i : Int) := by
  unfold rgD
  simp
/-! ### runs -/
def rS (t : Str) : Int := if t = "" then 0 else 1 + (((t.cps.toList.zip (t.cps.toList.drop 1)).filter fun p => !decide ((⟨#[p.1]⟩ : Str) = ⟨#[p.2]⟩)).length : Nat)
theorem rB_zip : ∀ (a : Bool) (w : List Bool), rB (a :: w) = 1 + (((a :: w).zip w).filter fun p => !decide (p.1 = p.2)).length
  | a, [] => rfl
  | a, b :: w => by
    rw [rB, rB_zip b w]
    cases a <;> cases b <;> simp <;> omega
theorem one_eq {a b : Bool} : decide ((⟨#[cB a]⟩ : Str) = ⟨#[cB b]⟩) = decide (a = b) := by
  cases a <;> cases b <;> decide
theorem rS_word (w : List Bool) : rS (sW w) = (rB w : Int) := by
  cases w with
  | nil => decide
  | cons a w =>
    unfold rS
    rw [if_neg (by
      intro e
      have z : (sW (a :: w)).cps.toList = ("" : Str).cps.toList := by rw [e]
      rw [sW_cps] at z
      exact absurd z (by rw [List.map_cons]; exact List.cons_ne_nil _ _))]
    rw [rB_zip, sW_cps, List.map_cons, List.drop_succ_cons, List.drop_zero, ← List.map_cons, List.zip_map, List.filter_map, List.length_map]
    have e : (((a :: w).zip w).filter ((fun p : Nat × Nat => !decide ((⟨#[p.1]⟩ : Str) = ⟨#[p.2]⟩)) ∘ Prod.map cB cB)) = ((a :: w).zip w).filter fun p => !decide (p.1 = p.2) := by
      congr 1
      funext p
      show (!decide ((⟨#[cB p.1]⟩ : Str) = ⟨#[cB p.2]⟩)) = _
      rw [one_eq]
    rw [e]
    omega
section
variable {P : Program} {w : World} {K : PySem.W.Frag} {mg : Str → Option Value} {base : Heap} {C : Addr}
theorem zp_chars {t u : Str} : zpD (sgD t) (sgD u) = (t.cps.toList.zip u.cps.toList).map fun p => .tup [.str ⟨#[p.1]⟩, .str ⟨#[p.2]⟩] := by
  unfold zpD sgD
  rw [List.zip_map, List.map_map]
  rfl
theorem df_runs_of (T : Tp K mg) (h : Has K mg "runs_of" s_runs_of ["word"]) : Df P w K mg base C 1 "runs_of" (fun ds d => ∃ t, ds = [.str t] ∧ t.length ≤ 1000 ∧ d = .int (rS t)) := by
  refine df_mk h sc_runs_of (fun ds d ⟨t, e, _⟩ => by rw [e] <;> rfl) fun f cdv A outer s H E ds d hr ⟨t, e, hl, ed⟩ => ?_
  subst e ed
  refine s_one (s_ret (d_if (t_cmp op_eq (dv 0) d_str rd_eqS) (fun k => PD.of d_int ?_) fun k => PD.of (d_op op_add d_int (d_callB call_len (T.b _) (a_cons
    (d_lc [("one", 1), ("other", 2)] (t.cps.toList.zip (t.cps.toList.drop 1)) (fun p => .tup [.str ⟨#[p.1]⟩, .str ⟨#[p.2]⟩]) (fun p => [some (.str t), some (.str ⟨#[p.1]⟩), some (.str ⟨#[p.2]⟩)]) (fun p => !decide ((⟨#[p.1]⟩ : Str) = ⟨#[p.2]⟩)) (fun _ => .int 1) rfl sc_runs_of.nd
      (PID.of (i_zipS (T.b _) (a_cons (dv 0) (a_cons (d_sl sl_str (dv 0) (o_some d_int) o_none (rs_str (by omega))) a_nil))) ?_) (blkOk_by (N := n_runs_of) (sc := defScope s_runs_of) (by decide +kernel)) (fun s H Ca cl fp => g_pair 1 2 rfl sc_runs_of.nd)
      (fun p hp => rfl) (fun p hp s H Ca cl fp => ts_one (t_cmp op_ne (dv 1) (dv 2) rd_neS)) (fun p hp _ s H Ca cl fp => d_int) ?_) a_nil) rc_lenL) rd_add) ?_) rfl)
  · unfold rS
    rw [if_pos (of_decide_eq_true k)]
  · rw [zp_chars, cutS_from (i := 1) 1 rfl]
  · rw [List.length_zip, sgD_len]
    omega
  · unfold rS
    rw [if_neg (of_decide_eq_false k), List.length_map]
/-! ### is_form -/
def isF (t : Str) : Bool := if isW t then (decide ((1 : Int) ≤ t.length) && decide ((t.length : Int) ≤ 5)) && decide (rS t = t.length) else decide (t = "all")
theorem df_is_form (T : Tp K mg) (F1 : Df P w K mg base C 1 "is_word" (fun ds d => ∃ t, ds = [.str t] ∧ t.length ≤ 1000 ∧ d = .bl (isW t))) (F2 : Df P w K mg base C 1 "runs_of" (fun ds d => ∃ t, ds = [.str t] ∧ t.length ≤ 1000 ∧ d = .int (rS t)))
    (h : Has K mg "is_form" s_is_form ["value"]) : Df P w K mg base C 2 "is_form" (fun ds d => ∃ t, ds = [.str t] ∧ t.length ≤ 1000 ∧ d = .bl (isF t)) := by
  refine df_mk h sc_is_form (fun ds d ⟨t, e, _⟩ => by rw [e] <;> rfl) fun f cdv A outer s H E ds d hr ⟨t, e, hl, ed⟩ => ?_
  subst e ed
  refine s_cons (s_if (t_not (t_val (d_call F1 hr (a_cons (dv 0) a_nil) ⟨t, rfl, hl, rfl⟩))) (fun k => s_one (s_ret (PD.of (d_and (k := true) (d_isi (T := "str") (r := true) (T.b _) (T.b _) (dv 0) rfl (by decide +kernel)) fun _ => d_one (d_cmp op_eq (dv 0) (T.all rfl rfl) rd_eqS)) ?_) rfl))
    fun k => s_nil (s_one (s_ret (PD.of (d_and (d_chain op_le op_le d_int (d_callB call_len (T.b _) (a_cons (dv 0) a_nil) (rc_lenS (by omega))) (T.runs rfl rfl) rd_le fun _ => rd_le) fun _ => d_one (d_cmp op_eq (d_call F2 hr (a_cons (dv 0) a_nil) ⟨t, rfl, hl, rfl⟩) (d_callB call_len (T.b _) (a_cons (dv 0) a_nil) (rc_lenS (by omega))) rd_eqI)) ?_) rfl)))
  · rw [Bool.not_eq_true'] at k
    unfold isF
    rw [k]
    rfl
  · rw [Bool.not_eq_false'] at k
    unfold isF
    rw [k]
    rfl
/-! ### chosen -/
theorem df_chosen (T : Tp K mg) (h : Has K mg "chosen" s_chosen ["many", "few"]) : Df P w K mg base C 1 "chosen" (fun ds d => ∃ (m : Int) (n : Nat), ds = [.int m, .int n] ∧ -1000 ≤ m ∧ m ≤ 1000 ∧ n ≤ 1000 ∧ d = .int (chM m n)) := by
  refine df_mk h sc_chosen (fun ds d ⟨m, n, e, _⟩ => by rw [e] <;> rfl) fun f cdv A outer s H E ds d hr ⟨m, n, e, h1, h2, h3, ed⟩ => ?_
  subst e ed
  refine s_cons (s_set 2 sc_chosen.nd d_int (s_cons (s_for PassesOwn.never rfl (PID.of (i_range1 (T.b _) (a_cons (dv 1) a_nil) (by omega) (by omega)) (rg0 _)) (g_name 3 sc_chosen.nd) (fun i γ => ∃ o, γ = [some (.int m), some (.int n), some (.int (chG m i)), o]) ⟨_, rfl⟩ ?_ ?_)))
  · rintro i d γ' hi ⟨o, rfl⟩
    obtain ⟨hlt, e⟩ : i < n ∧ d = .int (i : Int) := by
      rw [List.getElem?_map, Option.map_eq_some_iff] at hi
      obtain ⟨j, h4, h5⟩ := hi
      obtain ⟨h6, h7⟩ := List.getElem?_eq_some_iff.mp h4
      rw [List.getElem_range] at h7
      rw [List.length_range] at h6
      subst h7
      exact ⟨by omega, h5.symm⟩
    subst e
    exact ⟨_, rfl, s_one (s_set 2 sc_chosen.nd (d_op op_fdiv (d_op op_mul (dv 2) (d_op op_sub (dv 0) (dv 3) rd_sub) (rd_mul (.inr ⟨by omega, by omega⟩))) (d_op op_add (dv 3) d_int rd_add) (rd_fdiv ⟨by omega, by omega⟩)) ⟨_, rfl⟩)⟩
  · rintro γ' ⟨o, rfl⟩
    rw [List.length_map, List.length_range, Int.toNat_natCast]
    refine s_one (s_ret (d_if (t_cmp op_le (dv 1) (dv 0) rd_le) (fun k => PD.of (dv 2) ?_) fun k => PD.of d_int ?_) rfl)
    · unfold chM
      rw [if_pos (of_decide_eq_true k)]
    · unfold chM
      rw [if_neg (of_decide_eq_false k)]
end
end Kp

namespace Kp
open PySem PySem.Spec PyProof.Rows L2
theorem range_at {n i : Nat} {d : D} (hi : ((List.range n).map fun (i : Nat) => D.int (i : Int))[i]? = some d) : i < n ∧ d = .int (i : Int) := by
  rw [List.getElem?_map, Option.map_eq_some_iff] at hi
  obtain ⟨j, h4, h5⟩ := hi
  obtain ⟨h6, h7⟩ := List.getElem?_eq_some_iff.mp h4
  rw [List.getElem_range] at h7
  rw [List.length_range] at h6
  subst h7
  exact ⟨by omega, h5.symm⟩
theorem room_un {k : Nat} {A : Around} (hr : Room k A) : A.units + 64 < cLine := by
  have := hr.un
  omega
theorem isW_word (w : List Bool) : isW (sW w) = true := by
  unfold isW
  rw [sW_cps, List.all_map, List.all_eq_true]
  intro b _
  cases b <;> decide
theorem in_firsts (F : Fm) (h : F ≠ .all) (b : Bool) : inD (.str ⟨#[cB b]⟩) (F.lg.firsts.map .str) = F.fs.contains b := by
  cases F <;> cases b <;> first | (exact absurd rfl h) | decide +kernel
theorem firsts_flat (F : Fm) : (F.lg.firsts.map D.str).all flatD = true := by
  cases F <;> decide +kernel
theorem any_all {F : Fm} (h : F.any = false) : F ≠ .all := by
  intro e
  rw [e] at h
  cases h
theorem rn_pos (F : Fm) : 2 ≤ F.rn ∧ F.rn ≤ 3 := by cases F <;> decide
section
variable {P : Program} {w : World} {K : PySem.W.Frag} {mg : Str → Option Value} {base : Heap} {C : Addr}
abbrev FdIsInt : List D → D → Prop := fun ds d => ∃ x t, ds = [x] ∧ tyD x = some t ∧ d = .bl (isInt x)
abbrev FdIsPlace : List D → D → Prop := fun ds d => ∃ x t n, ds = [x, .int n] ∧ tyD x = some t ∧ d = .bl (isPl x n)
abbrev FdIsWord : List D → D → Prop := fun ds d => ∃ t, ds = [.str t] ∧ t.length ≤ 1000 ∧ d = .bl (isW t)
abbrev FdRuns : List D → D → Prop := fun ds d => ∃ t, ds = [.str t] ∧ t.length ≤ 1000 ∧ d = .int (rS t)
abbrev FdIsForm : List D → D → Prop := fun ds d => ∃ t, ds = [.str t] ∧ t.length ≤ 1000 ∧ d = .bl (isF t)
abbrev FdChosen : List D → D → Prop := fun ds d => ∃ (m : Int) (n : Nat), ds = [.int m, .int n] ∧ -1000 ≤ m ∧ m ≤ 1000 ∧ n ≤ 1000 ∧ d = .int (chM m n)
abbrev FdLets : List D → D → Prop := fun ds d => ∃ (F : Fm) (u : List Bool), ds = [.lang F.lg, .str (sW u)] ∧ u.length ≤ 100 ∧ d = .bl (letsB F u)
abbrev FdMany : List D → D → Prop := fun ds d => ∃ (F : Fm) (n : Nat), ds = [.lang F.lg, .int n] ∧ n ≤ 100 ∧ d = .int (manyM F n)
abbrev FdEnds : List D → D → Prop := fun ds d => ∃ (F : Fm) (u : List Bool) (n : Nat), ds = [.lang F.lg, .str (sW u), .int n] ∧ u.length ≤ 100 ∧ n ≤ 100 ∧ d = .int (endsM F u n)
abbrev FdMade : List D → D → Prop := fun ds d => ∃ (F : Fm) (n : Nat) (i : Int), ds = [.lang F.lg, .int n, .int i] ∧ n ≤ 90 ∧ d = .str (sW (madeM F n [] i))
abbrev FdForms : List D → D → Prop := fun ds d => ∃ F : Fm, ds = [.lang F.lg] ∧ d = .tup (F.ts.map .str)
abbrev FdEq : List D → D → Prop := fun ds d => ∃ L, ds = [.lang L, .lang L] ∧ d = .bl true
theorem dfm_lets (lc : LC K C) (F1 : Df P w K mg base C 1 "runs_of" FdRuns) (h : MHas K C "lets" "Language.lets" s_Language_lets ["self", "word"]) : DfM P w K mg base C 2 "lets" FdLets := by
  refine dfm_mk h sc_Language_lets (fun ds d ⟨F, u, e, _⟩ => by rw [e] <;> rfl) fun f cdv A outer s H E ds d hr ⟨F, u, e, hl, ed⟩ => ?_
  subst e ed
  refine s_cons (s_set 2 sc_Language_lets.nd (PD.of (d_call F1 hr (a_cons (dv 1) a_nil) ⟨sW u, rfl, by rw [sW_len]; omega, rfl⟩) (by rw [rS_word])) (s_one (s_ret (PD.of (d_or (l := decide (rB u < F.rn) || (decide (rB u = F.rn) && F.fs.contains (u.headD false))) (d_isall lc (dv 0)) fun ha => PD.of (d_or (l := decide (rB u = F.rn) && F.fs.contains (u.headD false)) (d_cmp op_lt (dv 2) (d_runs lc (dv 0)) rd_lt) fun _ => d_one (PD.of (d_and (l := F.fs.contains (u.headD false)) (d_cmp op_eq (dv 2) (d_runs lc (dv 0)) rd_eqI) fun he => d_one ?_) ?_)) ?_) rfl) rfl)))
  · have hF : F ≠ .all := any_all ha
    have he' : (rB u : Int) = (F.rn : Int) := of_decide_eq_true he
    have hp := (rn_pos F).1
    cases u with
    | nil =>
      have z : (rB [] : Nat) = 0 := rfl
      omega
    | cons b u =>
      exact PD.of (d_cmp op_in_seq (d_ix ix_str (dv 1) d_int (rd_ixS (i := 0) (c := cB b) (by rw [sW_len]; omega) rfl)) (d_firsts lc (dv 0)) (rd_in false rfl (firsts_flat F) (.inl rfl))) (congrArg D.bl (in_firsts F hF b))
  · congr 2
    show decide ((rB u : Int) = (F.rn : Int)) = decide (rB u = F.rn)
    rw [Bool.eq_iff_iff, decide_eq_true_eq, decide_eq_true_eq]
    omega
  · congr 2
    show decide ((rB u : Int) < (F.rn : Int)) = decide (rB u < F.rn)
    rw [Bool.eq_iff_iff, decide_eq_true_eq, decide_eq_true_eq]
    omega
theorem dfm_contains (F1 : Df P w K mg base C 1 "is_word" FdIsWord) (lc : LC K C) (F2 : DfM P w K mg base C 2 "lets" FdLets) (h : MHas K C "__contains__" "Language.__contains__" s_Language_contains ["self", "word"]) : DfM P w K mg base C 3 "__contains__" FdLets := by
  refine dfm_mk h sc_Language_contains (fun ds d ⟨F, u, e, _⟩ => by rw [e] <;> rfl) fun f cdv A outer s H E ds d hr ⟨F, u, e, hl, ed⟩ => ?_
  subst e ed
  refine s_one (s_ret (PD.of (d_and (k := true) (PD.of (d_call F1 (hr.mono (by decide)) (a_cons (dv 1) a_nil) ⟨sW u, rfl, by rw [sW_len]; omega, rfl⟩) (by rw [isW_word])) fun _ => d_one (d_meth lc F2 hr (dv 0) (a_cons (dv 1) a_nil) ⟨F, u, rfl, hl, rfl⟩)) (by rw [Bool.true_and])) rfl)
theorem dfm_forms (T : Tp K mg) (lc : LC K C) (h : ∃ (p g : Addr) (fd : FuncData), Fun K "forms" "Language.forms" s_Language_forms g fd ∧ PropOf K C "forms" p g ∧ Binds K fd ["self"] []) : PrO P w K mg base C 1 "forms" FdForms := by
  obtain ⟨p, g, fd, F0, hp, hb⟩ := h
  refine ⟨p, g, fd, ["self"], fn_d F0 sc_Language_forms (fun ds d ⟨F, e, _⟩ => by rw [e] <;> rfl) fun cdv A outer s H E ds d hr ⟨F, e, ed⟩ => ?_, hp, hb⟩
  subst e ed
  refine s_one (s_ret (d_if (t_val (d_isall lc (dv 0))) (fun k => PD.of (d_tup (a_cons (T.all rfl rfl) a_nil) (by decide)) ?_) fun k => PD.of (d_callTy call_tuple_of (T.b _) (a_cons (d_kept lc (dv 0)) a_nil) rc_tupL) ?_) rfl)
  · cases F <;> first | rfl | cases k
  · rfl
theorem isPd_strs : ∀ ss : List Str, isPdL (ss.map D.str) = true
  | [] => rfl
  | s :: ss => by
    simp only [List.map_cons, isPdL, isPd, Bool.true_and]
    exact isPd_strs ss
theorem dfm_eq (T : Tp K mg) (lc : LC K C) (hC : mg "Language" = some (.ref C)) (h : MHas K C "__eq__" "Language.__eq__" s_Language_eq ["self", "other"]) : DfM P w K mg base C 1 "__eq__" (fun ds d => ∃ F : Fm, ds = [.lang F.lg, .lang F.lg] ∧ d = .bl true) := by
  refine dfm_mk h sc_Language_eq (fun ds d ⟨F, e, _⟩ => by rw [e] <;> rfl) fun f cdv A outer s H E ds d hr ⟨F, e, ed⟩ => ?_
  subst e ed
  refine s_cons (s_if (t_not (t_val (d_isiL lc (T.b _) hC (dv 1)))) (fun k => by cases k) fun _ => s_nil (s_one (s_ret (PD.of (d_and (l := true) (d_cmp op_eq (d_isall lc (dv 0)) (d_isall lc (dv 1)) rd_eqB) fun _ => d_one (PD.of (d_or (l := true) (d_isall lc (dv 0)) fun _ => d_one (PD.of (d_cmp (op_eqD (room_un hr)) (d_kept lc (dv 0)) (d_kept lc (dv 1)) (rd_eqD (isPd_strs _) (isPd_strs _) ?_ ?_)) ?_)) ?_)) ?_) rfl)))
  · cases F <;> decide +kernel
  · cases F <;> decide +kernel
  · cases F <;> exact congrArg D.bl (by decide +kernel)
  · rw [Bool.or_true]
  · rw [decide_eq_true rfl]
    rfl
end
end Kp

/-! # for within a generator -/
namespace L2
open PySem PySem.Spec PyProof.Rows
section
variable {prog : Program} {w : World} {A : Around} {R : GenEnd} {Y : Protocol} {n : Nat} {s₀ : Shared} {fs : List Frame} {s : Shared} {env : Env}
abbrev hxFor (env : Env) : Value → Sem PySem.Fin := fun e => (do noteFrame e env; theTreesLotGoes e : Sem Unit).wrap (fun _ => .raise e) .raise id id
theorem seg_forLoop {tg : Expr} {it : Value} {body : List Stmt} {fls : Value → Shared → Prop}
    (h : wpAny (model prog w) (A.over (.forLoop tg it body [] env) fs) (pyNext it) (fun r s1 => match r with
      | none => Seg (model prog w) A R Y n s₀ (.forLoop tg it body [] env) (.pure (.again (.block [] env))) fs s1
      | some v => wpAny (model prog w) (A.over (.forLoop tg it body [] env) fs) (letOwnedTupleGo tg it v) (fun _ s1' => wpAny (model prog w) (A.over (.forLoop tg it body [] env) fs) (assign tg env v) (fun _ s2 =>
          Seg (model prog w) A R Y n s₀ (.forLoop tg it body [] env) ((execs body env).wrap (fun f => match f with
            | .next | .cont => .pure (.again (.forLoop tg it body [] env))
            | .brk => .pure (.done .next)
            | .ret v => .pure (.done (.ret v))) (hxFor env) id id) fs s2) fls s1') (fun _ _ => False) s1) (fun _ _ => False) s)
    (hx : ∀ x s', fls x s' → Seg (model prog w) A R Y n s₀ (.forLoop tg it body [] env) (hxFor env x) fs s') :
    Seg (model prog w) A R Y n s₀ (.forLoop tg it body [] env) ((model prog w).den (.forLoop tg it body [] env)) fs s := by
  show Seg _ A R Y n s₀ _ ((forTurn tg it body [] env).onRaise (fun x => do noteFrame x env; theTreesLotGoes x)) fs s
  unfold forTurn
  rw [Sem.onRaise_eq_wrap]
  refine seg_bind_wrap (wpAny_standAt ?_)
  refine seg_bind_wrap (wpAny_onRaise (wpAny_mono h (fun r s1 hr => ?_) fun _ _ z => z.elim))
  cases r with
  | none => exact hr
  | some v =>
    refine seg_bind_wrap (wpAny_mono hr (fun _ s1' h1 => ?_) fun _ _ z => z.elim)
    refine seg_bind_wrap (wpAny_mono h1 (fun _ s2 h2 => ?_) fun x s' z => ?_)
    · rw [Sem.bind_eq_wrap', Sem.wrap_wrap]
      rw [Sem.wrap_congr (execs body env) _ _ (K' := fun f => match f with
            | .next | .cont => .pure (.again (.forLoop tg it body [] env))
            | .brk => .pure (.done .next)
            | .ret v => .pure (.done (.ret v))) (H' := hxFor env)
        (fun f => by cases f <;> rfl)
        (fun e => by first | exact Sem.bind_eq_wrap _ _ | (show (do noteFrame e env; theTreesLotGoes e : Sem Unit).bind (fun _ => .raise e) = _; rw [Sem.bind_eq_wrap]))]
      exact h2
    · have q := hx x s' z
      first
        | exact q
        | (show Seg _ A R Y n s₀ _ ((do noteFrame x env; theTreesLotGoes x : Sem Unit).bind fun _ => .raise x) fs s'; rw [Sem.bind_eq_wrap]; exact q)
end

section
variable {X : Cx} {tg iter : Expr} {body : List Stmt} {pos : Pos}
def tGFor (wi : TI) (g : TG) (tb : TGn) : TGn := fun D ys σ H => wi σ H fun J H1 => ∃ W : Nat → Nat → List V → St → Hp → Prop, (∃ m, W 0 m ys σ H1) ∧ ∀ i m ys σ H, W i m ys σ H →
  (J.stop i H ∧ D.nx ys σ H) ∨ (J.go i H ∧ ∃ N : List V → St → Hp → Prop, (∀ ys' σ' H', N ys' σ' H' → ∃ m', m' < m ∧ W (i + 1) m' ys' σ' H') ∧ ∀ x H', J.yld i H x H' → g x σ H' fun σ2 H2 => tb { D with nx := N, ct := N, bk := D.nx } ys σ2 H2)
theorem gs_for {wi : TI} {g : TG} {tb : TGn} (hp : PassesOwn (model X.prog X.w) X.A X.env X.xe) (hc : X.calm = true) (hi : PI X tg iter wi) (hg : PG X tg g) (hb : GSs X body tb)
    (hs : ∀ x, foldedSetIterable iter X.env x = pure x := by intro _; rfl) : GS X (.For tg iter body [] pos) (tGFor wi g tb) := by
  refine ⟨fun A S ip R n ys s₀ c fs K J gd lv s σ H D gc hn k hI ht => ?_⟩
  rw [exec_For]
  refine seg_bind_wrap (wpAny_standAt ?_)
  obtain ⟨acc0, cc0, r0, I0⟩ := hI
  refine seg_bind_wrap ?_
  rw [gc.over]
  refine wpAny_mono (hi.run _ s σ H _ I0 ht) (fun v s1 h1 => ?_) fun e s' z => k.exc n s₀ e s' z
  refine seg_bind_wrap (wpAny_of_eq (hs v) ?_)
  refine seg_bind_wrap (wpAny_standAt ?_)
  refine seg_bind_wrap ?_
  rw [gc.over]
  refine wpAny_holding (wpAny_mono h1 (fun itv s2 h2 => ?_) fun e s' z => k.exc n s₀ e s' z)
  obtain ⟨it, fp, tn, JJ, H2, e, I2, T, st2, f2, W, ⟨m0, w0⟩, turn⟩ := h2
  subst e
  refine seg_call fun p => ?_
  have gl := fun (kk : Result → Sem PySem.Fin) => gc_loop (k := kk) (c' := .forLoop tg (.ref it) body [] X.env) (l := lv []) (kp := []) (p := p) gc rfl rfl
  have stat : ∀ {acc : Array Value} {cc : Nat} {H' : Hp}, (∀ b ∈ fp, H' b = none) → ∀ b ∈ fp, FpOk X ((S, lstObj acc cc) :: ip) H' b := fun {acc cc H'} hz b hb => by
    obtain ⟨_, q1, q2, q3, q4, q5⟩ := f2 b hb
    refine ⟨hz b hb, q1, q2, q3, q4, fun p' hp' => ?_⟩
    rcases List.mem_append.mp hp' with z | z
    · exact q5 p' (List.mem_append_left _ z)
    · rcases List.mem_cons.mp z with z | z
      · rw [z]
        exact q5 (S, lstObj acc0 cc0) (List.mem_append_right _ List.mem_cons_self)
      · exact q5 p' (List.mem_append_right _ (List.mem_cons_of_mem _ z))
  have loop : ∀ (m n : Nat) (ys : List V) (s₀ s : Shared) (i : Nat) (σ : St) (H : Hp), n + ys.length = sizeLine → W i m ys σ H → GI X S ip ys σ H s → tn i s.heap → (∀ b ∈ fp, H b = none) →
      Seg (model X.prog X.w) A R (GY X S) n s₀ (.forLoop tg (.ref it) body [] X.env) ((model X.prog X.w).den (.forLoop tg (.ref it) body [] X.env))
        (.ret (fun r => ((match r with | .ok f => (.pure f : Sem Flow) | .error e => .raise e).onRaise (cameBack X.env)).wrap K J gd lv) none (gd false) (lv []) c p [] :: fs) s := by
    intro m
    induction m using Nat.strongRecOn with
    | ind m ih =>
      intro n ys s₀ s i σ H hn w hI st fr
      have ee : ∀ (n : Nat) (s₀ : Shared) (x : Value) (s' : Shared), X.xe x s' → Seg (model X.prog X.w) A R (GY X S) n s₀ (.forLoop tg (.ref it) body [] X.env)
          (hxFor X.env x)
          (.ret (fun r => ((match r with | .ok f => (.pure f : Sem Flow) | .error e => .raise e).onRaise (cameBack X.env)).wrap K J gd lv) none (gd false) (lv []) c p [] :: fs) s' := fun n s₀ x s' hx => by
        refine seg_wrap ?_
        rw [(gl _).over]
        refine wpAny_bind (wpAny_mono (hp x s' hx) (fun _ s'' hcb => wpAny_theTreesLotGoes ?_) fun y s'' hcb => ?_)
        · exact seg_leaf (.error x) (seg_cameBack gc k hcb)
        · exact seg_leaf (.error y) (seg_cameBack gc k hcb)
      refine seg_forLoop (fls := X.xe) ?_ (fun x s' hx => ee n s₀ x s' hx)
      rw [(gl _).over]
      obtain ⟨acc, cc, r, I⟩ := hI
      rcases turn i m ys σ H w with ⟨stop, qn⟩ | ⟨go, N, hN, step⟩
      · refine thn (T.done X rfl rfl rfl hc i _ s σ H (fun _ _ => False) I (stat fr) st stop) fun rr s4 ⟨hr, I4⟩ => ?_
        subst hr
        refine seg_again rfl ?_
        exact seg_leaf (.ok .next) (k.ok n ys s₀ s4 .next hn ⟨σ, H, ⟨acc, cc, r, I4⟩, qn⟩)
      · refine thn (T.item X rfl rfl rfl hc i _ s σ H (fun _ _ => False) I (stat fr) st go) fun rr s4 ⟨u, hr, h4⟩ => ?_
        subst hr
        refine thn h4 fun _ s5 ⟨x, H5, I5, r5, y5, st5, fr5⟩ => ?_
        have I5' := I5.pinned (stat fr5) (T.obj _ _ st5)
        refine wpAny_mono (hg.run _ s5 σ H5 x u _ I5' r5 (step x H5 y5)) (fun _ s6 h6 => ?_) fun _ _ z => z
        obtain ⟨σ6, H6, I6, q6⟩ := h6
        have gc2 : GC X S (ip ++ pinsAt fp s5.heap) A (.forLoop tg (.ref it) body [] X.env) (.ret (fun r => ((match r with | .ok f => (.pure f : Sem Flow) | .error e => .raise e).onRaise (cameBack X.env)).wrap K J gd lv) none (gd false) (lv []) c p [] :: fs) id :=
          ⟨gc.pn, fun p' hp' => by
            rcases List.mem_append.mp hp' with z | z
            · exact gc.ip p' z
            · obtain ⟨_, _, _, _, _, q5⟩ := f2 p'.1 (of_pinsAt z).1
              exact Ne.symm (q5 (S, lstObj acc0 cc0) (List.mem_append_right _ List.mem_cons_self)), gc.apart, (gl _).over, (gl _).split, (gl _).guard, rfl⟩
        have back : ∀ {ys' : List V} {σ7 : St} {H7 : Hp} {s7 : Shared}, GI X S (ip ++ pinsAt fp s5.heap) ys' σ7 H7 s7 → GI X S ip ys' σ7 H7 s7 ∧ tn (i + 1) s7.heap ∧ ∀ b ∈ fp, H7 b = none := fun {ys' σ7 H7 s7} ⟨acc', cc', r', I7⟩ => by
          have I7' : Inv X (((S, lstObj acc' cc') :: ip) ++ pinsAt fp s5.heap) σ7 H7 s7 := I7
          refine ⟨⟨acc', cc', r', I7'.unpinned⟩, T.keep _ _ _ st5 fun b hb o e => (I7'.pin (b, o) (List.mem_append_right _ (List.mem_append_right _ (mem_pinsAt hb e)))).1, fun b hb => ?_⟩
          obtain ⟨o, e, d⟩ := T.obj _ _ st5 b hb
          exact (I7'.pin (b, o) (List.mem_append_right _ (List.mem_append_right _ (mem_pinsAt hb e)))).2.1
        refine hb.run A S (ip ++ pinsAt fp s5.heap) R n ys s₀ _ _ _ _ id id s6 σ6 H6 { D with nx := N, ct := N, bk := D.nx } gc2 hn ⟨fun n' ys' s₀' s3 f hn' hs => ?_, fun n' s₀' x s3 hx => ee n' s₀' x s3 hx⟩ ⟨acc, cc, r, I6⟩ q6
        cases f with
        | next =>
          obtain ⟨σ3, H3, I3, n3⟩ := hs
          obtain ⟨m', hm, w3⟩ := hN ys' σ3 H3 n3
          obtain ⟨z1, z2, z3⟩ := back I3
          exact seg_again rfl (ih m' hm n' ys' s₀' s3 (i + 1) σ3 H3 hn' w3 z1 z2 z3)
        | cont =>
          obtain ⟨σ3, H3, I3, n3⟩ := hs
          obtain ⟨m', hm, w3⟩ := hN ys' σ3 H3 n3
          obtain ⟨z1, z2, z3⟩ := back I3
          exact seg_again rfl (ih m' hm n' ys' s₀' s3 (i + 1) σ3 H3 hn' w3 z1 z2 z3)
        | brk =>
          obtain ⟨σ3, H3, I3, n3⟩ := hs
          exact seg_leaf (.ok .next) (k.ok n' ys' s₀' s3 .next hn' ⟨σ3, H3, (back I3).1, n3⟩)
        | ret v =>
          obtain ⟨v3, σ3, H3, I3, rv, n3⟩ := hs
          exact seg_leaf (.ok (.ret v)) (k.ok n' ys' s₀' s3 (.ret v) hn' ⟨v3, σ3, H3, (back I3).1, rv, n3⟩)
  exact loop m0 n ys s₀ s2 0 σ H2 hn w0 ⟨acc0, cc0, r0, I2⟩ st2 fun b hb => (f2 b hb).1
end
end L2

namespace Kp
open PySem PySem.Spec PyProof.Rows L2
section
variable {P : Program} {w : World} {K : PySem.W.Frag} {mg : Str → Option Value} {base : Heap} {C : Addr}
/-! ### the classes of errors -/
structure EHas (K : PySem.W.Frag) (mg : Str → Option Value) (x qual f : Str) (st : Stmt) (Ce : Addr) (CK : Addr) (mc : Value) : Prop where
  oex : OexC K Ce
  no : PySem.W.findIn K (.ref Ce) f = some none
  gm : mg x = some (.ref Ce)
  keep : mg "KeepError" = some (.ref CK)
  rd : ClX.CRead K CK mc
  at_ : PySem.W.findCls K (.ref CK) mc "__init__" = some (.val (.builtin "ValueError.__init__"))
  ex : ∃ (fI : Addr) (fd : FuncData), Fun K "__init__" qual st fI fd ∧ PySem.W.findIn K (.ref Ce) "__init__" = some (some (.ref fI)) ∧ PySem.W.typeIn K (.ref fI) = some (.type "function") ∧ Binds K fd ["self", f] []
theorem ek_kinds {Ce CK : Addr} {mc : Value} (h : EHas K mg "InvalidKinds" "InvalidKinds.__init__" "index" s_InvalidKinds_init Ce CK mc) : Ek P w K mg base 1 "InvalidKinds" Ce "index" := by
  obtain ⟨fI, fd, F, iC, tI, hb⟩ := h.ex
  refine ⟨h.oex, h.no, h.gm, fI, fd, ["self", "index"], F.ok sc_InvalidKinds_init (fun vs H Q E ⟨a, C, v, e, _⟩ => by rw [e] <;> rfl) (fun cdv A outer s H vs Q E hr hsp => ?_), iC, tI, hb⟩
  obtain ⟨a, Ca, v, e, T, hno, ha, q⟩ := hsp
  subst e
  refine ⟨_, pss_cons (ps_expr (pe_keinit rfl h.keep h.rd h.at_ (pa_cons (pe_var (i := 0) rfl (.inl rfl)) (pa_cons pe_str pa_nil)))) (pss_one (ps_ost (pe_var (i := 0) rfl (.inl rfl)) (pe_var (i := 1) rfl (.inl rfl)))), ?_⟩
  refine ⟨.ref a, rfl, a, Ca, [.str "no kinds"], rfl, by decide, T, ha, ?_⟩
  refine ⟨v, rfl, .ref a, rfl, a, Ca, rfl, T, hno, .inl ⟨ha, fun dx h1 h2 => q dx h1 h2⟩⟩
theorem ek_size {Ce CK : Addr} {mc : Value} (h : EHas K mg "InvalidSize" "InvalidSize.__init__" "number" s_InvalidSize_init Ce CK mc) : Ek P w K mg base 1 "InvalidSize" Ce "number" := by
  obtain ⟨fI, fd, F, iC, tI, hb⟩ := h.ex
  refine ⟨h.oex, h.no, h.gm, fI, fd, ["self", "number"], F.ok sc_InvalidSize_init (fun vs H Q E ⟨a, C, v, e, _⟩ => by rw [e] <;> rfl) (fun cdv A outer s H vs Q E hr hsp => ?_), iC, tI, hb⟩
  obtain ⟨a, Ca, v, e, T, hno, ha, q⟩ := hsp
  subst e
  refine ⟨_, pss_cons (ps_expr (pe_keinit rfl h.keep h.rd h.at_ (pa_cons (pe_var (i := 0) rfl (.inl rfl)) (pa_cons pe_str pa_nil)))) (pss_one (ps_ost (pe_var (i := 0) rfl (.inl rfl)) (pe_var (i := 1) rfl (.inl rfl)))), ?_⟩
  refine ⟨.ref a, rfl, a, Ca, [.str "no size"], rfl, by decide, T, ha, ?_⟩
  refine ⟨v, rfl, .ref a, rfl, a, Ca, rfl, T, hno, .inl ⟨ha, fun dx h1 h2 => q dx h1 h2⟩⟩
/-! ### need_size -/
abbrev FdNeedSize (Cz : Addr) : List D → Out → Prop := fun ds o => ∃ x t, ds = [x] ∧ tyD x = some t ∧ o = if isPl x 61 then .ok .non else .er Cz "number" x
theorem dfe_need_size {Cz : Addr} (T : Tp K mg) (F1 : Df P w K mg base C 2 "is_place" FdIsPlace) (Z : Ek P w K mg base 1 "InvalidSize" Cz "number") (h : Has K mg "need_size" s_need_size ["size"]) : DfE P w K mg base C 3 "need_size" (FdNeedSize Cz) := by
  refine dfe_mk h sc_need_size (fun ds o ⟨x, t, e, _⟩ => by rw [e] <;> rfl) fun f cdv A outer s H E ds o hr ⟨x, t, e, ht, eo⟩ tk po => ?_
  subst e eo
  refine w_one (w_if (t_not (t_val (d_call F1 hr (a_cons (dv 0) (a_cons (d_op op_add (T.size rfl rfl) d_int rd_add) a_nil)) ⟨x, t, 61, rfl, ht, rfl⟩))) (fun k => ?_) fun k => ?_)
  · rw [Bool.not_eq_true'] at k
    exact w_one (w_raise tk Z rfl hr pass0 (a_cons (dv 0) a_nil) (by rw [k]; rfl))
  · rw [Bool.not_eq_false'] at k
    exact w_nil (by rw [k]; rfl)
/-! ### counts -/
theorem dfm_many (T : Tp K mg) (lc : LC K C) (F1 : Df P w K mg base C 1 "chosen" FdChosen) (h : MHas K C "many" "Language.many" s_Language_many ["self", "size"]) : DfM P w K mg base C 2 "many" FdMany := by
  refine dfm_mk h sc_Language_many (fun ds d ⟨F, n, e, _⟩ => by rw [e] <;> rfl) fun f cdv A outer s H E ds d hr ⟨F, n, e, hn, ed⟩ => ?_
  subst e ed
  have hp := rn_pos F
  refine s_cons (s_if (t_of (w_or (l := F.lg.all) (t_cmp op_eq (dv 1) d_int rd_eqI) fun _ => w_or1 (t_val (d_isall lc (dv 0))))) (fun k => s_one (s_ret (PD.of (d_op op_shl d_int (dv 1) (rd_shl ⟨by omega, by omega, by decide⟩)) ?_) rfl)) fun k => s_nil ?_)
  · unfold manyM
    rw [Bool.or_eq_true, decide_eq_true_eq] at k
    rw [if_pos (by rcases k with k | k; exact .inl (by omega); exact .inr k)]
    simp
  · rw [Bool.or_eq_false_iff, decide_eq_false_iff_not] at k
    have hn0 : n ≠ 0 := fun e => k.1 (by rw [e]; rfl)
    refine s_cons (s_set 2 sc_Language_many.nd (d_callB (cr_sum rfl) (T.b _) (a_cons (d_lc0 "more" 3 (List.range (F.rn - 1)) (fun i => .int (1 + (i : Int))) (fun i => .int (2 * chM ((n : Int) - 1) i)) rfl sc_Language_many.nd (PID.of (i_range2 (T.b _) (a_cons d_int (a_cons (d_runs lc (dv 0)) a_nil)) (by omega) ?_) ?_) (blkOk_by (N := n_Language_many) (sc := defScope s_Language_many) (by decide +kernel))
      (fun i hi s H Ca cl fp => d_op op_mul d_int (d_call F1 hr (a_cons (d_op op_sub (dv 1) d_int rd_sub) (a_cons (PD.of (d_op op_sub (dv 3) d_int rd_sub) (z := .int (i : Int)) (congrArg D.int (by omega))) a_nil)) ⟨_, i, rfl, by omega, by omega, by have := List.mem_range.mp hi; omega, rfl⟩) (rd_mul (.inl ⟨by omega, by omega⟩))) ?_) a_nil) rc_sum') (s_one (s_ret (PD.of (d_op op_add (dv 2) (d_op op_mul (d_callB call_len (T.b _) (a_cons (d_firsts lc (dv 0)) a_nil) rc_lenL) (d_call F1 hr (a_cons (d_op op_sub (dv 1) d_int rd_sub) (a_cons (PD.of (d_op op_sub (d_runs lc (dv 0)) d_int rd_sub) (z := .int ((F.rn - 1 : Nat) : Int)) ?_) a_nil)) ⟨_, F.rn - 1, rfl, by omega, by omega, by omega, rfl⟩) (rd_mul (.inl ?_))) rd_add) ?_) rfl)))
    · show -100000 ≤ (F.rn : Int) ∧ (F.rn : Int) ≤ 100000
      omega
    · show rgD 1 ((F.rn : Int) - 1).toNat = _
      unfold rgD
      rw [show ((F.rn : Int) - 1).toNat = F.rn - 1 from by omega]
    · rw [List.length_range]
      omega
    · show D.int ((F.rn : Int) - 1) = _
      exact congrArg D.int (by omega)
    · rw [List.length_map]
      have : F.lg.firsts.length ≤ 2 := by cases F <;> decide
      constructor <;> omega
    · unfold manyM
      have k2 : F.any = false := k.2
      rw [if_neg (fun z => by rcases z with z | z; exact hn0 z; rw [k2] at z; cases z), List.length_map]
      have : F.lg.firsts.length = F.fs.length := by
        cases F <;> first | rfl | (exact absurd k.2 (by decide))
      rw [this]
theorem sW_none : ("" : Str) = sW [] := by decide
theorem rB_le : ∀ u : List Bool, rB u ≤ u.length
  | [] => Nat.le_refl _
  | [_] => Nat.le_refl _
  | a :: b :: u => by
    have := rB_le (b :: u)
    rw [rB]
    simp only [List.length_cons] at this ⊢
    split <;> omega
theorem dfm_ends (T : Tp K mg) (lc : LC K C) (F1 : Df P w K mg base C 1 "chosen" FdChosen) (F2 : Df P w K mg base C 1 "runs_of" FdRuns) (F3 : DfM P w K mg base C 2 "many" FdMany) (h : MHas K C "ends" "Language.ends" s_Language_ends ["self", "begun", "left"]) : DfM P w K mg base C 3 "ends" FdEnds := by
  refine dfm_mk h sc_Language_ends (fun ds d ⟨F, u, n, e, _⟩ => by rw [e] <;> rfl) fun f cdv A outer s H E ds d hr ⟨F, u, n, e, hu, hn, ed⟩ => ?_
  subst e ed
  have hp := rn_pos F
  refine s_cons (s_if (t_of (w_or (l := decide (sW u = "")) (t_val (d_isall lc (dv 0))) fun _ => w_or1 (t_cmp op_eq (dv 1) d_str rd_eqS))) (fun k => s_one (s_ret (PD.of (d_meth lc F3 hr (dv 0) (a_cons (dv 2) a_nil) ⟨F, n, rfl, hn, rfl⟩) ?_) rfl)) fun k => s_nil ?_)
  · unfold endsM
    rw [Bool.or_eq_true, decide_eq_true_eq] at k
    rw [if_pos]
    rcases k with k | k
    · exact .inl k
    · exact .inr (sW_inj (k.trans sW_none))
  · rw [Bool.or_eq_false_iff, decide_eq_false_iff_not] at k
    have hF : F ≠ .all := any_all k.1
    have hu0 : u ≠ [] := fun e => k.2 (by rw [e]; exact sW_none.symm)
    refine s_cons (s_set 3 sc_Language_ends.nd (PD.of (d_call F2 (hr.mono (by decide)) (a_cons (dv 1) a_nil) ⟨sW u, rfl, by rw [sW_len]; omega, rfl⟩) (by rw [rS_word])) (s_cons (s_set 4 sc_Language_ends.nd (d_callB (cr_sum rfl) (T.b _) (a_cons (d_lc0 "more" 5 (List.range (F.rn - rB u)) (fun i => .int (i : Int)) (fun i => .int (chM n i)) rfl sc_Language_ends.nd
      (PID.of (i_range2 (T.b _) (a_cons d_int (a_cons (d_op op_sub (d_runs lc (dv 0)) (dv 3) rd_sub) a_nil)) (by omega) ?_) ?_) (blkOk_by (N := n_Language_ends) (sc := defScope s_Language_ends) (by decide +kernel))
      (fun i hi s H Ca cl fp => d_call F1 (hr.mono (by decide)) (a_cons (dv 2) (a_cons (dv 5) a_nil)) ⟨_, i, rfl, by omega, by omega, by have := List.mem_range.mp hi; omega, rfl⟩) ?_) a_nil) rc_sum')
      (s_one (s_ret (PD.of (d_op op_add (dv 4) (d_if (d := .int (if rB u ≤ F.rn ∧ F.fs.contains (u.headD false) = true then chM n (F.rn - rB u) else 0)) (k := decide (rB u ≤ F.rn) && F.fs.contains (u.headD false)) (t_of (w_and (l := F.fs.contains (u.headD false)) (PTD.of (t_cmp op_le (dv 3) (d_runs lc (dv 0)) rd_le) ?_) fun _ => w_and1 ?_)) (fun hk => PD.of (d_call F1 (hr.mono (by decide)) (a_cons (dv 2) (a_cons (PD.of (d_op op_sub (d_runs lc (dv 0)) (dv 3) rd_sub) (z := .int ((F.rn - rB u : Nat) : Int)) ?_) a_nil)) ⟨_, F.rn - rB u, rfl, by omega, by omega, by omega, rfl⟩) ?_) fun hk => PD.of d_int ?_) rd_add) ?_) rfl)))))
    · show -100000 ≤ (F.rn : Int) - (rB u : Int) ∧ (F.rn : Int) - (rB u : Int) ≤ 100000
      have := rB_le u
      omega
    · show rgD 0 ((F.rn : Int) - (rB u : Int) - 0).toNat = _
      rw [rg0, show ((F.rn : Int) - (rB u : Int) - 0).toNat = F.rn - rB u from by omega]
    · rw [List.length_range]
      omega
    · show decide ((rB u : Int) ≤ (F.rn : Int)) = decide (rB u ≤ F.rn)
      rw [Bool.eq_iff_iff, decide_eq_true_eq, decide_eq_true_eq]
      omega
    · cases u with
      | nil => exact absurd rfl hu0
      | cons b u => exact PTD.of (t_cmp op_in_seq (d_ix ix_str (dv 1) d_int (rd_ixS (i := 0) (c := cB b) (by rw [sW_len]; omega) rfl)) (d_firsts lc (dv 0)) (rd_in false rfl (firsts_flat F) (.inl rfl))) (in_firsts F hF b)
    · rw [Bool.and_eq_true, decide_eq_true_eq] at hk
      show D.int ((F.rn : Int) - (rB u : Int)) = _
      have := hk.1
      exact congrArg D.int (by omega)
    · rw [Bool.and_eq_true, decide_eq_true_eq] at hk
      rw [if_pos hk]
    · rw [Bool.and_eq_false_iff, decide_eq_false_iff_not] at hk
      rw [if_neg (fun z => by rcases hk with q | q; exact q z.1; rw [z.2] at q; cases q)]
    · unfold endsM
      have k2 : F.any = false := k.1
      have e : ¬ (F.any = true ∨ u = []) := fun z => by
        rcases z with z | z
        · rw [k2] at z
          cases z
        · exact hu0 z
      rw [if_neg e]
end
end Kp

namespace Kp
open PySem PySem.Spec PyProof.Rows L2
theorem isPl_nat {n : Nat} (h : n ≤ 60) : isPl (.int n) 61 = true := by
  show (decide ((0 : Int) ≤ n) && decide ((n : Int) < 61)) = true
  rw [decide_eq_true (by omega), decide_eq_true (by omega)]
  rfl
theorem str0 : ("0" : Str) = sW [false] := by decide
theorem str1 : ("1" : Str) = sW [true] := by decide
theorem d_neg {C : Addr} {X : Cx} {a : Expr} {γ : DSt} {pos : Pos} {i : Int} (h : PD C X a γ (.int i)) : PD C X (.UnaryOp .USub a pos) γ (.int (-i)) :=
  PE.weak (pe_un un_neg h) fun σ H Q ⟨G, s, sl, q⟩ => ⟨G, s, sl, fun v G1 H1 n1 a1 => ⟨i, a1.int', q _ G1 H1 n1 (At.int _)⟩⟩
section
variable {P : Program} {w : World} {K : PySem.W.Frag} {mg : Str → Option Value} {base : Heap} {C : Addr}
theorem dfm_count {Cz : Addr} (lc : LC K C) (F1 : DfE P w K mg base C 3 "need_size" (FdNeedSize Cz)) (F2 : DfM P w K mg base C 2 "many" FdMany) (h : MHas K C "count" "Language.count" s_Language_count ["self", "size"]) :
    DfM P w K mg base C 4 "count" (fun ds d => ∃ (F : Fm) (n : Nat), ds = [.lang F.lg, .int n] ∧ n ≤ 60 ∧ d = .int (manyM F n)) := by
  refine dfm_mk h sc_Language_count (fun ds d ⟨F, n, e, _⟩ => by rw [e] <;> rfl) fun f cdv A outer s H E ds d hr ⟨F, n, e, hn, ed⟩ => ?_
  subst e ed
  exact s_cons (s_expr (d_callE F1 hr (a_cons (dv 1) a_nil) ⟨_, _, rfl, rfl, by rw [isPl_nat hn]; rfl⟩) (s_one (s_ret (d_meth lc F2 (hr.mono (by decide)) (dv 0) (a_cons (dv 1) a_nil) ⟨F, n, rfl, by omega, rfl⟩) rfl)))
theorem dfm_made (T : Tp K mg) (lc : LC K C) (F1 : DfM P w K mg base C 3 "ends" FdEnds) (h : MHas K C "made" "Language.made" s_Language_made ["self", "size", "number"]) : DfM P w K mg base C 4 "made" FdMade := by
  refine dfm_mk h sc_Language_made (fun ds d ⟨F, n, i, e, _⟩ => by rw [e] <;> rfl) fun f cdv A outer s H E ds d hr ⟨F, n, n0, e, hn, ed⟩ => ?_
  subst e ed
  refine s_cons (s_set 3 sc_Language_made.nd d_str (s_cons (s_for PassesOwn.never rfl (xs := (List.range n).map fun (i : Nat) => D.int ((n - 1 - i : Nat) : Int)) (PID.of (i_range3 (T.b _) (a_cons (d_op op_sub (dv 1) d_int rd_sub) (a_cons (d_neg d_int) (a_cons (d_neg d_int) a_nil))) (by omega) (by omega)) ?_) (g_name 4 sc_Language_made.nd)
    (fun i γ => ∃ (u : List Bool) (num : Int) (o1 o2 : Option D), i ≤ n ∧ u.length = i ∧ madeM F (n - i) u num = madeM F n [] n0 ∧ γ = [some (.lang F.lg), some (.int n), some (.int num), some (.str (sW u)), o1, o2]) ⟨[], n0, _, _, Nat.zero_le _, rfl, rfl, by rw [← sW_none]; rfl⟩ ?_ ?_)))
  · show rgD' ((n : Int) - 1) ((n : Int) - 1 - -1).toNat = _
    unfold rgD'
    rw [show ((n : Int) - 1 - -1).toNat = n from by omega]
    refine List.map_congr_left fun i hi => ?_
    have := List.mem_range.mp hi
    exact congrArg D.int (by omega)
  · rintro i d γ' hi ⟨u, num, o1, o2, hle, hu, hm, rfl⟩
    obtain ⟨hlt, e⟩ : i < n ∧ d = .int ((n - 1 - i : Nat) : Int) := by
      rw [List.getElem?_map, Option.map_eq_some_iff] at hi
      obtain ⟨j, h4, h5⟩ := hi
      obtain ⟨h6, h7⟩ := List.getElem?_eq_some_iff.mp h4
      rw [List.getElem_range] at h7
      rw [List.length_range] at h6
      subst h7
      exact ⟨by omega, h5.symm⟩
    subst e
    have hms : madeM F (n - i) u num = if num < endsM F (u ++ [false]) (n - 1 - i) then madeM F (n - (i + 1)) (u ++ [false]) num else madeM F (n - (i + 1)) (u ++ [true]) (num - endsM F (u ++ [false]) (n - 1 - i)) := by
      rw [show n - i = (n - 1 - i) + 1 from by omega, madeM, show n - (i + 1) = n - 1 - i from by omega]
    have hl1 : (sW u).length + ("0" : Str).length ≤ 10000 := by
      rw [sW_len, str0, sW_len]
      simp
      omega
    have hl2 : (sW u).length + ("1" : Str).length ≤ 10000 := by
      rw [sW_len, str1, sW_len]
      simp
      omega
    refine ⟨_, rfl, s_cons (s_set 5 sc_Language_made.nd (d_meth lc F1 hr (dv 0) (a_cons (PD.of (d_op op_add_str (dv 3) d_str (rd_addS hl1)) (z := .str (sW (u ++ [false]))) (by rw [str0, sW_app])) (a_cons (dv 4) a_nil)) ⟨F, u ++ [false], n - 1 - i, rfl, by simp; omega, by omega, rfl⟩) (s_one (s_if (t_cmp op_lt (dv 2) (dv 5) rd_lt)
      (fun k => s_one (s_set 3 sc_Language_made.nd (PD.of (d_op op_add_str (dv 3) d_str (rd_addS hl1)) (z := .str (sW (u ++ [false]))) (by rw [str0, sW_app])) ⟨u ++ [false], num, _, _, by omega, by simp [hu], ?_, rfl⟩))
      fun k => s_cons (s_set 3 sc_Language_made.nd (PD.of (d_op op_add_str (dv 3) d_str (rd_addS hl2)) (z := .str (sW (u ++ [true]))) (by rw [str1, sW_app])) (s_one (s_set 2 sc_Language_made.nd (d_op op_sub (dv 2) (dv 5) rd_sub) ⟨u ++ [true], _, _, _, by omega, by simp [hu], ?_, rfl⟩))))))⟩
    · rw [← hm, hms, if_pos (of_decide_eq_true k)]
    · rw [← hm, hms, if_neg (of_decide_eq_false k)]
  · rintro γ' ⟨u, num, o1, o2, hle, hu, hm, rfl⟩
    rw [List.length_map, List.length_range] at hm hu
    rw [Nat.sub_self] at hm
    refine s_one (s_ret (dv 3) ?_)
    rw [← hm]
    rfl
end
end Kp

namespace Kp
open PySem PySem.Spec PyProof.Rows L2
section
variable {P : Program} {w : World} {K : PySem.W.Frag} {mg : Str → Option Value} {base : Heap} {C : Addr}
theorem gsc_words : GScope n_Language_words ["self", "size"] (defScope s_Language_words) := ⟨rfl, rfl, rfl, by decide +kernel, rfl, by decide +kernel, by decide +kernel⟩
def wsV (F : Fm) (n : Nat) : List V := (wordsM F n).map fun u => V.str (sW u)
def spW (K : PySem.W.Frag) (C : Addr) : SpG := fun vs H cont E => ∃ G F n, Same G H ∧ AtL K C G [.lang (Fm.lg F), .int ((n : Nat) : Int)] vs ∧ n ≤ 60 ∧ 0 ≤ manyM F n ∧ manyM F n ≤ 1000 ∧ ∀ G' H', Nx G H G' H' → cont (wsV F n) H'
structure GW (P : Program) (w : World) (K : PySem.W.Frag) (mg : Str → Option Value) (base : Heap) (C : Addr) (k : Nat) : Prop where
  ex : ∃ (f : Addr) (fd : FuncData) (ps : List Str), GFn P w K mg base k f fd ps (spW K C) ∧ Meth K C "words" f ∧ Binds K fd ps []
theorem gw_words {Cz : Addr} (T : Tp K mg) (lc : LC K C) (F1 : DfE P w K mg base C 3 "need_size" (FdNeedSize Cz)) (F2 : DfM P w K mg base C 2 "many" FdMany) (F3 : DfM P w K mg base C 4 "made" FdMade) (h : MHas K C "words" "Language.words" s_Language_words ["self", "size"]) : GW P w K mg base C 5 := by
  obtain ⟨f, fd, F0, hm, hb⟩ := h.ex
  obtain ⟨oc, od, kV, doc, pm, an, cdv, ct, osl, efd, lk, hcd⟩ := F0.ex
  subst efd
  refine ⟨f, _, ["self", "size"], gfn_of lk hcd gsc_words (fun vs H Q E ⟨G, F, n, _, r, _⟩ => by rw [r.len] <;> rfl) (fun A outer s H vs Q E pn hr hsp => ?_), hm, hb⟩
  obtain ⟨G, F, n, sm, r, hn, h0, h1, q⟩ := hsp
  have hN : (manyM F n).toNat ≤ 1000 := by omega
  have hlen : (wordsM F n).length = (manyM F n).toNat := by
    unfold wordsM
    rw [List.length_map, List.length_range]
  refine ⟨_, gss_cons (gs_ps (s_expr (E := { nx := fun γ => γ = [some (.lang F.lg), some (.int n), Option.none], rt := fun _ => False }) (d_callE F1 (hr.mono (by decide)) (a_cons (dv 1 (γ := [some (.lang F.lg), some (.int n), Option.none])) a_nil) ⟨_, _, rfl, rfl, by rw [isPl_nat hn]; rfl⟩) rfl))
    (gss_cons (gs_for owns_gcx rfl (PID.of (i_range1 (γ := [some (.lang F.lg), some (.int n), Option.none]) (T.b _) (a_cons (d_meth lc F2 (hr.mono (by decide)) (dv 0) (a_cons (dv 1) a_nil) ⟨F, n, rfl, by omega, rfl⟩) a_nil) h0 (by omega)) (rg0 _)) (g_name (C := C) 2 gsc_words.nd)
      (gss_cons (gs_yield (PE.all (ι := { i : Nat // i < (manyM F n).toNat }) (t := fun i => cE K C [some (.lang F.lg), some (.int n), some (.int (i.1 : Int))] (.str (sW (madeM F n [] (i.1 : Int))))) fun i => d_meth lc F3 (hr.mono (by decide)) (dv 0) (a_cons (dv 1) (a_cons (dv 2) a_nil)) ⟨F, n, _, rfl, by omega, rfl⟩)) gss_nil)) gss_nil), ?_⟩
  have hst : Sl K C G (L2.start n_Language_words vs) [some (.lang F.lg), some (.int n), Option.none] := sl_start (N := n_Language_words) r
  refine ⟨G, sm, hst, fun σ1 γ1 G1 H1 n1 sl1 e1 => ?_, fun _ _ _ _ _ _ z => z.elim, fun _ _ _ _ _ _ z => z.elim, fun _ _ _ _ _ _ z => z.elim⟩
  subst e1
  refine ⟨G1, n1.s, sl1, fun J G2 H2 n2 wk => ?_⟩
  have hxl : ((List.range (manyM F n).toNat).map fun (i : Nat) => D.int (i : Int)).length = (manyM F n).toNat := by rw [List.length_map, List.length_range]
  refine ⟨fun i m ys σ H' => m = (manyM F n).toNat - i ∧ i ≤ (manyM F n).toNat ∧ ys = (wsV F n).take i ∧ ∃ G' o, Nx G2 H2 G' H' ∧ Sl K C G' σ [some (.lang F.lg), some (.int n), o], ⟨_, rfl, Nat.zero_le _, by rw [List.take_zero], G2, _, Nx.refl n2.s, sl1.mono n2.g⟩, ?_⟩
  rintro i m ys σ H' ⟨rfl, hi, rfl, G', o, n', sl'⟩
  by_cases hlt : i < (manyM F n).toNat
  · refine .inr ⟨wk.goes i H' (by rw [hxl]; exact hlt) (n'.g.trans n'.s), fun ys' σ' H'' => i + 1 ≤ (manyM F n).toNat ∧ ys' = (wsV F n).take (i + 1) ∧ ∃ G' o, Nx G2 H2 G' H'' ∧ Sl K C G' σ' [some (.lang F.lg), some (.int n), o], fun ys' σ' H'' ⟨q1, q2, q3⟩ => ⟨_, by omega, rfl, q1, q2, q3⟩, fun x H3 y => ?_⟩
    obtain ⟨d, G3, hd, n3, a3⟩ := wk.yields i H' x H3 G' (by rw [hxl]; exact hlt) n'.g n'.s y
    obtain ⟨_, ed⟩ := range_at hd
    subst ed
    refine ⟨G3, _, _, _, n3.s, sl'.mono n3.g, a3, rfl, fun σ4 sl4 _ => ?_⟩
    refine ⟨?_, ⟨i, hlt⟩, G3, n3.s, sl4, fun v G4 H4 n4 a4 => ?_⟩
    · rw [List.length_take]
      have : (1001 : Nat) < sizeLine := by decide
      omega
    · refine ⟨by omega, ?_, G4, _, (n'.trans n3).trans n4, sl4.mono n4.g⟩
      have e5 : (wsV F n)[i]? = some v := by
        rw [a4.str']
        unfold wsV wordsM
        rw [List.map_map, List.getElem?_map, List.getElem?_range hlt]
        rfl
      rw [take_succ' e5]
  · have ei : i = (manyM F n).toNat := by omega
    refine .inl ⟨by have z := wk.stops H' (n'.g.trans n'.s); rw [hxl] at z; rw [ei]; exact z, ?_⟩
    show Q ((wsV F n).take i) H'
    rw [List.take_of_length_le (by unfold wsV; rw [List.length_map, hlen]; omega)]
    exact q G' H' ((n1.trans n2).trans n')
end
section
variable {C : Addr} {X : Cx} {a e : Expr} {γ : DSt} {pos p apos cpos : Pos}
/-- list(o.words(e)) -/
theorem d_words {k n : Nat} {F : Fm} {pl : Sem Bool} (lc : LC X.K C) (W : GW X.prog X.w X.K X.mg X.base C k) (hr : Room (k + 3) X.A) (hl : X.mg "list" = Option.none) (ho : PD C X a γ (.lang F.lg)) (ha : PD C X e γ (.int n)) (hn : n ≤ 60) (h0 : 0 ≤ manyM F n) (h1 : manyM F n ≤ 1000) (hg : Gl X "list" := by rfl)
    (hst : starEach [e] X.env = (false, eval e X.env) :: starEach [] X.env := by rfl) (hpl : (backTo cpos (starEach [] X.env)).any (·.1) = false := by rfl)
    (ht : eval (.Call (.Attribute a "words" apos) [e] [] cpos) X.env = (do
      let ov ← eval a X.env
      standAt apos.atName
      let (f, first) ← holding [ov] (getMethod ov "words" pl)
      callWith cpos f first (backTo cpos (starEach [e] X.env)) (backToKw cpos (keywordEach [] X.env))) := by rfl)
    (he : starEach [.Call (.Attribute a "words" apos) [e] [] cpos] X.env = (false, eval (.Call (.Attribute a "words" apos) [e] [] cpos) X.env) :: starEach [] X.env := by rfl) :
    PD C X (.Call (.Name "list" p) [.Call (.Attribute a "words" apos) [e] [] cpos] [] pos) γ (.lst ((wordsM F n).map fun u => .str (sW u))) := by
  obtain ⟨f, fd, ps, G, hm, hb⟩ := W.ex
  refine PE.weak (pe_listG (pgen_meth (E := fun _ _ _ => False) ho lc.cls hm G (hr.mono (by omega)) hb .nil (a_cons ha a_nil hst) hst hpl ht) passL (fun _ _ _ z => z.elim) hr hg hl (by decide +kernel) (by decide) (by decide) he) fun σ H Q ⟨G, s, sl, q⟩ => ⟨G, s, sl, fun v G1 H1 n1 a1 => ?_⟩
  obtain ⟨c, dx, f1, f4, rfl, g1, g2, g3⟩ := a1.lang'
  refine ⟨c, dx, _, rfl, n1.s _ _ g1, rfl, G1, n1.s, sl.mono n1.g, fun us G2 H2 n2 a2 => ?_⟩
  show spW X.K C (V.ref c :: (us ++ [])) H2 _ _
  rw [List.append_nil]
  refine ⟨G2, F, n, n2.s, .cons (a1.mono n2.g) a2, hn, h0, h1, fun G3 H3 n3 p hp => ?_⟩
  refine q _ _ _ (((n1.trans n2).trans n3).trans (Nx.new n3.s hp)) (At.lst upd_same ?_)
  have z := AtL.of_strs (K := X.K) (C := C) (G := upd G3 p (.lst (wsV F n))) (ss := (wordsM F n).map sW)
  rw [List.map_map, List.map_map] at z
  exact z
end
end Kp

namespace Kp
open PySem PySem.Spec PyProof.Rows L2
section
variable {P : Program} {w : World} {K : PySem.W.Frag} {mg : Str → Option Value} {base : Heap} {C : Addr}
/-- a def by a reading of one's own -/
theorem df_mkT {x : Str} {st : Stmt} {N ps : List Str} {k : Nat} {Fd : List D → D → Prop} (h : Has K mg x st ps) (S : FnScope N ps (defScope st)) (hl : ∀ ds d, Fd ds d → ds.length = ps.length)
    (hb : ∀ (f : Addr) (cdv : Value) (A : Around) (outer : List Env) (s : Shared) (H : Hp) (E : XK) (ds : List D) (d : D), Room k (A.deeper (envOfC x (defScope st) s.heap.objs.size f cdv)) → Fd ds d →
      ∃ t, PSs (cxOf CX0 P w K mg base N x (defScope st) f cdv A outer s H E).nox (defBody st) t ∧ ∀ G σ (Q : VK), Same G H → Sl K C G σ (dstart N ds) → (∀ v G' H', Nx G H G' H' → At K C G' d v → Q v H') → t { nx := fun _ H' => Q .non H', rt := Q } σ H) : Df P w K mg base C (k + 1) x Fd := by
  obtain ⟨f, fd, F, hm, hbn⟩ := h.ex
  refine ⟨f, fd, ps, F.ok S (fun vs H Q E h => ?_) (fun cdv A outer s H vs Q E hr h => ?_), hm, F.kp, hbn⟩
  · obtain ⟨G, ds, d, _, r, hf, _⟩ := h
    rw [r.len, hl ds d hf]
  · obtain ⟨G, ds, d, sm, r, hf, q⟩ := h
    obtain ⟨t, ht, hq⟩ := hb f cdv A outer s H E ds d hr hf
    exact ⟨t, ht, hq G _ Q sm (sl_start r) q⟩
def apS (xs : List Str) : Stp → Str → List Str
  | .ins i _, it => xs.take i ++ [it] ++ xs.drop i
  | .del i, _ => xs.take i ++ xs.drop (i + 1)
  | .rev, _ => xs.reverse
  | .turn i, _ => xs.drop i ++ xs.take i
  | .next, _ => xs
def okStp (n : Nat) : Stp → Prop
  | .ins i _ => i ≤ 1000
  | .del i => i < n
  | .rev => True
  | .turn i => i ≤ 1000
  | .next => False
abbrev FdApplied : List D → D → Prop := fun ds d => ∃ (xs : List Str) (st : Stp) (it : Str), ds = [.lst (xs.map .str), st.d, .str it] ∧ xs.length ≤ 100 ∧ okStp xs.length st ∧ d = .lst ((apS xs st it).map .str)
theorem strs_app {xs ys : List Str} : (xs ++ ys).map D.str = xs.map D.str ++ ys.map D.str := List.map_append ..
theorem Acc.put {L : Addr} {G H G' H' : Hp} {acc acc' : List D} {us : List V} (a : Acc K C G H L acc G' H') (hL : H L = Option.none) (r : AtL K C G' acc' us) : Acc K C G H L acc' G' (upd H' L (.lst us)) := by
  refine ⟨a.g, fun b u e => ?_, fun b u e => ?_, a.n, a.ln, _, upd_same, r⟩
  · rw [upd_ne (ne_of_none e hL)]
    exact a.h b u e
  · rw [upd_ne (ne_of_none e a.ln)]
    exact a.s b u e
theorem own_slot {G : Hp} {σ : L2.St} {γ : DSt} {i j : Nat} {v w : Option V} (sl : Sl K C G σ γ) (hi : i < γ.length) (hij : i ≠ j) : ((σ.set i v).set j w)[i]? = some v := by
  rw [List.getElem?_set_ne (Ne.symm hij), List.getElem?_set_self (by rw [sl.len]; exact hi)]
theorem df_applied (T : Tp K mg) (h : Has K mg "applied" s_applied ["items", "change", "item"]) : Df P w K mg base C 1 "applied" FdApplied := by
  refine df_mkT h sc_applied (fun ds d ⟨xs, st, it, e, _⟩ => by rw [e] <;> rfl) fun f cdv A outer s H E ds d hr ⟨xs, st, it, e, hl, hok, ed⟩ => ?_
  subst e ed
  cases st with
  | next => exact hok.elim
  | rev =>
    have body : PSsD C (cxOf CX0 P w K mg base n_applied "applied" (defScope s_applied) f cdv A outer s H E).nox (defBody s_applied) (dstart n_applied [.lst (xs.map .str), Stp.rev.d, .str it]) { nx := fun _ => False, rt := fun d' => d' = .lst ((apS xs .rev it).map .str) } :=
      s_cons (s_par 3 4 rfl sc_applied.nd (a_cons (d_callTy call_list_of (T.b _) (a_cons (dv 0) a_nil) rc_listL) (a_cons (d_ix ix_tup (dv 1) d_int (rd_ixT (i := 0) rfl)) a_nil)) (s_cons (s_if (t_cmp op_eq (dv 4) d_str rd_eqS) (fun k => absurd k (by decide)) fun _ => s_one (s_if (t_cmp op_eq (dv 4) d_str rd_eqS) (fun k => absurd k (by decide)) fun _ => s_one (s_if (t_cmp op_eq (dv 4) d_str rd_eqS) (fun k => absurd k (by decide)) fun _ => s_one (s_if (t_cmp op_eq (dv 4) d_str rd_eqS) (fun k => absurd k (by decide)) fun _ => s_one (s_if (t_cmp op_eq (dv 4) d_str rd_eqS)
        (fun _ => s_one (s_set 3 sc_applied.nd (d_revL (dv 3)) (s_one (s_ret (dv 3) (by show _ = D.lst ((xs.reverse).map .str); rw [List.map_reverse]))))) fun k => absurd k (by decide)))))) ))
    exact ⟨_, body, fun G σ Q sm sl q => ⟨G, sm, sl, fun _ _ _ _ _ _ z => z.elim, fun d v G' H' n a e => q v G' H' n (by rw [← e]; exact a), fun _ _ _ _ _ _ z => z.elim, fun _ _ _ _ _ _ z => z.elim⟩⟩
  | turn i =>
    have hi : i ≤ 1000 := hok
    have body : PSsD C (cxOf CX0 P w K mg base n_applied "applied" (defScope s_applied) f cdv A outer s H E).nox (defBody s_applied) (dstart n_applied [.lst (xs.map .str), (Stp.turn i).d, .str it]) { nx := fun _ => False, rt := fun d' => d' = .lst ((apS xs (.turn i) it).map .str) } :=
      s_cons (s_par 3 4 rfl sc_applied.nd (a_cons (d_callTy call_list_of (T.b _) (a_cons (dv 0) a_nil) rc_listL) (a_cons (d_ix ix_tup (dv 1) d_int (rd_ixT (i := 0) rfl)) a_nil)) (s_cons (s_if (t_cmp op_eq (dv 4) d_str rd_eqS) (fun k => absurd k (by decide)) fun _ => s_one (s_if (t_cmp op_eq (dv 4) d_str rd_eqS) (fun k => absurd k (by decide)) fun _ => s_one (s_if (t_cmp op_eq (dv 4) d_str rd_eqS) (fun k => absurd k (by decide)) fun _ => s_one (s_if (t_cmp op_eq (dv 4) d_str rd_eqS) (fun k => absurd k (by decide)) fun _ => s_one (s_if (t_cmp op_eq (dv 4) d_str rd_eqS) (fun k => absurd k (by decide))
        fun _ => s_one (s_set 3 sc_applied.nd (d_op op_cat (d_sl sl_list (dv 3) (o_some (d_ix ix_tup (dv 1) d_int (rd_ixT (i := 1) rfl))) o_none rs_list) (d_sl sl_list (dv 3) o_none (o_some (d_ix ix_tup (dv 1) d_int (rd_ixT (i := 1) rfl))) rs_list) (rd_cat (by
            rw [cutD_from i rfl, cutD_to i rfl, List.length_drop, List.length_take, List.length_map]; omega))) (s_one (s_ret (dv 3) (by show _ = D.lst ((xs.drop i ++ xs.take i).map .str); rw [cutD_from i rfl, cutD_to i rfl, strs_app, List.map_drop, List.map_take]))))))))) ))
    exact ⟨_, body, fun G σ Q sm sl q => ⟨G, sm, sl, fun _ _ _ _ _ _ z => z.elim, fun d v G' H' n a e => q v G' H' n (by rw [← e]; exact a), fun _ _ _ _ _ _ z => z.elim, fun _ _ _ _ _ _ z => z.elim⟩⟩
  | ins i hw =>
    have hi : i ≤ 1000 := hok
    refine ⟨_, pss_cons (ps_par (i := 3) (j := 4) rfl sc_applied.nd rfl rfl (by decide) rfl rfl (pa_cons (pe_callTy call_list_of rfl (T.b _) (by decide +kernel) (a_cons (dv (C := C) 0 (γ := [some (.lst (xs.map .str)), some (Stp.ins i hw).d, some (.str it), Option.none, Option.none, Option.none])) a_nil) (by decide) (by decide) rfl rfl) (pa_cons (d_ix ix_tup (dv (C := C) 1 (γ := [some (.lst (xs.map .str)), some (Stp.ins i hw).d, some (.str it), Option.none, Option.none, Option.none])) d_int (rd_ixT (i := 0) rfl)) pa_nil)) rfl)
      (pss_cons (ps_if (t_cmp op_eq (dv (C := C) 4 (γ := [some (.lst (xs.map .str)), some (Stp.ins i hw).d, some (.str it), Option.none, some (.str "insert"), Option.none])) d_str rd_eqS) (pss_one (ps_expr (pe_bm PySem.F.plainAttrs_list PySem.F.slot_list_insert PySem.F.type_list_insert mt_insert (pe_var (i := 3) rfl (.inl rfl)) (pa_cons (d_ix ix_tup (dv (C := C) 1 (γ := [some (.lst (xs.map .str)), some (Stp.ins i hw).d, some (.str it), Option.none, some (.str "insert"), Option.none])) d_int (rd_ixT (i := 1) rfl)) (pa_cons (dv (C := C) 2 (γ := [some (.lst (xs.map .str)), some (Stp.ins i hw).d, some (.str it), Option.none, some (.str "insert"), Option.none])) pa_nil))))) (pss_one ps_never)) (pss_one (ps_ret (pe_var (i := 3) rfl (.inl rfl))))), ?_⟩
    intro G σ Q sm sl q
    refine ⟨G, sm, sl, fun vs G1 H1 n1 a1 => ?_⟩
    obtain ⟨v0, r0, rfl, h2, h3⟩ := a1.inv
    rw [h3.inv0]
    obtain ⟨p0, us, rfl, g0, r1⟩ := h2.lst'
    refine ⟨p0, us, rfl, .inl (SqL.of (n1.s _ _ g0)), fun l hl => ?_⟩
    have acc : Acc K C G H l (xs.map .str) G1 (upd H1 l (.lst us)) := ⟨n1.g, n1.h.trans (Same.new hl), n1.s.trans (Same.new hl), n1.n, n1.s.free hl, us, upd_same, r1⟩
    have hlH : H l = Option.none := n1.h.free hl
    refine ⟨G1, acc.s, sl.mono n1.g, fun v2 G2 H2 n2 a2 => ⟨.ref l, v2, rfl, ?_⟩⟩
    have acc2 := acc.step n2
    have sl2 := (((sl.mono n1.g).mono n2.g).setN (j := 3) (x := some (.ref l))).set (j := 4) a2
    have hsl : ((σ.set 3 (some (V.ref l))).set 4 (some v2))[3]? = some (some (V.ref l)) := own_slot sl (by show 3 < 6; decide) (by decide)
    refine ⟨G2, acc2.s, sl2, fun G3 H3 n3 => ?_⟩
    have acc3 := acc2.step n3
    refine iteT ?_
    obtain ⟨us3, hl3, r3⟩ := acc3.at_
    refine ⟨.ref l, hsl, .inl ⟨rfl, us3, SqL.of hl3⟩, G3, acc3.s, sl2.mono n3.g, fun v4 G4 H4 n4 a4 => ⟨G4, (acc3.step n4).s, (sl2.mono n3.g).mono n4.g, fun v5 G5 H5 n5 a5 => ?_⟩⟩
    have acc5 := (acc3.step n4).step n5
    obtain ⟨us5, hl5, r5⟩ := acc5.at_
    rw [a4.int', a5.str']
    have hlen5 := r5.len
    rw [List.length_map] at hlen5
    refine ⟨l, us5, i, .str it, rfl, rfl, hl5, ?_, by omega, by omega, ?_⟩
    · have : (1000 : Nat) < sizeLine := by decide
      omega
    · refine ⟨.ref l, hsl, ?_⟩
      have acc6 : Acc K C G H l ((apS xs (.ins i hw) it).map .str) G5 (upd H5 l (.lst (us5.take (i : Int).toNat ++ [V.str it] ++ us5.drop (i : Int).toNat))) := acc5.put hlH (by
        show AtL K C G5 ((xs.take i ++ [it] ++ xs.drop i).map .str) _
        rw [List.map_append, List.map_append, List.map_take, List.map_drop, Int.toNat_natCast]
        exact ((r5.take i).append (.cons (At.str it) .nil)).append (r5.drop i))
      obtain ⟨G6, n6, a6⟩ := acc6.done hlH
      exact q _ _ _ n6 a6
  | del i =>
    have hi : i < xs.length := hok
    refine ⟨_, pss_cons (ps_par (i := 3) (j := 4) rfl sc_applied.nd rfl rfl (by decide) rfl rfl (pa_cons (pe_callTy call_list_of rfl (T.b _) (by decide +kernel) (a_cons (dv (C := C) 0 (γ := [some (.lst (xs.map .str)), some (Stp.del i).d, some (.str it), Option.none, Option.none, Option.none])) a_nil) (by decide) (by decide) rfl rfl) (pa_cons (d_ix ix_tup (dv (C := C) 1 (γ := [some (.lst (xs.map .str)), some (Stp.del i).d, some (.str it), Option.none, Option.none, Option.none])) d_int (rd_ixT (i := 0) rfl)) pa_nil)) rfl)
      (pss_cons (ps_if (t_cmp op_eq (dv (C := C) 4 (γ := [some (.lst (xs.map .str)), some (Stp.del i).d, some (.str it), Option.none, some (.str "delete"), Option.none])) d_str rd_eqS) (pss_one ps_never) (pss_one (ps_if (t_cmp op_eq (dv (C := C) 4 (γ := [some (.lst (xs.map .str)), some (Stp.del i).d, some (.str it), Option.none, some (.str "delete"), Option.none])) d_str rd_eqS)
        (pss_one (ps_expr (pe_bm PySem.F.plainAttrs_list PySem.F.slot_list_pop PySem.F.type_list_pop mt_popAt (pe_var (i := 3) rfl (.inl rfl)) (pa_cons (d_ix ix_tup (dv (C := C) 1 (γ := [some (.lst (xs.map .str)), some (Stp.del i).d, some (.str it), Option.none, some (.str "delete"), Option.none])) d_int (rd_ixT (i := 1) rfl)) pa_nil)))) (pss_one ps_never)))) (pss_one (ps_ret (pe_var (i := 3) rfl (.inl rfl))))), ?_⟩
    intro G σ Q sm sl q
    refine ⟨G, sm, sl, fun vs G1 H1 n1 a1 => ?_⟩
    obtain ⟨v0, r0, rfl, h2, h3⟩ := a1.inv
    rw [h3.inv0]
    obtain ⟨p0, us, rfl, g0, r1⟩ := h2.lst'
    refine ⟨p0, us, rfl, .inl (SqL.of (n1.s _ _ g0)), fun l hl => ?_⟩
    have acc : Acc K C G H l (xs.map .str) G1 (upd H1 l (.lst us)) := ⟨n1.g, n1.h.trans (Same.new hl), n1.s.trans (Same.new hl), n1.n, n1.s.free hl, us, upd_same, r1⟩
    have hlH : H l = Option.none := n1.h.free hl
    refine ⟨G1, acc.s, sl.mono n1.g, fun v2 G2 H2 n2 a2 => ⟨.ref l, v2, rfl, ?_⟩⟩
    have acc2 := acc.step n2
    have sl2 := (((sl.mono n1.g).mono n2.g).setN (j := 3) (x := some (.ref l))).set (j := 4) a2
    have hsl : ((σ.set 3 (some (V.ref l))).set 4 (some v2))[3]? = some (some (V.ref l)) := own_slot sl (by show 3 < 6; decide) (by decide)
    refine ⟨G2, acc2.s, sl2, fun G3 H3 n3 => ?_⟩
    have acc3 := acc2.step n3
    refine iteF ?_
    refine ⟨G3, acc3.s, sl2.mono n3.g, fun G4 H4 n4 => iteT ?_⟩
    have acc4 := acc3.step n4
    obtain ⟨us4, hl4, r4⟩ := acc4.at_
    refine ⟨.ref l, hsl, .inl ⟨rfl, us4, SqL.of hl4⟩, G4, acc4.s, (sl2.mono n3.g).mono n4.g, fun v5 G5 H5 n5 a5 => ?_⟩
    have acc5 := acc4.step n5
    obtain ⟨us5, hl5, r5⟩ := acc5.at_
    rw [a5.int']
    have hlen5 := r5.len
    rw [List.length_map] at hlen5
    refine ⟨l, us5, i, i, us5[i]'(by omega), rfl, rfl, hl5, by omega, by omega, ?_, List.getElem?_eq_getElem _, ?_⟩
    · have e1 : (if (i : Int) < 0 then (i : Int) + (us5.length : Int) else (i : Int)) = (i : Int) := if_neg (by omega)
      unfold seqIndex?
      rw [e1]
      have e2 : (decide ((0 : Int) ≤ (i : Int)) && decide ((i : Int) < (us5.length : Int))) = true := by
        rw [Bool.and_eq_true, decide_eq_true_eq, decide_eq_true_eq]
        omega
      show (if (decide ((0 : Int) ≤ (i : Int)) && decide ((i : Int) < (us5.length : Int))) = true then some (i : Int).toNat else Option.none) = some i
      rw [if_pos e2, Int.toNat_natCast]
    · refine ⟨.ref l, hsl, ?_⟩
      have acc6 : Acc K C G H l ((apS xs (.del i) it).map .str) G5 (upd H5 l (.lst (us5.eraseIdx i))) := acc5.put hlH (by
        show AtL K C G5 ((xs.take i ++ xs.drop (i + 1)).map .str) _
        rw [List.map_append, List.map_take, List.map_drop, List.eraseIdx_eq_take_drop_succ]
        exact (r5.take i).append (r5.drop (i + 1)))
      obtain ⟨G6, n6, a6⟩ := acc6.done hlH
      exact q _ _ _ n6 a6
end
end Kp

namespace Kp
open PySem PySem.Spec PyProof.Rows L2
/-! ### list(text) -/
def rListS : List V → Hp → VK → Prop := fun xs H Q => ∃ t : Str, xs = [.str t] ∧ t.length ≤ 10000 ∧ ∀ l, H l = Option.none → Q (.ref l) (upd H l (.lst (t.cps.toList.map fun c => V.str ⟨#[c]⟩)))
theorem vals_get : ∀ {xs : List V} {us : List Value}, xs.length = us.length → (∀ (i : Nat) (x : V) (u : Value), xs[i]? = some x → us[i]? = some u → RelV x u) → Vals xs us
  | [], [], _, _ => .nil
  | [], _ :: _, h, _ => by simp at h
  | _ :: _, [], h, _ => by simp at h
  | x :: xs, u :: us, h, r => .cons (r 0 x u rfl rfl) (vals_get (by simpa using h) fun i y v h1 h2 => r (i + 1) y v (by simpa using h1) (by simpa using h2))
theorem cr_listS {X : Cx} (hc : X.calm = true) : CallR X (.type "list") rListS := by
  intro pins s σ H vs us Q I r h
  obtain ⟨x, e, hl, q⟩ := h
  subst e
  obtain ⟨u, rfl, rx⟩ := vals1 r
  obtain ⟨t, rfl⟩ := rx
  have hsz : x.cps.size ≤ sizeLine := Nat.le_trans hl (by decide)
  refine call_list_str (I.ok.hd hc) x t (hn := hsz) fun h' tk acc' c' hk hS hacc => ?_
  obtain ⟨ha, hb⟩ := hacc
  have rv : Vals (x.cps.toList.map fun c => V.str ⟨#[c]⟩) acc'.toList := vals_get (by simp [ha]) fun i y v h1 h2 => by
    rw [Array.getElem?_toList] at h2
    obtain ⟨c, u, hx, ev⟩ := hb i v h2
    rw [List.getElem?_map, Array.getElem?_toList, hx] at h1
    cases h1
    exact ⟨u, ev⟩
  have hlen : (x.cps.toList.map fun c => V.str ⟨#[c]⟩).length ≤ sizeLine := by simpa using hsz
  exact ⟨.ref s.heap.objs.size, _, I.laid (t' := tk) hk (Nat.le_refl _) (show ObjOk X.prog X.w _ h' _ (.lst _) from ⟨hlen, acc'.toList, c', rv, by rw [Array.toArray_toList]; exact hS⟩), rfl, q _ (I.hok.fresh (Nat.le_refl _))⟩
theorem rc_listS {K : PySem.W.Frag} {C : Addr} {t : Str} (hl : t.length ≤ 10000) : RCD K C rListS [.str t] (.lst (t.cps.toList.map fun c => .str ⟨#[c]⟩)) := fun G H vs s a Q k => by
  obtain ⟨v, r, rfl, h1, h2⟩ := a.inv
  rw [h2.inv0, h1.str']
  refine ⟨t, rfl, hl, fun l hn => k _ _ _ (Nx.new s hn) (At.lst upd_same ?_)⟩
  have z := AtL.of_strs (K := K) (C := C) (G := upd G l (.lst (t.cps.toList.map fun c => V.str ⟨#[c]⟩))) (ss := t.cps.toList.map fun c => (⟨#[c]⟩ : Str))
  rw [List.map_map, List.map_map] at z
  exact z
/-! ### dict displays with texts as keys -/
theorem putK_new {kvs : List (Key × V)} {k : Key} {v : V} (h : k ∉ kvs.map (·.1)) : putK kvs k v = kvs ++ [(k, v)] := by
  unfold putK
  rw [if_neg]
  intro z
  obtain ⟨p, hp, e⟩ := List.any_eq_true.mp z
  exact h (List.mem_map.mpr ⟨p, hp, of_decide_eq_true e⟩)
theorem mergeK_new : ∀ {more kvs : List (Key × V)}, (kvs.map (·.1) ++ more.map (·.1)).Nodup → mergeK kvs more = kvs ++ more
  | [], kvs, _ => by rw [List.append_nil]; rfl
  | p :: r, kvs, h => by
    have hp : p.1 ∉ kvs.map (·.1) := fun z => by
      rw [List.nodup_append] at h
      exact h.2.2 p.1 z p.1 (by simp) rfl
    show mergeK (putK kvs p.1 p.2) r = _
    rw [putK_new hp, mergeK_new (by simpa using h)]
    simp
def trsOf (K : PySem.W.Frag) (C : Addr) (γ : DSt) (kds : List (Str × D)) : List (TE × TE) := kds.map fun p => (cE K C γ (.str p.1), cE K C γ p.2)
section
variable {K : PySem.W.Frag} {C : Addr}
theorem pairs_read {γ : DSt} {σ : L2.St} : ∀ {kds : List (Str × D)} {G H : Hp} {Q : List (V × V) → Hp → Prop}, Same G H → Sl K C G σ γ →
    (∀ vs G' H', Nx G H G' H' → AtL K C G' (kds.map (·.2)) vs → Q ((kds.map fun p => V.str p.1).zip vs) H') → tPairs (trsOf K C γ kds) σ H Q
  | [], G, H, Q, s, sl, k => k [] G H (Nx.refl s) .nil
  | p :: r, G, H, Q, s, sl, k => ⟨G, s, sl, fun v G1 H1 n1 a1 => ⟨G1, n1.s, sl.mono n1.g, fun v2 G2 H2 n2 a2 => by
      refine pairs_read (kds := r) n2.s ((sl.mono n1.g).mono n2.g) fun vs G3 H3 n3 a3 => ?_
      have z := k (v2 :: vs) G3 H3 ((n1.trans n2).trans n3) (.cons (a2.mono n3.g) a3)
      rw [a1.str']
      exact z⟩⟩
theorem atK_of {G : Hp} : ∀ {kds : List (Str × D)} {vs : List V}, AtL K C G (kds.map (·.2)) vs → AtK K C G (kds.map fun p => ((.inr p.1 : Key), p.2)) ((kds.map fun p => (.inr p.1 : Key)).zip vs)
  | [], vs, h => by
    simp only [List.map_nil, List.zip_nil_left, AtK]
  | p :: r, vs, h => by
    obtain ⟨v, us, rfl, h1, h2⟩ := h.inv
    simp only [List.map_cons, List.zip_cons_cons, AtK]
    exact ⟨v, _, rfl, h1, atK_of h2⟩
def valD (kvs : List (Key × D)) (k : Key) : Option D := (kvs.find? fun kv => decide (kv.1 = k)).map (·.2)
theorem atK_val {G : Hp} : ∀ {kvs : List (Key × D)} {vs : List (Key × V)} {k : Key} {d : D}, AtK K C G kvs vs → valD kvs k = some d → ∃ v, valV vs k = some v ∧ At K C G d v
  | [], vs, k, d, h, e => by simp [valD] at e
  | (k0, d0) :: r, vs, k, d, h, e => by
    simp only [AtK] at h
    obtain ⟨v, us, rfl, h1, h2⟩ := h
    by_cases hk : k0 = k
    · simp [valD, List.find?_cons, hk] at e
      subst e
      exact ⟨v, valV_pos hk, h1⟩
    · obtain ⟨u, q1, q2⟩ := atK_val h2 (k := k) (d := d) (by simpa [valD, List.find?_cons, hk] using e)
      exact ⟨u, by rw [valV_neg hk]; exact q1, q2⟩
theorem At.dic' {G : Hp} {kvs : List (Key × D)} {v : V} (h : At K C G (.dic kvs) v) : ∃ a vs, v = .ref a ∧ G a = some (.dK vs) ∧ AtK K C G kvs vs := by simp only [At] at h; exact h
theorem At.dic {G : Hp} {kvs : List (Key × D)} {a : Addr} {vs : List (Key × V)} (h : G a = some (.dK vs)) (r : AtK K C G kvs vs) : At K C G (.dic kvs) (.ref a) := by
  simp only [At]
  exact ⟨a, vs, rfl, h, r⟩
end
section
variable {C : Addr} {X : Cx} {a b : Expr} {γ : DSt} {d : D} {pos p : Pos}
def dicD (kds : List (Str × D)) : D := .dic (kds.map fun p => ((.inr p.1 : Key), p.2))
theorem d_disp {keys : List (Option Expr)} {values : List Expr} (kds : List (Str × D)) (h : PPs X pos keys values (trsOf X.K C γ kds)) (nd : (kds.map (·.1)).Nodup := by decide +kernel) (h15 : kds.length ≤ 15 := by decide) (hall : keys.all (·.isSome) = true := by rfl) (hl : keys.length = values.length := by rfl) (h0 : keys ≠ [] := by simp)
    (hk15 : keys.length ≤ 15 := by decide) : PD C X (.Dict keys values pos) γ (dicD kds) :=
  PE.weak (pe_disp h hall hl h0 hk15) fun σ H Q ⟨G, s, sl, q⟩ p hp => pairs_read (G := G) (s.trans (Same.new hp)) sl fun vs G1 H1 n1 a1 => by
    have hGp : G1 p = Option.none := n1.n p (s.free hp) (by rw [upd_same]; intro z; cases z)
    have hlv := a1.len
    rw [List.length_map] at hlv
    have ez : ((kds.map fun p => V.str p.1).zip vs) = ((kds.map fun p => (.inr p.1 : Key)).zip vs).map fun kv => (kV kv.1, kv.2) := by
      rw [List.zip_map_left, List.zip_map_left, List.map_map]
      rfl
    have nd2 : ((([] : List (Key × V)).map (·.1)) ++ ((kds.map fun p => (.inr p.1 : Key)).zip vs).map (·.1)).Nodup := by
      rw [List.map_nil, List.nil_append, List.map_fst_zip (by rw [List.length_map, hlv]; exact Nat.le_refl _)]
      exact List.pairwise_map.mpr ((List.pairwise_map.mp nd).imp fun hxy e => hxy (Sum.inr.inj e))
    refine ⟨n1.h _ _ upd_same, (kds.map fun p => (.inr p.1 : Key)).zip vs, ez, ?_, ?_⟩
    · rw [List.length_zip, List.length_map]
      omega
    · rw [mergeK_new nd2, List.nil_append]
      refine q _ (upd G1 p (.dK _)) _ ⟨n1.g.trans (Same.new hGp), fun b u e => ?_, fun b u e => ?_, fun b h1 h2 => ?_⟩ (At.dic upd_same (AtK.mono (Same.new hGp) (atK_of a1)))
      · have hb : b ≠ p := ne_of_none e hp
        rw [upd_ne hb]
        exact n1.h b u (by rw [upd_ne hb]; exact e)
      · by_cases hb : b = p
        · subst hb
          rw [upd_same] at e ⊢
          exact e
        · rw [upd_ne hb] at e ⊢
          exact n1.s b u e
      · have hb : b ≠ p := fun z => h2 (by rw [z]; exact hp)
        rw [upd_ne hb]
        exact n1.n b h1 (by rw [upd_ne hb]; exact h2)
theorem d_dget {kvs : List (Key × D)} {k : Str} (hu : X.A.units + 1 < cLine) (ha : PD C X a γ (.dic kvs)) (hb : PD C X b γ (.str k)) (hk : valD kvs (.inr k) = some d) (hs : NoSl b := by exact fun _ _ => rfl) : PD C X (.Subscript a b pos) γ d :=
  PE.weak (pe_dget hu ha hb hs) fun σ H Q ⟨G, s, sl, q⟩ => ⟨G, s, sl, fun v G1 H1 n1 a1 => ⟨G1, n1.s, sl.mono n1.g, fun u G2 H2 n2 a2 => by
    obtain ⟨p, vs, rfl, g, r⟩ := a1.dic'
    obtain ⟨w, h1, h2⟩ := atK_val r hk
    refine ⟨p, w, rfl, ?_, q w G2 H2 (n1.trans n2) (h2.mono n2.g)⟩
    rw [← h1, a2.str']
    exact DGet.k (k := .inr k) (n2.s _ _ (n2.g _ _ g))⟩⟩
end
/-! ### joined letters -/
theorem join_letters : ∀ u : List Bool, Str.join "" (u.map fun b => sW [b]) = sW u
  | [] => by decide
  | [b] => rfl
  | b :: c :: u => by
    show sW [b] ++ "" ++ Str.join "" ((c :: u).map fun b => sW [b]) = sW (b :: c :: u)
    rw [join_letters (c :: u), sW_none, sW_app, sW_app]
    rfl
theorem txt_letters (u : List Bool) : Txt.join "" (u.map fun b => sW [b]) = sW u := by
  rw [TL.join_eq, join_letters]
/-! ### led -/
theorem zip_range (u : List Bool) : u.zipIdx = (List.range u.length).map fun i => (u.getD i false, i) := by
  apply List.ext_getElem?
  intro i
  rw [List.getElem?_zipIdx, List.getElem?_map]
  by_cases h : i < u.length
  · rw [List.getElem?_range h, List.getElem?_eq_getElem h]
    simp [List.getD, List.getElem?_eq_getElem h]
  · rw [List.getElem?_eq_none (by omega), List.getElem?_eq_none (by rw [List.length_range]; omega)]
    rfl
theorem next_zip (u : List Bool) : (u.zipIdx.filter fun p => p.1).map (fun p => u.take p.2 ++ [false] ++ u.drop (p.2 + 1)) = nextM u := by
  unfold nextM
  rw [zip_range, List.filter_map, List.map_map]
  rfl
def okL (n : Nat) : Stp → Prop
  | .next => True
  | .ins i _ => i ≤ n
  | .del i => i < n
  | .rev => True
  | .turn i => i ≤ n
abbrev FdLed : List D → D → Prop := fun ds d => ∃ (u : List Bool) (st : Stp), ds = [.str (sW u), st.d] ∧ u.length ≤ 20 ∧ okL u.length st ∧ d = .lst (((isB (ledM u st)).map sW).map .str)
theorem ed_letters (u : List Bool) : enD (sgD (sW u)) = u.zipIdx.map fun p => .tup [.int (p.2 : Int), .str ⟨#[cB p.1]⟩] := by
  unfold enD sgD
  rw [sW_cps, List.map_map, List.zipIdx_map, List.map_map]
  rfl
theorem one_lit {b : Bool} : decide ((⟨#[cB b]⟩ : Str) = "1") = b := by cases b <;> decide
theorem cut3 (u : List Bool) (i : Nat) {a b : Int} (ha : a = i) (hb : b = (i + 1 : Nat)) : cutS (sW u) Option.none (some a) ++ "0" ++ cutS (sW u) (some b) Option.none = sW (u.take i ++ [false] ++ u.drop (i + 1)) := by
  rw [sW_to u i ha, sW_from u (i + 1) hb, str0, sW_app, sW_app]
theorem cut_len {t : Str} {lo hi : Option Int} (h : t.length ≤ 1000) : (cutS t lo hi).length ≤ 1000 := by
  have e : t.cps.toList.length = t.length := sgD_len
  unfold cutS
  show (List.toArray _).size ≤ 1000
  rw [List.size_toArray, List.length_take, List.length_drop]
  omega
section
variable {P : Program} {w : World} {K : PySem.W.Frag} {mg : Str → Option Value} {base : Heap} {C : Addr}
theorem room1 {k : Nat} {A : Around} (hr : Room k A) : A.units + 1 < cLine := by
  have := hr.un
  omega
theorem let_d (u : List Bool) : D.lst ((sW u).cps.toList.map fun c => D.str ⟨#[c]⟩) = .lst ((u.map fun b => sW [b]).map .str) := by
  rw [sW_cps, List.map_map, List.map_map]
  rfl
theorem led_tail {f : Addr} {cdv : Value} {A : Around} {outer : List Env} {s : Shared} {H : Hp} {E : XK} (T : Tp K mg) (F1 : Df P w K mg base C 1 "applied" FdApplied) (hr : Room 1 (A.deeper (envOfC "led" (defScope s_led) s.heap.objs.size f cdv))) (u : List Bool) (st : Stp) (letters : List Str) (hl : u.length ≤ 20)
    (hok : okStp (u.map fun b => sW [b]).length st) (hle : letters.length ≤ 2) (hres : letters.map (fun t => Txt.join "" (apS (u.map fun b => sW [b]) st t)) = (ledM u st).map sW) (hnd : (ledM u st).Nodup) (hsz : ∀ t ∈ letters, ((apS (u.map fun b => sW [b]) st t).map (·.length)).sum ≤ 1000) {e : Expr} {pos : Pos}
    (he : (defBody s_led).getD 3 (.Pass ⟨0, 0, 0, 0⟩) = .Return (some e) pos) :
    PD C (cxOf CX0 P w K mg base n_led "led" (defScope s_led) f cdv A outer s H E).nox e [some (.str (sW u)), some st.d, Option.none, Option.none, some (.lst (letters.map .str))] (.lst (((isB (ledM u st)).map sW).map .str)) := by
  cases he
  refine d_sortSc [("letter", 3)] letters D.str (fun t => [some (.str (sW u)), some st.d, Option.none, some (.str t), some (.lst (letters.map .str))]) (fun _ => true) (fun t => Txt.join "" (apS (u.map fun b => sW [b]) st t)) rfl sc_led.nd (T.b _) (i_list (dv 4)) (blkOk_by (N := n_led) (sc := defScope s_led) (by decide +kernel)) (fun s H Ca cl fp => g_name 3 sc_led.nd) (fun d _ => rfl) (fun d _ s H Ca cl fp => ts_nil)
    (fun t ht _ s H Ca cl fp => d_join d_str (d_call F1 hr (a_cons (PD.of (d_callTy (cr_listS rfl) (T.b _) (a_cons (dv 0) a_nil) (rc_listS ?_)) (let_d u)) (a_cons (dv 1) (a_cons (dv 3) a_nil))) ⟨_, st, t, rfl, ?_, hok, rfl⟩) ?_ rfl) (by omega) ?_ ?_
  · rw [sW_len]
    omega
  · rw [List.length_map]
    omega
  · have := hsz t ht
    have e0 : ("" : Str).length = 0 := rfl
    rw [e0, Nat.mul_zero]
    omega
  · rw [filter_tt, hres]
    exact List.pairwise_map.mpr (hnd.imp fun h e => h (sW_inj e))
  · intro zs h1 h2
    rw [filter_tt, hres] at h1
    exact sorted_words h1 h2
theorem ls_sum (v : List Bool) : ((v.map fun b => sW [b]).map (·.length)).sum = v.length := by
  induction v with
  | nil => rfl
  | cons b v ih =>
    rw [List.map_cons, List.map_cons, List.sum_cons, ih, sW_len, List.length_cons, List.length_cons]
    simp
    omega
theorem ap_ins (u : List Bool) (i : Nat) (h : How) (b : Bool) : apS (u.map fun b => sW [b]) (.ins i h) (sW [b]) = (u.take i ++ [b] ++ u.drop i).map fun b => sW [b] := by
  show (u.map fun b => sW [b]).take i ++ [sW [b]] ++ (u.map fun b => sW [b]).drop i = _
  simp [List.map_append, List.map_take, List.map_drop]
theorem ins_apart {u : List Bool} {i : Nat} (hi : i ≤ u.length) (h : How) : (ledM u (.ins i h)).Nodup := by
  have e : u.take i ++ [false] ++ u.drop i ≠ u.take i ++ [true] ++ u.drop i := fun z => by
    rw [List.append_assoc, List.append_assoc] at z
    have := List.append_cancel_left z
    cases this
  cases h
  · show [_, _].Nodup
    simpa using e
  · exact List.pairwise_singleton _ _
  · exact List.pairwise_singleton _ _
theorem df_led (T : Tp K mg) (F1 : Df P w K mg base C 1 "applied" FdApplied) (h : Has K mg "led" s_led ["word", "step"]) : Df P w K mg base C 2 "led" FdLed := by
  refine df_mk h sc_led (fun ds d ⟨u, st, e, _⟩ => by rw [e] <;> rfl) fun f cdv A outer s H E ds d hr ⟨u, st, e, hl, hok, ed⟩ => ?_
  subst e ed
  cases st with
  | next =>
    refine s_cons (s_if (t_cmp op_eq (d_ix ix_tup (dv 1) d_int (rd_ixT (i := 0) rfl)) d_str rd_eqS) (fun _ => s_one (s_ret (d_callB cr_sortedS (T.b _) (a_cons (PD.of (d_lc [("at", 2), ("letter", 3)] u.zipIdx (fun p => .tup [.int (p.2 : Int), .str ⟨#[cB p.1]⟩]) (fun p => [some (.str (sW u)), some Stp.next.d, some (.int (p.2 : Int)), some (.str ⟨#[cB p.1]⟩), Option.none]) (fun p => p.1) (fun p => .str (sW (u.take p.2 ++ [false] ++ u.drop (p.2 + 1)))) rfl sc_led.nd
      (PID.of (i_enumS (T.b _) (a_cons (dv 0) a_nil)) (ed_letters u)) (blkOk_by (N := n_led) (sc := defScope s_led) (by decide +kernel)) (fun s H Ca cl fp => g_pair 2 3 rfl sc_led.nd) (fun p hp => rfl)
      (fun p hp s H Ca cl fp => ts_one (PTD.of (t_cmp op_eq (dv 3) d_str rd_eqS) one_lit)) (fun p hp _ s H Ca cl fp => PD.of (d_op op_add_str (d_op op_add_str (d_sl sl_str (dv 0) o_none (o_some (dv 2)) (rs_str ?_)) d_str (rd_addS ?_)) (d_sl sl_str (dv 0) (o_some (d_op op_add (dv 2) d_int rd_add)) o_none (rs_str ?_)) (rd_addS ?_)) ?_) ?_)
      ?_) a_nil) (rc_sortedS (xs := (ledM u .next).map sW) ?_ fun zs h1 h2 => sorted_words h1 h2)) rfl)) fun k => absurd k (by decide))
    · rw [sW_len]
      omega
    · have := cut_len (t := sW u) (lo := Option.none) (hi := some (p.2 : Int)) (by rw [sW_len]; omega)
      rw [str0, sW_len]
      simp
      omega
    · rw [sW_len]
      omega
    · have h1 := cut_len (t := sW u) (lo := Option.none) (hi := some (p.2 : Int)) (by rw [sW_len]; omega)
      have h2 := cut_len (t := sW u) (lo := some ((p.2 : Int) + 1)) (hi := Option.none) (by rw [sW_len]; omega)
      have h3 : (cutS (sW u) Option.none (some (p.2 : Int)) ++ "0").length = (cutS (sW u) Option.none (some (p.2 : Int))).length + 1 := by
        show (_ ++ _ : Array Nat).size = _
        rw [Array.size_append]
        rfl
      omega
    · exact congrArg D.str (cut3 u p.2 rfl (by omega))
    · rw [List.length_zipIdx]
      omega
    · show _ = D.lst (((nextM u).map sW).map .str)
      rw [← next_zip, List.map_map, List.map_map]
      rfl
    · show ((nextM u).map sW).length < 64
      unfold nextM
      rw [List.length_map, List.length_map]
      have := List.length_filter_le (fun i => u.getD i false) (List.range u.length)
      rw [List.length_range] at this
      omega
  | ins i hw =>
    have hi : i ≤ u.length := hok
    refine s_cons (s_if (t_cmp op_eq (d_ix ix_tup (dv 1) d_int (rd_ixT (i := 0) rfl)) d_str rd_eqS) (fun k => absurd k (by decide)) fun _ => s_nil (s_cons (s_set 4 sc_led.nd (d_lst (a_cons d_str a_nil) (by decide)) (s_cons (s_if (t_cmp op_eq (d_ix ix_tup (dv 1) d_int (rd_ixT (i := 0) rfl)) d_str rd_eqS)
      (fun _ => s_one (s_set 4 sc_led.nd (d_dget (kvs := [((.inr "free" : Key), .lst [.str "0", .str "1"]), ((.inr "must" : Key), .lst [.str "1"]), ((.inr "not" : Key), .lst [.str "0"])]) (d := .lst ((hw.ls.map fun b => sW [b]).map .str)) (room1 hr) (d_disp [("free", .lst [.str "0", .str "1"]), ("must", .lst [.str "1"]), ("not", .lst [.str "0"])] (pps_cons d_str (d_lst (a_cons d_str (a_cons d_str a_nil)) (by decide)) (pps_cons d_str (d_lst (a_cons d_str a_nil) (by decide)) (pps_cons d_str (d_lst (a_cons d_str a_nil) (by decide)) pps_nil))))
        (d_ix ix_tup (dv 1) d_int (rd_ixT (i := 2) rfl)) (by cases hw <;> rfl)) (s_one (s_ret (led_tail T F1 hr u (.ins i hw) (hw.ls.map fun b => sW [b]) hl ?_ ?_ ?_ ?_ ?_ rfl) rfl)))) fun k => absurd k (by decide))))))
    · show i ≤ 1000
      omega
    · cases hw <;> decide
    · show _ = (hw.ls.map fun b => u.take i ++ [b] ++ u.drop i).map sW
      rw [List.map_map, List.map_map]
      refine List.map_congr_left fun b _ => ?_
      show Txt.join "" (apS (u.map fun b => sW [b]) (.ins i hw) (sW [b])) = sW (u.take i ++ [b] ++ u.drop i)
      rw [ap_ins, txt_letters]
    · exact ins_apart hi hw
    · intro t ht
      obtain ⟨b, _, rfl⟩ := List.mem_map.mp ht
      rw [ap_ins, ls_sum]
      simp
      omega
  | del i =>
    have hi : i < u.length := hok
    have e1 : apS (u.map fun b => sW [b]) (.del i) "" = (u.take i ++ u.drop (i + 1)).map fun b => sW [b] := by
      show (u.map fun b => sW [b]).take i ++ (u.map fun b => sW [b]).drop (i + 1) = _
      simp [List.map_append, List.map_take, List.map_drop]
    refine s_cons (s_if (t_cmp op_eq (d_ix ix_tup (dv 1) d_int (rd_ixT (i := 0) rfl)) d_str rd_eqS) (fun k => absurd k (by decide)) fun _ => s_nil (s_cons (s_set 4 sc_led.nd (d_lst (a_cons d_str a_nil) (by decide)) (s_cons (s_if (t_cmp op_eq (d_ix ix_tup (dv 1) d_int (rd_ixT (i := 0) rfl)) d_str rd_eqS)
      (fun k => absurd k (by decide)) fun _ => s_nil (s_one (s_ret (led_tail T F1 hr u (.del i) [""] hl ?_ (by decide) ?_ ?_ ?_ rfl) rfl)))))))
    · show i < (u.map fun b => sW [b]).length
      rw [List.length_map]
      exact hi
    · show [Txt.join "" (apS (u.map fun b => sW [b]) _ "")] = [_]
      rw [e1, txt_letters]
    · exact List.pairwise_singleton _ _
    · intro t ht
      rw [List.mem_singleton.mp ht, e1, ls_sum]
      simp
      omega
  | rev =>
    have e1 : apS (u.map fun b => sW [b]) .rev "" = u.reverse.map fun b => sW [b] := by
      show (u.map fun b => sW [b]).reverse = _
      rw [List.map_reverse]
    refine s_cons (s_if (t_cmp op_eq (d_ix ix_tup (dv 1) d_int (rd_ixT (i := 0) rfl)) d_str rd_eqS) (fun k => absurd k (by decide)) fun _ => s_nil (s_cons (s_set 4 sc_led.nd (d_lst (a_cons d_str a_nil) (by decide)) (s_cons (s_if (t_cmp op_eq (d_ix ix_tup (dv 1) d_int (rd_ixT (i := 0) rfl)) d_str rd_eqS)
      (fun k => absurd k (by decide)) fun _ => s_nil (s_one (s_ret (led_tail T F1 hr u .rev [""] hl trivial (by decide) ?_ ?_ ?_ rfl) rfl)))))))
    · show [Txt.join "" (apS (u.map fun b => sW [b]) _ "")] = [_]
      rw [e1, txt_letters]
    · exact List.pairwise_singleton _ _
    · intro t ht
      rw [List.mem_singleton.mp ht, e1, ls_sum]
      simp
      omega
  | turn i =>
    have hi : i ≤ u.length := hok
    have e1 : apS (u.map fun b => sW [b]) (.turn i) "" = (u.drop i ++ u.take i).map fun b => sW [b] := by
      show (u.map fun b => sW [b]).drop i ++ (u.map fun b => sW [b]).take i = _
      simp [List.map_append, List.map_take, List.map_drop]
    refine s_cons (s_if (t_cmp op_eq (d_ix ix_tup (dv 1) d_int (rd_ixT (i := 0) rfl)) d_str rd_eqS) (fun k => absurd k (by decide)) fun _ => s_nil (s_cons (s_set 4 sc_led.nd (d_lst (a_cons d_str a_nil) (by decide)) (s_cons (s_if (t_cmp op_eq (d_ix ix_tup (dv 1) d_int (rd_ixT (i := 0) rfl)) d_str rd_eqS)
      (fun k => absurd k (by decide)) fun _ => s_nil (s_one (s_ret (led_tail T F1 hr u (.turn i) [""] hl ?_ (by decide) ?_ ?_ ?_ rfl) rfl)))))))
    · show i ≤ 1000
      omega
    · show [Txt.join "" (apS (u.map fun b => sW [b]) _ "")] = [_]
      rw [e1, txt_letters]
    · exact List.pairwise_singleton _ _
    · intro t ht
      rw [List.mem_singleton.mp ht, e1, ls_sum]
      simp
      omega
end
end Kp

namespace Kp
open PySem PySem.Spec PyProof.Rows L2
theorem nextM_len {u v : List Bool} (h : v ∈ nextM u) : v.length ≤ u.length + u.length + 1 := by
  unfold nextM at h
  obtain ⟨i, _, rfl⟩ := List.mem_map.mp h
  simp only [List.length_append, List.length_take, List.length_drop, List.length_singleton]
  omega
theorem ledM_len {u v : List Bool} {st : Stp} (h : v ∈ ledM u st) : v.length ≤ u.length + u.length + 1 := by
  cases st with
  | next => exact nextM_len h
  | ins i hw =>
    obtain ⟨b, _, rfl⟩ := List.mem_map.mp h
    simp only [List.length_append, List.length_take, List.length_drop, List.length_singleton]
    omega
  | del i =>
    rw [List.mem_singleton.mp h]
    simp only [List.length_append, List.length_take, List.length_drop]
    omega
  | rev =>
    rw [List.mem_singleton.mp h]
    simp only [List.length_reverse]
    omega
  | turn i =>
    rw [List.mem_singleton.mp h]
    simp only [List.length_append, List.length_take, List.length_drop]
    omega
section
variable {P : Program} {w : World} {K : PySem.W.Frag} {mg : Str → Option Value} {base : Heap} {C : Addr}
abbrev FdLeads : List D → D → Prop := fun ds d => ∃ (F : Fm) (u : List Bool) (st : Stp), ds = [.lang F.lg, .str (sW u), st.d] ∧ u.length ≤ 20 ∧ okL u.length st ∧ d = .bl (!(ledM u st).any (letsB F))
theorem ledM_sz (u : List Bool) (st : Stp) : (ledM u st).length ≤ u.length + 2 := by
  cases st with
  | next =>
    show (nextM u).length ≤ _
    unfold nextM
    rw [List.length_map]
    have := List.length_filter_le (fun i => u.getD i false) (List.range u.length)
    rw [List.length_range] at this
    omega
  | ins i hw =>
    show (hw.ls.map _).length ≤ _
    rw [List.length_map]
    have : hw.ls.length ≤ 2 := by cases hw <;> decide
    omega
  | del i => simp [ledM]
  | rev => simp [ledM]
  | turn i => simp [ledM]
theorem df_leads_out (T : Tp K mg) (lc : LC K C) (F1 : Df P w K mg base C 2 "led" FdLed) (F2 : DfM P w K mg base C 2 "lets" FdLets) (h : Has K mg "leads_out" s_leads_out ["language", "word", "step"]) : Df P w K mg base C 3 "leads_out" FdLeads := by
  refine df_mk h sc_leads_out (fun ds d ⟨F, u, st, e, _⟩ => by rw [e] <;> rfl) fun f cdv A outer s H E ds d hr ⟨F, u, st, e, hl, hok, ed⟩ => ?_
  subst e ed
  refine s_one (s_ret (PD.of (d_not (d_callB (cr_any rfl) (T.b _) (a_cons (d_lc0 "later" 3 (isB (ledM u st)) (fun v => .str (sW v)) (fun v => .bl (letsB F v)) rfl sc_leads_out.nd (PID.of (i_list (d_call F1 hr (a_cons (dv 1) (a_cons (dv 2) a_nil)) ⟨u, st, rfl, hl, hok, rfl⟩)) (by rw [List.map_map]; rfl)) (blkOk_by (N := n_leads_out) (sc := defScope s_leads_out) (by decide +kernel))
    (fun v hv s H Ca cl fp => d_meth lc F2 hr (dv 0) (a_cons (dv 3) a_nil) ⟨F, v, rfl, ?_, rfl⟩) ?_) a_nil) rc_any')) ?_) rfl)
  · have := ledM_len ((isB_perm (ledM u st)).mem_iff.mp hv)
    omega
  · rw [(isB_perm (ledM u st)).length_eq]
    have := ledM_sz u st
    omega
  · congr 2
    exact (isB_perm (ledM u st)).any_eq
/-! ### steps_of -/
def Kd.how : Kd → Option How
  | .ff => some .free | .fm => some .must | .fn => some .no | .bf => some .free | .bm => some .must | .bn => some .no | .af => some .free | .am => some .must | .an => some .no | _ => Option.none
def Kd.en : Kd → Str
  | .ff => "front" | .fm => "front" | .fn => "front" | .bf => "back" | .bm => "back" | .bn => "back" | _ => "any"
def placesM (k : Kd) (n : Nat) : List Nat := match k with
  | .ff => [0] | .fm => [0] | .fn => [0] | .bf => [n] | .bm => [n] | .bn => [n] | _ => List.range (n + 1)
abbrev FdPlaces : List D → D → Prop := fun ds d => ∃ (k : Kd) (h : How) (n : Nat), ds = [.str k.s, .int n] ∧ k.how = some h ∧ n ≤ 1000 ∧ d = .lst ((placesM k n).map fun (i : Nat) => .int (i : Int))
theorem df_places_of (T : Tp K mg) (h : Has K mg "places_of" s_places_of ["kind", "size"]) : Df P w K mg base C 1 "places_of" FdPlaces := by
  refine df_mk h sc_places_of (fun ds d ⟨k, hw, n, e, _⟩ => by rw [e] <;> rfl) fun f cdv A outer s H E ds d hr ⟨k, hw, n, e, hk, hn, ed⟩ => ?_
  subst e ed
  refine s_cons (s_if (t_cmp op_eq (d_sl sl_str (dv 0) o_none (o_some d_int) (rs_str (by cases k <;> decide))) d_str rd_eqS) (fun c => s_one (s_ret (PD.of (d_listRg rfl (T.b _) (T.b _) (d_op op_add (dv 1) d_int rd_add) (by omega) (by omega)) ?_) rfl)) fun c => s_nil (s_one (s_ret (d_if (t_cmp op_eq (d_sl sl_str (dv 0) o_none (o_some d_int) (rs_str (by cases k <;> decide))) d_str rd_eqS) (fun c2 => PD.of (d_lst (a_cons d_int a_nil) (by decide)) ?_) fun c2 => PD.of (d_lst (a_cons (dv 1) a_nil) (by show 1 ≤ 1000; decide)) ?_) rfl)))
  · rw [rg0, show ((n : Int) + 1).toNat = n + 1 from by omega]
    cases k <;> first | (exact absurd c (by decide)) | rfl | cases hk
  · cases k <;> first | (exact absurd c (by decide)) | (exact absurd c2 (by decide)) | rfl | cases hk
  · cases k <;> first | (exact absurd c (by decide)) | (exact absurd c2 (by decide)) | rfl | cases hk
abbrev FdSteps : List D → D → Prop := fun ds d => ∃ (k : Kd) (n : Nat), ds = [.str k.s, .int n] ∧ k ≠ .swap ∧ k ≠ .move ∧ n ≤ 90 ∧ d = .lst ((stepsM k n).map Stp.d)
theorem steps_ins {k : Kd} {h : How} (e : k.how = some h) (n : Nat) : stepsM k n = (placesM k n).map fun i => .ins i h := by
  cases k <;> cases e <;> rfl
theorem placesM_len (k : Kd) (n : Nat) : (placesM k n).length ≤ n + 1 := by
  cases k <;> simp [placesM]
theorem df_steps_of (T : Tp K mg) (F1 : Df P w K mg base C 1 "places_of" FdPlaces) (h : Has K mg "steps_of" s_steps_of ["kind", "size"]) : Df P w K mg base C 2 "steps_of" FdSteps := by
  refine df_mk h sc_steps_of (fun ds d ⟨k, n, e, _⟩ => by rw [e] <;> rfl) fun f cdv A outer s H E ds d hr ⟨k, n, e, h1, h2, hn, ed⟩ => ?_
  subst e ed
  by_cases e1 : k = .del
  · subst e1
    refine s_cons (s_if (t_cmp op_eq (dv 0) d_str rd_eqS) (fun _ => s_one (s_ret (PD.of (d_lc0 "place" 2 (List.range n) (fun (i : Nat) => .int (i : Int)) (fun i => (Stp.del i).d) rfl sc_steps_of.nd (PID.of (i_range1 (T.b _) (a_cons (dv 1) a_nil) (by omega) (by omega)) (by rw [rg0]; rfl)) (blkOk_by (N := n_steps_of) (sc := defScope s_steps_of) (by decide +kernel))
      (fun i hi s H Ca cl fp => d_tup (a_cons d_str (a_cons (dv 2) a_nil)) (by show 2 ≤ 1000; decide)) ?_) ?_) rfl)) fun c => absurd c (by decide))
    · rw [List.length_range]
      omega
    · show _ = D.lst (((List.range n).map Stp.del).map Stp.d)
      rw [List.map_map]
      rfl
  by_cases e2 : k = .rev
  · subst e2
    exact s_cons (s_if (t_cmp op_eq (dv 0) d_str rd_eqS) (fun c => absurd c (by decide)) fun _ => s_nil (s_cons (s_if (t_cmp op_eq (dv 0) d_str rd_eqS) (fun _ => s_one (s_ret (d_lst (a_cons (d_tup (a_cons d_str a_nil) (by show 1 ≤ 1000; decide)) a_nil) (by show 1 ≤ 1000; decide)) rfl)) fun c => absurd c (by decide))))
  by_cases e3 : k = .turn
  · subst e3
    refine s_cons (s_if (t_cmp op_eq (dv 0) d_str rd_eqS) (fun c => absurd c (by decide)) fun _ => s_nil (s_cons (s_if (t_cmp op_eq (dv 0) d_str rd_eqS) (fun c => absurd c (by decide)) fun _ => s_nil (s_cons (s_if (t_cmp op_eq (dv 0) d_str rd_eqS) (fun _ => s_one (s_ret (PD.of (d_lc0 "many" 3 (List.range (n + 1)) (fun (i : Nat) => .int (i : Int)) (fun i => (Stp.turn i).d) rfl sc_steps_of.nd (PID.of (i_range1 (T.b _) (a_cons (d_op op_add (dv 1) d_int rd_add) a_nil) (by omega) (by omega)) ?_) (blkOk_by (N := n_steps_of) (sc := defScope s_steps_of) (by decide +kernel))
      (fun i hi s H Ca cl fp => d_tup (a_cons d_str (a_cons (dv 3) a_nil)) (by show 2 ≤ 1000; decide)) ?_) ?_) rfl)) fun c => absurd c (by decide))))))
    · rw [rg0, show ((n : Int) + 1).toNat = n + 1 from by omega]
    · rw [List.length_range]
      omega
    · show _ = D.lst (((List.range (n + 1)).map Stp.turn).map Stp.d)
      rw [List.map_map]
      rfl
  obtain ⟨hw, hk⟩ : ∃ hw, k.how = some hw := by
    cases k <;> first | (exact ⟨_, rfl⟩) | (exact absurd rfl e1) | (exact absurd rfl e2) | (exact absurd rfl e3) | (exact absurd rfl h1) | (exact absurd rfl h2)
  refine s_cons (s_if (t_cmp op_eq (dv 0) d_str rd_eqS) (fun c => ?_) fun _ => s_nil (s_cons (s_if (t_cmp op_eq (dv 0) d_str rd_eqS) (fun c => ?_) fun _ => s_nil (s_cons (s_if (t_cmp op_eq (dv 0) d_str rd_eqS) (fun c => ?_) fun _ => s_nil (s_cons (s_if (t_cmp op_in_seq (dv 0) (d_tup (a_cons d_str (a_cons d_str a_nil)) (by show 2 ≤ 1000; decide)) (rd_in false rfl (by decide +kernel) (.inr rfl))) (fun c => ?_) fun _ => s_nil
    (s_one (s_ret (PD.of (d_lc0 "place" 2 (placesM k n) (fun (i : Nat) => .int (i : Int)) (fun i => (Stp.ins i hw).d) rfl sc_steps_of.nd (i_list (d_call F1 hr (a_cons (dv 0) (a_cons (dv 1) a_nil)) ⟨k, hw, n, rfl, hk, by omega, rfl⟩)) (blkOk_by (N := n_steps_of) (sc := defScope s_steps_of) (by decide +kernel))
      (fun i hi s H Ca cl fp => d_tup (a_cons d_str (a_cons (dv 2) (a_cons (d_ix ix_list (d_split (zs := [k.en, hw.s]) (dv 0) d_str (by decide) (by cases k <;> decide) ?_) d_int (rd_ixL (i := 1) rfl)) a_nil))) (by show 3 ≤ 1000; decide)) ?_) ?_) rfl)))))))))
  · exact absurd c (by cases k <;> first | decide | exact absurd rfl e1)
  · exact absurd c (by cases k <;> first | decide | exact absurd rfl e2)
  · exact absurd c (by cases k <;> first | decide | exact absurd rfl e3)
  · exact absurd c (by cases k <;> first | decide +kernel | (exact absurd rfl h1) | exact absurd rfl h2)
  · cases k <;> cases hk <;> decide +kernel
  · have := placesM_len k n
    omega
  · rw [steps_ins hk, List.map_map]
    rfl
end
end Kp

namespace Kp
open PySem PySem.Spec PyProof.Rows L2
def kD (tp : Bool) (xs : List D) : D := if tp then .tup xs else .lst xs
def kds (ks : List Kd) : List D := ks.map fun k => .str k.s
def Kd.of (t : Str) : Option Kd := Kd.all.find? fun k => decide (k.s = t)
theorem Kd.of_s (k : Kd) : Kd.of k.s = some k := by cases k <;> decide +kernel
theorem Kd.s_inj {a b : Kd} (h : a.s = b.s) : a = b := by
  have z := Kd.of_s a
  rw [h, Kd.of_s b] at z
  exact (Option.some.inj z).symm
theorem inD_kds (a : Kd) (l : List Kd) : inD (.str a.s) (kds l) = decide (a ∈ l) := by
  unfold inD kds inV
  rw [List.map_map, List.any_map, Bool.eq_iff_iff, List.any_eq_true, decide_eq_true_eq]
  constructor
  · rintro ⟨k, hk, e⟩
    have e' : (k.s == a.s) = true := e
    rw [← Kd.s_inj (beq_iff_eq.mp e')]
    exact hk
  · intro h
    exact ⟨a, h, beq_self_eq_true a.s⟩
theorem kds_flat (l : List Kd) : (kds l).all flatD = true := by
  unfold kds
  rw [List.all_map, List.all_eq_true]
  intro k _
  rfl
theorem in_KINDS (a : Kd) : inD (.str a.s) (Kd.all.map fun k => D.str k.s) = true := by
  have z := inD_kds a Kd.all
  rw [decide_eq_true (kd_mem a)] at z
  exact z
theorem enD_inv {xs : List D} {i : Nat} {d : D} (h : (enD xs)[i]? = some d) : ∃ y, xs[i]? = some y ∧ d = .tup [.int (i : Int), y] := by
  unfold enD at h
  rw [List.getElem?_map, List.getElem?_zipIdx] at h
  cases e : xs[i]? with
  | none =>
    rw [e] at h
    cases h
  | some y =>
    rw [e] at h
    simp at h
    exact ⟨y, rfl, h.symm⟩
theorem enD_length (xs : List D) : (enD xs).length = xs.length := by
  unfold enD
  rw [List.length_map, List.length_zipIdx]
section
variable {C : Addr} {X : Cx} {a b e : Expr} {γ : DSt} {d x : D} {pos p tpos : Pos} {xs : List D} {elts : List Expr} {kk : Nat}
theorem i_enumK (tp : Bool) (hm : X.mg "enumerate" = Option.none) (h : PD C X e γ (kD tp xs)) (hg : Gl X "enumerate" := by rfl) (hs : starEach [e] X.env = [(false, eval e X.env)] := by rfl) : PID C X (.Tuple elts kk tpos) (.Call (.Name "enumerate" p) [e] [] pos) γ (enD xs) := by
  cases tp with
  | true => exact i_enumT hm (a_cons h a_nil hs) hg hs
  | false => exact i_enum hm (a_cons h a_nil hs) hg hs
theorem d_cutK (tp : Bool) {i : Nat} {p2 : Pos} (ha : PD C X a γ (kD tp xs)) (hi : PD C X b γ (.int (i : Int))) (hlt : i < xs.length) : PD C X (.Subscript a (.Slice Option.none (some b) Option.none p2) pos) γ (kD tp (xs.take i)) := by
  cases tp with
  | true => exact PD.of (d_sl sl_tup ha o_none (o_some hi) (rs_tup (fun z => by
      have z2 := z.2
      rw [HT.sIx_nat] at z2
      omega))) (by rw [cutD_to i rfl]; rfl)
  | false => exact PD.of (d_sl sl_list ha o_none (o_some hi) rs_list) (by rw [cutD_to i rfl]; rfl)
theorem kD_or (tp : Bool) : kD tp xs = .lst xs ∨ kD tp xs = .tup xs := by
  cases tp
  · exact .inl rfl
  · exact .inr rfl
end
section
variable {P : Program} {w : World} {K : PySem.W.Frag} {mg : Str → Option Value} {base : Heap} {C : Addr}
theorem PW.of0 {X : Cx} {e : Expr} {γ : DSt} {p q : Bool} (h : PWD C X e γ p) (w : p = q) : PWD C X e γ q := by rw [← w]; exact h
/-- what does not pass as a further kind -/
def BadK (ks : List Kd) (odd : D) : Prop := (∃ t, tyD odd = some t ∧ kitB t "str" = some false) ∨ ∃ s, odd = .str s ∧ (inD (.str s) (Kd.all.map fun k => D.str k.s) = false ∨ inD (.str s) (kds ks) = true)
abbrev FdNK (Ck : Addr) : List D → Out → Prop := fun ds o => (∃ tp ks, ks.Nodup ∧ ds = [kD tp (kds ks)] ∧ o = .ok .non) ∨ ∃ ks odd, ks.Nodup ∧ BadK ks odd ∧ ds = [.lst (kds ks ++ [odd])] ∧ o = .er Ck "index" (.int (ks.length : Int))
theorem kds_get {ks : List Kd} {i : Nat} {y : D} (h : (kds ks)[i]? = some y) : ∃ k, ks[i]? = some k ∧ y = .str k.s := by
  unfold kds at h
  rw [List.getElem?_map, Option.map_eq_some_iff] at h
  obtain ⟨k, h1, h2⟩ := h
  exact ⟨k, h1, h2.symm⟩
theorem nodup_take {ks : List Kd} (hn : ks.Nodup) {i : Nat} {k : Kd} (h : ks[i]? = some k) : inD (.str k.s) (kds (ks.take i)) = false := by
  rw [inD_kds, decide_eq_false_iff_not]
  intro hm
  obtain ⟨j, hj⟩ := List.getElem?_of_mem hm
  rw [List.getElem?_take] at hj
  split at hj
  · rename_i hlt
    obtain ⟨h1, h2⟩ := List.getElem?_eq_some_iff.mp hj
    obtain ⟨h3, h4⟩ := List.getElem?_eq_some_iff.mp h
    have := (List.getElem_inj hn).mp (h2.trans h4.symm)
    omega
  · cases hj
theorem dfe_need_kinds {Ck : Addr} (T : Tp K mg) (Z : Ek P w K mg base 1 "InvalidKinds" Ck "index") (h : Has K mg "need_kinds" s_need_kinds ["kinds"]) : DfE P w K mg base C 3 "need_kinds" (FdNK Ck) := by
  refine dfe_mk h sc_need_kinds (fun ds o hf => ?_) fun f cdv A outer s H E ds o hr hf tk po => ?_
  · rcases hf with ⟨tp, ks, _, e, _⟩ | ⟨ks, odd, _, _, e, _⟩ <;> rw [e] <;> rfl
  rcases hf with ⟨tp, ks, hn, e, eo⟩ | ⟨ks, odd, hn, hb, e, eo⟩
  · subst e eo
    refine w_cons (w_if (k := false) (PTD.of (t_not (t_val (PD.of (d_isi2 (T1 := "list") (T2 := "tuple") (t := if tp then "tuple" else "list") (r1 := !tp) (r2 := tp) (T.b _) (T.b _) (T.b _) (dv 0) (by cases tp <;> rfl) (by cases tp <;> decide +kernel) (by cases tp <;> decide +kernel)) (z := .bl true) (by cases tp <;> rfl)))) rfl) (fun k => by cases k) fun _ => w_nil (w_one (w_for (xs := enD (kds ks)) po rfl (i_enumK tp (T.b _) (dv 0)) (g_pair 1 2 rfl sc_need_kinds.nd)
      (fun i γ => ∃ o1 o2, γ = [some (kD tp (kds ks)), o1, o2]) ⟨_, _, rfl⟩ ?_ fun γ' _ => rfl)))
    rintro i d γ' hi ⟨o1, o2, rfl⟩
    obtain ⟨y, hy, rfl⟩ := enD_inv hi
    obtain ⟨k, hk, rfl⟩ := kds_get hy
    have hlt : i < (kds ks).length := (List.getElem?_eq_some_iff.mp hy).1
    refine ⟨_, rfl, w_one (w_if (k := false) (t_of (PW.of0 (w_or (k := false) (PTD.of (t_not (t_val (d_isi (T := "str") (r := true) (T.b _) (T.b _) (dv 2) rfl (by decide +kernel)))) rfl) fun _ => w_or (k := false) (PTD.of (t_cmp op_notIn_seq (dv 2) (T.kinds rfl rfl rfl) (rd_in true rfl (by decide +kernel) (.inr rfl))) ?_) fun _ => w_or1 (PTD.of (t_cmp op_in_seq (dv 2) (d_cutK tp (dv 0) (dv 1) hlt) (rd_in false rfl ?_ (kD_or tp))) (q := false) ?_)) rfl)) (fun k => by cases k) fun _ => w_nil ⟨_, _, rfl⟩)⟩
    · show (!inD (.str k.s) (Kd.all.map fun k => D.str k.s)) = false
      rw [in_KINDS]
      rfl
    · unfold kds
      rw [← List.map_take]
      exact kds_flat (ks.take i)
    · show inD (.str k.s) ((kds ks).take i) = false
      have e : (kds ks).take i = kds (ks.take i) := by
        unfold kds
        rw [List.map_take]
      rw [e]
      exact nodup_take hn hk
  · subst e eo
    have e0 : D.lst (kds ks ++ [odd]) = kD false (kds ks ++ [odd]) := rfl
    have hlen : (kds ks).length = ks.length := List.length_map ..
    refine w_cons (w_if (k := false) (PTD.of (t_not (t_val (PD.of (d_isi2 (T1 := "list") (T2 := "tuple") (t := "list") (r1 := true) (r2 := false) (T.b _) (T.b _) (T.b _) (dv 0) rfl (by decide +kernel) (by decide +kernel)) (z := .bl true) rfl))) rfl) (fun k => by cases k) fun _ => w_nil (w_one (w_for (xs := enD (kds ks ++ [odd])) po rfl (i_enumK false (T.b _) (dv 0)) (g_pair 1 2 rfl sc_need_kinds.nd)
      (fun i γ => i ≤ ks.length ∧ ∃ o1 o2, γ = [some (.lst (kds ks ++ [odd])), o1, o2]) ⟨Nat.zero_le _, _, _, rfl⟩ ?_ ?_)))
    · rintro i d γ' hi ⟨hle, o1, o2, rfl⟩
      obtain ⟨y, hy, rfl⟩ := enD_inv hi
      have hlt : i < (kds ks ++ [odd]).length := (List.getElem?_eq_some_iff.mp hy).1
      by_cases hik : i < ks.length
      · rw [List.getElem?_append_left (by rw [hlen]; exact hik)] at hy
        obtain ⟨k, hk, rfl⟩ := kds_get hy
        have etk : (kds ks ++ [odd]).take i = kds (ks.take i) := by
          rw [List.take_append_of_le_length (by rw [hlen]; omega)]
          unfold kds
          rw [List.map_take]
        refine ⟨_, rfl, w_one (w_if (k := false) (t_of (PW.of0 (w_or (k := false) (PTD.of (t_not (t_val (d_isi (T := "str") (r := true) (T.b _) (T.b _) (dv 2) rfl (by decide +kernel)))) rfl) fun _ => w_or (k := false) (PTD.of (t_cmp op_notIn_seq (dv 2) (T.kinds rfl rfl rfl) (rd_in true rfl (by decide +kernel) (.inr rfl))) ?_) fun _ => w_or1 (PTD.of (t_cmp op_in_seq (dv 2) (d_cutK false (dv 0) (dv 1) hlt) (rd_in false rfl ?_ (kD_or false))) (q := false) ?_)) rfl)) (fun k => by cases k) fun _ => w_nil ⟨by omega, _, _, rfl⟩)⟩
        · show (!inD (.str k.s) (Kd.all.map fun k => D.str k.s)) = false
          rw [in_KINDS]
          rfl
        · rw [etk]
          exact kds_flat (ks.take i)
        · show inD (.str k.s) ((kds ks ++ [odd]).take i) = false
          rw [etk]
          exact nodup_take hn hk
      · have ei : i = ks.length := by omega
        subst ei
        rw [List.getElem?_append_right (by rw [hlen]; exact Nat.le_refl _), hlen, Nat.sub_self] at hy
        have ey : odd = y := Option.some.inj hy
        subst ey
        have etk : (kds ks ++ [odd]).take ks.length = kds ks := by rw [← hlen, List.take_left]
        refine ⟨_, rfl, w_one (w_if (k := true) (t_of ?_) (fun _ => w_one (w_raise tk Z rfl hr pass0 (a_cons (dv 1) a_nil) rfl)) fun k => by cases k)⟩
        rcases hb with ⟨t, ht, hk⟩ | ⟨s0, es, hb⟩
        · exact PW.of0 (w_or (k := true) (l := true) (PTD.of (t_not (t_val (d_isi (T := "str") (r := false) (T.b _) (T.b _) (dv 2) ht hk))) rfl) fun h => by cases h) rfl
        · subst es
          refine PW.of0 (w_or (k := false) (l := true) (PTD.of (t_not (t_val (d_isi (T := "str") (r := true) (T.b _) (T.b _) (dv 2) rfl (by decide +kernel)))) rfl) fun _ => PW.of0 (w_or (k := !inD (.str s0) (Kd.all.map fun k => D.str k.s)) (l := inD (.str s0) (kds ks)) (t_cmp op_notIn_seq (dv 2) (T.kinds rfl rfl rfl) (rd_in true rfl (by decide +kernel) (.inr rfl))) fun _ => w_or1 (PTD.of (t_cmp op_in_seq (dv 2) (d_cutK false (dv 0) (dv 1) hlt) (rd_in false rfl ?_ (kD_or false))) ?_)) ?_) rfl
          · rw [etk]
            exact kds_flat ks
          · show inD (.str s0) ((kds ks ++ [D.str s0]).take ks.length) = _
            rw [etk]
          · rcases hb with z | z
            · rw [z]
              rfl
            · rw [z, Bool.or_true]
    · rintro γ' ⟨hle, _⟩
      rw [enD_length, List.length_append, hlen, List.length_singleton] at hle
      omega
/-! ### need_deletes -/
abbrev FdND (Ck : Addr) : List D → Out → Prop := fun ds o => (∃ tp ks, ks.Nodup ∧ ds = [kD tp (kds ks)] ∧ o = if Kd.del ∈ ks then .ok .non else .er Ck "index" (.int (ks.length : Int))) ∨ ∃ ks odd, ks.Nodup ∧ BadK ks odd ∧ ds = [.lst (kds ks ++ [odd])] ∧ o = .er Ck "index" (.int (ks.length : Int))
theorem rc_lenK {tp : Bool} {xs : List D} : RCD K C (fun xs H Q => ∃ x n, xs = [x] ∧ LenV K x H n ∧ Q (.int n) H) [kD tp xs] (.int (xs.length : Int)) := by
  cases tp
  · exact rc_lenL
  · exact rc_lenT
theorem dfe_need_deletes {Ck : Addr} (T : Tp K mg) (F1 : DfE P w K mg base C 3 "need_kinds" (FdNK Ck)) (Z : Ek P w K mg base 1 "InvalidKinds" Ck "index") (h : Has K mg "need_deletes" s_need_deletes ["kinds"]) : DfE P w K mg base C 4 "need_deletes" (FdND Ck) := by
  refine dfe_mk h sc_need_deletes (fun ds o hf => ?_) fun f cdv A outer s H E ds o hr hf tk po => ?_
  · rcases hf with ⟨tp, ks, _, e, _⟩ | ⟨ks, odd, _, _, e, _⟩ <;> rw [e] <;> rfl
  rcases hf with ⟨tp, ks, hn, e, eo⟩ | ⟨ks, odd, hn, hb, e, eo⟩
  · subst e eo
    refine w_cons (w_expr (dw_call F1 tk hr (a_cons (dv 0) a_nil) (.inl ⟨tp, ks, hn, rfl, rfl⟩)) (fun d _ => ?_) fun Ce f d e => by cases e)
    refine w_one (w_if (t_cmp op_notIn_seq d_str (dv 0) (rd_in true rfl (kds_flat ks) (kD_or tp))) (fun k => w_one (w_raise tk Z rfl (hr.mono (by decide)) pass0 (a_cons (d_callB call_len (T.b _) (a_cons (dv 0) a_nil) rc_lenK) a_nil) ?_)) fun k => w_nil ?_)
    · have k' : (!inD (.str Kd.del.s) (kds ks)) = true := k
      rw [inD_kds, Bool.not_eq_true', decide_eq_false_iff_not] at k'
      rw [if_neg k', kds, List.length_map]
    · have k' : (!inD (.str Kd.del.s) (kds ks)) = false := k
      rw [inD_kds, Bool.not_eq_false', decide_eq_true_eq] at k'
      show (if Kd.del ∈ ks then Out.ok .non else _) = _
      rw [if_pos k']
  · subst e eo
    exact w_cons (w_expr (dw_call F1 tk hr (a_cons (dv 0) a_nil) (.inr ⟨ks, odd, hn, hb, rfl, rfl⟩)) (fun d e => by cases e) fun Ce f d e => by cases e; rfl)
end
end Kp

namespace Kp
open PySem PySem.Spec PyProof.Rows L2 StX
/-- an instance of our own that is being filled -/
structure OwnI (C : Addr) (G0 H0 : Hp) (x dx : Addr) (fs : List (Str × V)) (G H : Hp) : Prop where
  g : Same G0 G
  h : ∀ b, b ≠ x → ∀ o, H0 b = some o → H b = some o
  s : Same G H
  n : ∀ b, G0 b = Option.none → H0 b ≠ Option.none → G b = Option.none
  at_ : H x = some (.ins C dx fs)
  nx : G x = Option.none
theorem OwnI.step {C : Addr} {G0 H0 : Hp} {x dx : Addr} {fs : List (Str × V)} {G H G' H' : Hp} (a : OwnI C G0 H0 x dx fs G H) (n : Nx G H G' H') (hx : H0 x ≠ Option.none) : OwnI C G0 H0 x dx fs G' H' :=
  ⟨a.g.trans n.g, fun b hb o e => n.h _ _ (a.h b hb o e), n.s, fun b h1 h2 => n.n b (a.n b h1 h2) (by
    by_cases hb : b = x
    · rw [hb, a.at_]
      intro z
      cases z
    · intro z
      cases e : H0 b with
      | none => exact h2 e
      | some o =>
        rw [a.h b hb o e] at z
        cases z), n.h _ _ a.at_, n.n x a.nx (by rw [a.at_]; intro z; cases z)⟩
theorem OwnI.put {C : Addr} {G0 H0 : Hp} {x dx : Addr} {fs fs' : List (Str × V)} {G H : Hp} (a : OwnI C G0 H0 x dx fs G H) : OwnI C G0 H0 x dx fs' G (upd H x (.ins C dx fs')) :=
  ⟨a.g, fun b hb o e => by rw [upd_ne hb]; exact a.h b hb o e, fun b u e => by rw [upd_ne (ne_of_none e a.nx)]; exact a.s b u e, a.n, upd_same, a.nx⟩
section
variable {P : Program} {w : World} {K : PySem.W.Frag} {mg : Str → Option Value} {base : Heap} {C : Addr}
/-- what the body of __init__ keeps -/
def spI0 (C : Addr) : Sp := fun vs H Q _ => ∃ (x dx p : Addr) (F : Fm) (G H0 : Hp), vs = [.ref x, .ref p] ∧ H = upd H0 p (.tup (F.ts.map V.str)) ∧ H0 p = Option.none ∧ H0 x = some (.ins C dx []) ∧ Same G H0 ∧ G x = Option.none ∧
  ∀ G' H' f1 f4, OwnI C G H0 x dx (langFs F.lg f1 f4) G' H' → G' f1 = some (.lst (F.lg.ks.map V.str)) → G' f4 = some (.lst (F.lg.firsts.map V.str)) → Q .non H'
theorem ts_forms0 (F : Fm) : F.ts.all (fun t => isF t && (decide (t.length ≤ 1000) && (decide ((t.length : Int) = F.rn) && !t.cps.toList.isEmpty))) = true := by cases F <;> decide +kernel
theorem ts_forms (F : Fm) (t : Str) (ht : t ∈ F.ts) : isF t = true ∧ t.length ≤ 1000 ∧ (t.length : Int) = F.rn ∧ ∃ c r, t.cps.toList = c :: r := by
  have z := List.all_eq_true.mp (ts_forms0 F) t ht
  rw [Bool.and_eq_true, Bool.and_eq_true, Bool.and_eq_true, decide_eq_true_eq, decide_eq_true_eq, Bool.not_eq_true'] at z
  refine ⟨z.1, z.2.1, z.2.2.1, ?_⟩
  cases e : t.cps.toList with
  | nil =>
    have z3 := z.2.2.2
    rw [e] at z3
    cases z3
  | cons c r => exact ⟨c, r, rfl⟩
theorem ts_sorted (F : Fm) : sortedS F.ts = true := by cases F <;> decide +kernel
theorem ts_nodup (F : Fm) : F.ts.Nodup := by cases F <;> decide +kernel
theorem ts_len (F : Fm) : 0 < F.ts.length ∧ F.ts.length ≤ 2 := by cases F <;> decide
theorem ts_lens (F : Fm) : F.ts.map (fun t => (t.length : Int)) = List.replicate F.ts.length (F.rn : Int) := by cases F <;> decide +kernel
theorem ts_all (F : Fm) : inD (.str "all") (F.ts.map .str) = F.lg.all := by cases F <;> decide +kernel
theorem flat_strs (l : List Str) : (l.map D.str).all flatD = true := by
  rw [List.all_map, List.all_eq_true]
  intro t _
  rfl
theorem ts_firsts (F : Fm) : F.lg.ks.map (fun t => (⟨#[t.cps.toList.headD 0]⟩ : Str)) = F.lg.firsts := by cases F <;> decide +kernel
theorem ks_head0 (F : Fm) : F.lg.ks.all (fun t => !t.cps.toList.isEmpty && decide (t.length ≤ 10000)) = true := by cases F <;> decide +kernel
theorem ks_head (F : Fm) (t : Str) (ht : t ∈ F.lg.ks) : ∃ c r, t.cps.toList = c :: r := by
  have z := List.all_eq_true.mp (ks_head0 F) t ht
  rw [Bool.and_eq_true, Bool.not_eq_true'] at z
  cases e : t.cps.toList with
  | nil =>
    have z3 := z.1
    rw [e] at z3
    cases z3
  | cons c r => exact ⟨c, r, rfl⟩
theorem ks_len (F : Fm) : F.lg.ks.length ≤ 10000 := by cases F <;> decide
theorem ks_short (F : Fm) (t : Str) (ht : t ∈ F.lg.ks) : t.length ≤ 10000 := by
  have z := List.all_eq_true.mp (ks_head0 F) t ht
  rw [Bool.and_eq_true, decide_eq_true_eq] at z
  exact z.2
theorem fnr_init (T : Tp K mg) (lc : LC K C) (F1 : Df P w K mg base C 2 "is_form" FdIsForm) (h : ∃ (f : Addr) (fd : FuncData), Fun K "__init__" "Language.__init__" s_Language_init f fd ∧ Mk K C f) :
    ∃ f, FnR P w K mg base CX0 4 f (fun vs H Q E => ∃ ws rest, vs = ws ++ rest ∧ ws.length = (["self"] : List Str).length ∧ rest.length ≤ sizeLine ∧ ∀ p, H p = Option.none → spI0 C (ws ++ [V.ref p]) (upd H p (.tup rest)) Q E) ∧ Mk K C f := by
  obtain ⟨f, fd, F0, hm⟩ := h
  obtain ⟨oc, od, kV, doc, pm, an, cdv, ct, osl, efd, lk, hcd⟩ := F0.ex
  subst efd
  refine ⟨f, fn_star (N := n_Language_init) (ps := ["self"]) (pv := "forms") lk hcd sc_Language_init cxUp_none (bind_star1 (B := fun us => bindArgs _ ⟨us, []⟩) (fun a => rfl) (fun a r rs => rfl)) (fun A outer s H vs Q E hr hsp => ?_), hm⟩
  obtain ⟨x, dx, p, F, G, H0, ev, eH, hp, hx, sm, gx, q⟩ := hsp
  subst ev eH
  generalize hH : upd H0 p (.tup (F.ts.map V.str)) = Hs
  have d0 : PSD C (cxOf CX0 P w K mg base n_Language_init "Language.__init__" (defScope s_Language_init) f cdv A outer s Hs E).nox ((defBody s_Language_init).getD 0 (.Pass ⟨0, 0, 0, 0⟩)) [some (.raw (.ref x)), some (.tup (F.ts.map .str)), Option.none, Option.none, Option.none] { nx := fun γ => γ = [some (.raw (.ref x)), some (.tup (F.ts.map .str)), Option.none, Option.none, Option.none], rt := fun _ => False } := by
    refine s_if (k := false) (PTD.of (t_cmp (op_eqD (room_un hr)) (dv 1) (d_tup a_nil (by decide)) (rd_eqD (x := .tup (F.ts.map .str)) (y := .tup []) (isPd_strs _) rfl ?_ rfl)) ?_) (fun k => by cases k) fun _ => s_nil rfl
    · cases F <;> decide +kernel
    · cases F <;> decide +kernel
  have d1 : PSD C (cxOf CX0 P w K mg base n_Language_init "Language.__init__" (defScope s_Language_init) f cdv A outer s Hs E).nox ((defBody s_Language_init).getD 1 (.Pass ⟨0, 0, 0, 0⟩)) [some (.raw (.ref x)), some (.tup (F.ts.map .str)), Option.none, Option.none, Option.none] { nx := fun γ => ∃ o2 o3, γ = [some (.raw (.ref x)), some (.tup (F.ts.map .str)), o2, o3, Option.none], rt := fun _ => False } := by
    refine s_for PassesOwn.never rfl (xs := enD (F.ts.map .str)) (i_enumT (T.b _) (a_cons (dv 1) a_nil)) (g_pair 2 3 rfl sc_Language_init.nd) (fun i γ => ∃ o2 o3, γ = [some (.raw (.ref x)), some (.tup (F.ts.map .str)), o2, o3, Option.none]) ⟨_, _, rfl⟩ ?_ fun γ' h => h
    rintro i d γ' hi ⟨o2, o3, rfl⟩
    obtain ⟨y, hy, rfl⟩ := enD_inv hi
    rw [List.getElem?_map, Option.map_eq_some_iff] at hy
    obtain ⟨t, ht, rfl⟩ := hy
    have hf := ts_forms F t (List.mem_of_getElem? ht)
    exact ⟨_, rfl, s_one (s_if (k := false) (PTD.of (t_not (t_val (d_call F1 (hr.mono (by decide)) (a_cons (dv 3) a_nil) ⟨t, rfl, hf.2.1, rfl⟩))) (by rw [hf.1]; rfl)) (fun k => by cases k) fun _ => s_nil ⟨_, _, rfl⟩)⟩
  have d2 : ∀ oo : Option D × Option D, PSD C (cxOf CX0 P w K mg base n_Language_init "Language.__init__" (defScope s_Language_init) f cdv A outer s Hs E).nox ((defBody s_Language_init).getD 2 (.Pass ⟨0, 0, 0, 0⟩)) [some (.raw (.ref x)), some (.tup (F.ts.map .str)), oo.1, oo.2, Option.none] { nx := fun γ => γ = [some (.raw (.ref x)), some (.tup (F.ts.map .str)), oo.1, oo.2, some (.int F.rn)], rt := fun _ => False } := fun oo => by
    refine s_set 4 sc_Language_init.nd (d_callB (cr_max rfl) (T.b _) (a_cons (PD.of (d_lc0 "form" 3 F.ts .str (fun t => .int (t.length : Int)) rfl sc_Language_init.nd (i_tup (dv 1)) (blkOk_by (N := n_Language_init) (sc := defScope s_Language_init) (by decide +kernel)) (fun t ht s H Ca cl fp => d_callB call_len (T.b _) (a_cons (dv 3) a_nil) (rc_lenS ?_)) ?_) (z := .lst ((F.ts.map fun t => (t.length : Int)).map .int)) ?_) a_nil) (rc_max ?_ ?_)) rfl
    · have := (ts_forms F t ht).2.1
      omega
    · have := (ts_len F).2
      omega
    · rw [List.map_map]
      rfl
    · rw [List.length_map]
      exact (ts_len F).1
    · intro a ha _
      rw [ts_lens] at ha
      exact List.eq_of_mem_replicate ha
  have d3 : ∀ {e : Expr} {tg : Expr} {pos : Pos}, (defBody s_Language_init).getD 3 (.Pass ⟨0, 0, 0, 0⟩) = .Assign [tg] e pos → ∀ oo : Option D × Option D, PE (cxOf CX0 P w K mg base n_Language_init "Language.__init__" (defScope s_Language_init) f cdv A outer s Hs E).nox e (cE K C [some (.raw (.ref x)), some (.tup (F.ts.map .str)), oo.1, oo.2, some (.int F.rn)] (.lst (F.lg.ks.map .str))) := fun he oo => by
    cases he
    refine d_sortSc [("form", 3)] F.ts D.str (fun t => [some (.raw (.ref x)), some (.tup (F.ts.map .str)), oo.1, some (.str t), some (.int F.rn)]) (fun t => decide ((t.length : Int) = F.rn)) (fun t => t) rfl sc_Language_init.nd (T.b _) (i_tup (dv 1)) (blkOk_by (N := n_Language_init) (sc := defScope s_Language_init) (by decide +kernel)) (fun s H Ca cl fp => g_name 3 sc_Language_init.nd) (fun d _ => rfl)
      (fun t ht s H Ca cl fp => ts_one (t_cmp op_eq (d_callB call_len (T.b _) (a_cons (dv 3) a_nil) (rc_lenS ?_)) (dv 4) rd_eqI)) (fun t ht _ s H Ca cl fp => dv 3) ?_ ?_ ?_
    · have := (ts_forms F t ht).2.1
      omega
    · have := (ts_len F).2
      omega
    · rw [List.map_id']
      exact (ts_nodup F).sublist (List.filter_sublist)
    · intro zs h1 h2
      rw [List.map_id', List.filter_eq_self.mpr fun t ht => decide_eq_true (ts_forms F t ht).2.2.1] at h1
      exact sorted_one h1 h2 (List.Perm.refl _) (ts_sorted F)
  have d4 : ∀ {e : Expr} {tg : Expr} {pos : Pos}, (defBody s_Language_init).getD 4 (.Pass ⟨0, 0, 0, 0⟩) = .Assign [tg] e pos → ∀ oo : Option D × Option D, PE (cxOf CX0 P w K mg base n_Language_init "Language.__init__" (defScope s_Language_init) f cdv A outer s Hs E).nox e (cE K C [some (.raw (.ref x)), some (.tup (F.ts.map .str)), oo.1, oo.2, some (.int F.rn)] (.bl F.lg.all)) := fun he oo => by
    cases he
    exact PD.of (d_cmp op_in_seq (T.all rfl rfl) (dv 1) (rd_in false rfl (flat_strs _) (.inr rfl))) (congrArg D.bl (ts_all F))
  refine ⟨_, PSs.nox (pss_cons d0 (pss_cons d1 (pss_cons (PS.all d2) (pss_cons (ps_fld (pe_var (i := 0) rfl (.inl rfl)) (PE.all (d3 rfl)) rfl) (pss_cons (ps_fld (pe_var (i := 0) rfl (.inl rfl)) (PE.all (d4 rfl)) rfl) (pss_cons (ps_fld (pe_var (i := 0) rfl (.inl rfl)) (pe_var (i := 4) rfl (.inr (.inl rfl))) rfl)
    (pss_one (ps_fld (pe_var (i := 0) rfl (.inl rfl)) (pe_lc (own := [("form", 3)]) (g := cG K C [3] (tg1 3)) rfl sc_Language_init.nd (pi_list (pe_fld (pe_var (i := 0) rfl (.inl rfl)) rfl)) (blkOk_by (N := n_Language_init) (sc := defScope s_Language_init) (by decide +kernel)) (fun s H Ca cl fp => g_name 3 sc_Language_init.nd)
      (tt := rT K C F.lg.ks (fun t => [Option.none, Option.none, Option.none, some (.str t), Option.none]) fun _ => true) (te := rE K C F.lg.ks (fun t => [Option.none, Option.none, Option.none, some (.str t), Option.none]) (fun _ => true) fun t => .str ⟨#[t.cps.toList.headD 0]⟩) (fun s H Ca cl fp => ⟨fun pins s1 σ H1 Q I q => ?_⟩) (fun s H Ca cl fp => ⟨fun pins s1 σ H1 Q I q => ?_⟩)) rfl)))))))), ?_⟩
  · obtain ⟨d, q1, q⟩ := q
    exact (ts_nil (C := C) (X := Blk _ _ s H Ca cl fp)).run pins s1 σ H1 Q I q
  · obtain ⟨d, q1, q2, q⟩ := q
    obtain ⟨c, r, hc⟩ : ∃ c r, d.cps.toList = c :: r := by
      have z := ks_head F
      exact z d q1
    have hl := ks_short F d q1
    refine (show PD C (Blk _ _ s H Ca cl fp) _ [Option.none, Option.none, Option.none, some (.str d), Option.none] (.str ⟨#[d.cps.toList.headD 0]⟩) from d_ix ix_str (dv 3) d_int (rd_ixS (i := 0) (c := d.cps.toList.headD 0) hl (by rw [hc]; rfl))).run pins s1 σ H1 Q I q
  · subst hH
    have hx0 : H0 x ≠ Option.none := by
      rw [hx]
      intro z
      cases z
    have hxp : x ≠ p := ne_of_none hx hp
    have n0 : Nx G H0 (upd G p (.tup (F.ts.map V.str))) (upd H0 p (.tup (F.ts.map V.str))) := Nx.new sm hp
    have own0 : OwnI C G H0 x dx [] (upd G p (.tup (F.ts.map V.str))) (upd H0 p (.tup (F.ts.map V.str))) := ⟨n0.g, fun b _ o e => n0.h _ _ e, n0.s, n0.n, n0.h _ _ hx, by rw [upd_ne hxp]; exact gx⟩
    have sl0 : Sl K C (upd G p (.tup (F.ts.map V.str))) (L2.start n_Language_init [V.ref x, V.ref p]) [some (.raw (.ref x)), some (.tup (F.ts.map .str)), Option.none, Option.none, Option.none] :=
      sl_start (N := n_Language_init) (ds := [.raw (.ref x), .tup (F.ts.map .str)]) (.cons (At.raw _) (.cons (At.tup (.inl (.inl upd_same)) AtL.of_strs) .nil))
    refine ⟨_, own0.s, sl0, fun σa γa Ga Ha na sla ea => ?_, fun _ _ _ _ _ _ z => z.elim, fun _ _ _ _ _ _ z => z.elim, fun _ _ _ _ _ _ z => z.elim⟩
    have ea' : γa = _ := ea
    subst ea'
    have own1 := own0.step na hx0
    refine ⟨Ga, own1.s, sla, fun σb γb Gb Hb nb slb eb => ?_, fun _ _ _ _ _ _ z => z.elim, fun _ _ _ _ _ _ z => z.elim, fun _ _ _ _ _ _ z => z.elim⟩
    obtain ⟨o2, o3, eb'⟩ : ∃ o2 o3, γb = [some (.raw (.ref x)), some (.tup (F.ts.map .str)), o2, o3, Option.none] := eb
    subst eb'
    have own2 := own1.step nb hx0
    refine ⟨(o2, o3), Gb, own2.s, slb, fun σc γc Gc Hc nc slc ec => ?_, fun _ _ _ _ _ _ z => z.elim, fun _ _ _ _ _ _ z => z.elim, fun _ _ _ _ _ _ z => z.elim⟩
    have ec' : γc = [some (.raw (.ref x)), some (.tup (F.ts.map .str)), o2, o3, some (.int F.rn)] := ec
    subst ec'
    have own3 := own2.step nc hx0
    obtain ⟨vx, hsx, ax⟩ := slc.at_ 0 (.raw (.ref x)) rfl
    have ex := ax.raw'
    subst ex
    obtain ⟨v4, hs4, a4⟩ := slc.at_ 4 (.int F.rn) rfl
    have e4 := a4.int'
    subst e4
    -- kept_forms
    refine ⟨(o2, o3), Gc, own3.s, slc, fun v Gd Hd nd ad => ?_⟩
    have own4 := own3.step nd hx0
    obtain ⟨f1, us, rfl, g1, r1⟩ := ad.lst'
    have e1 := r1.strs
    subst e1
    refine ⟨.ref x, hsx, x, C, dx, [], rfl, own4.at_, lc.cls, lc.n1, by show 0 < 1000; decide, ?_⟩
    have own5 := own4.put (fs' := putF "kept_forms" (.ref f1) [])
    -- is_all
    refine ⟨(o2, o3), Gd, own5.s, slc.mono nd.g, fun v Ge He ne ae => ?_⟩
    have own6 := own5.step ne hx0
    have e5 := ae.bl'
    subst e5
    refine ⟨.ref x, hsx, x, C, dx, _, rfl, own6.at_, lc.cls, lc.n2, by show 1 < 1000; decide, ?_⟩
    have own7 := own6.put (fs' := putF "is_all" (.bl F.lg.all) (putF "kept_forms" (.ref f1) []))
    -- runs
    refine ⟨.int F.rn, hs4, .ref x, hsx, x, C, dx, _, rfl, own7.at_, lc.cls, lc.n3, by show 2 < 1000; decide, ?_⟩
    have own8 := own7.put (fs' := putF "runs" (.int F.rn) (putF "is_all" (.bl F.lg.all) (putF "kept_forms" (.ref f1) [])))
    have g1' : Ge f1 = some (.lst (F.lg.ks.map V.str)) := ne.g _ _ g1
    -- firsts
    have slbare : Sl K C Ge σc [Option.none, Option.none, Option.none, Option.none, Option.none] := ⟨slc.len, fun i d z => by
      rcases i with _ | _ | _ | _ | _ | i <;> simp at z⟩
    have hh : ∀ Q2 : VK, (∀ v Gf Hf, Nx Ge (upd (upd He x (.ins C dx (putF "is_all" (.bl F.lg.all) (putF "kept_forms" (.ref f1) [])))) x (.ins C dx (putF "runs" (.int F.rn) (putF "is_all" (.bl F.lg.all) (putF "kept_forms" (.ref f1) []))))) Gf Hf → At K C Gf (.lst ((F.lg.ks.filter fun _ => true).map fun t => D.str ⟨#[t.cps.toList.headD 0]⟩)) v → Q2 v Hf) → tLc (iList K (tFld K (tVar 0) "kept_forms")) (cG K C [3] (tg1 3)) (rT K C F.lg.ks (fun t => [Option.none, Option.none, Option.none, some (.str t), Option.none]) fun _ => true) (rE K C F.lg.ks (fun t => [Option.none, Option.none, Option.none, some (.str t), Option.none]) (fun _ => true) fun t => .str ⟨#[t.cps.toList.headD 0]⟩) [3] σc (upd (upd He x (.ins C dx (putF "is_all" (.bl F.lg.all) (putF "kept_forms" (.ref f1) [])))) x (.ins C dx (putF "runs" (.int F.rn) (putF "is_all" (.bl F.lg.all) (putF "kept_forms" (.ref f1) []))))) Q2 := fun Q2 hQ =>
      lc_readW (K := K) (C := C) (ys := F.lg.ks) (γ := [Option.none, Option.none, Option.none, Option.none, Option.none]) (tgt := tg1 3) (mk := D.str) (vs := [3]) (γs := fun t => [Option.none, Option.none, Option.none, some (.str t), Option.none]) (f := fun _ => true) (g := fun t => .str ⟨#[t.cps.toList.headD 0]⟩) (wi := iList K (tFld K (tVar 0) "kept_forms")) (G := Ge) (σ := σc) (Q := Q2)
        (fun R hR => ⟨.ref x, hsx, x, C, dx, _, .ref f1, rfl, own8.at_, lc.cls, lc.n1, rfl, f1, rfl, ⟨_, SqL.of (own8.s _ _ g1')⟩, hR _ Ge _ (Nx.refl own8.s) (wk_list g1' AtL.of_strs)⟩) (ks_len F) (fun d _ => rfl) own8.s slbare hQ
    refine hh (fun y H1 => tVar 0 σc H1 fun x' H2 => ∃ (a : Addr) (C1 : Addr) (dx1 : Addr) (fs : List (Str × V)), x' = .ref a ∧ H2 a = some (.ins C1 dx1 fs) ∧ Cls K C1 ∧ NoAttr K C1 "firsts" ∧ fs.length < 1000 ∧ Q .non (upd H2 a (.ins C1 dx1 (putF "firsts" y fs)))) fun v Gf Hf nf af => ?_
    · have own9 := own8.step nf hx0
      obtain ⟨f4, us4, rfl, g4, r4⟩ := af.lst'
      have r4' : AtL K C Gf (F.lg.firsts.map .str) us4 := by
        rw [filter_tt] at r4
        have e : F.lg.ks.map (fun t => D.str ⟨#[t.cps.toList.headD 0]⟩) = F.lg.firsts.map .str := by
          rw [← ts_firsts F, List.map_map]
          rfl
        rw [e] at r4
        exact r4
      have e9 := r4'.strs
      subst e9
      refine ⟨.ref x, hsx, x, C, dx, _, rfl, own9.at_, lc.cls, lc.n4, by show 3 < 1000; decide, ?_⟩
      have own10 := own9.put (fs' := langFs F.lg f1 f4)
      exact q Gf _ f1 f4 own10 (nf.g _ _ g1') g4
end
end Kp

namespace Kp
open PySem PySem.Spec PyProof.Rows L2
structure MkL (P : Program) (w : World) (K : PySem.W.Frag) (mg : Str → Option Value) (base : Heap) (C : Addr) (k : Nat) : Prop where
  gm : mg "Language" = some (.ref C)
  ex : ∃ f, FnR P w K mg base CX0 k f (fun vs H Q E => ∃ ws rest, vs = ws ++ rest ∧ ws.length = (["self"] : List Str).length ∧ rest.length ≤ sizeLine ∧ ∀ p, H p = Option.none → spI0 C (ws ++ [V.ref p]) (upd H p (.tup rest)) Q E) ∧ Mk K C f
section
variable {C : Addr} {X : Cx} {e : Expr} {es : List Expr} {γ : DSt} {pos p : Pos} {F : Fm}
/-- Language(e, ..) -/
theorem d_make {k : Nat} (M : MkL X.prog X.w X.K X.mg X.base C k) (hr : Room (k + 1) X.A) (ha : PAD C X (e :: es) γ (F.ts.map .str)) (hg : Gl X "Language" := by rfl)
    (he : starEach (e :: es) X.env = (false, eval e X.env) :: starEach es X.env := by rfl) (hpl : (backTo pos (starEach es X.env)).any (·.1) = false := by rfl) : PD C X (.Call (.Name "Language" p) (e :: es) [] pos) γ (.lang F.lg) := by
  obtain ⟨f, FR, hm⟩ := M.ex
  refine PE.weak (StX.pe_makeR hm FR hr hg M.gm pass0 ha (by decide) he hpl) fun σ H Q ⟨G, s, sl, q⟩ => ⟨G, s, sl, fun vs G1 H1 n1 a1 => fun x dx hx hdx hne => ?_⟩
  have e1 := a1.strs
  subst e1
  refine ⟨[.ref x], F.ts.map V.str, rfl, rfl, ?_, fun p2 hp2 => ⟨x, dx, p2, F, G1, _, rfl, rfl, hp2, upd_same, ?_, n1.s.free hx, fun G' H' f1 f4 own g1 g4 => ⟨rfl, ?_⟩⟩⟩
  · rw [List.length_map]
    have := (ts_len F).2
    have e : (3 : Nat) < sizeLine := by decide
    omega
  · intro b o hb
    have hH := n1.s b o hb
    rw [upd_ne (ne_of_none hH hx), upd_ne (ne_of_none hH hdx)]
    exact hH
  · refine q (.ref x) (upd G' x (.ins C dx (langFs F.lg f1 f4))) H' (n1.trans ⟨?_, ?_, ?_, ?_⟩) (At.lang ⟨x, dx, f1, f4, rfl, upd_same, ?_, ?_⟩)
    · intro b o hb
      rw [upd_ne (ne_of_none (n1.s b o hb) hx)]
      exact own.g b o hb
    · intro b o hb
      have hbx := ne_of_none hb hx
      exact own.h b hbx o (by rw [upd_ne hbx, upd_ne (ne_of_none hb hdx)]; exact hb)
    · intro b o hb
      by_cases hbx : b = x
      · subst hbx
        rw [upd_same] at hb
        cases hb
        exact own.at_
      · rw [upd_ne hbx] at hb
        exact own.s b o hb
    · intro b h1 h2
      have hbx : b ≠ x := fun z => h2 (by rw [z]; exact hx)
      have hbd : b ≠ dx := fun z => h2 (by rw [z]; exact hdx)
      rw [upd_ne hbx]
      exact own.n b h1 (by rw [upd_ne hbx, upd_ne hbd]; exact h2)
    · rw [upd_ne (fun z => by rw [z, own.nx] at g1; cases g1)]
      exact g1
    · rw [upd_ne (fun z => by rw [z, own.nx] at g4; cases g4)]
      exact g4
end
/-! ### calls with keywords only -/
section
variable {X : Cx} {CX : CXT} {k : Nat} {f : Addr} {fd : FuncData} {ps ks : List Str} {sp : Sp} {E : XK} {x : Str} {p pos : Pos} {kws : List Keyword} {tk : TA} {g : List Value → List Value → List Value} {gV : List V → List V → List V}
theorem pe_callK0 (F : FnOk X.prog X.w X.K X.mg X.base CX k f fd ps sp) (hr : Room k X.A) (hg : Gl X x) (hm : X.mg x = some (.ref f)) (hk : PySem.W.keepIn X.K (.ref f) = true) (hb : KBinds X.K fd ps ks g gV) (hx : Passes CX X E)
    (hkw : PK X kws tk) (hall : (backToKw pos (keywordEach kws X.env)).all (·.1.isSome) = true := by rfl) (hks : (backToKw pos (keywordEach kws X.env)).filterMap (·.1) = ks := by rfl)
    (hdb : (x == ("__debug__" : Str)) = false := by decide)
    (hpl : ((backTo pos (starEach [] X.env)).any (·.1) || (backToKw pos (keywordEach kws X.env)).any (·.1.isNone)) = false := by rfl) :
    PE X (.Call (.Name x p) [] kws pos) (tCallK sp gV E tNil tk) := by
  refine ⟨fun pins s σ H Q I h => ?_⟩
  refine wpAny_Call_Name_kw (ld_glob I hg hm ?_ hdb)
  refine PySem.W.callWith_KW0 (h₀ := X.base) I.ok.mod.kin hk hall ?_ hpl
  refine thn (hkw.run pos pins s σ H _ I h) fun ws s2 ⟨zs, H2, I2, rz, q2⟩ => ⟨I2.kIn, ?_⟩
  rw [hks]
  exact run_fnk (us := []) (vs := []) F hr hb hx I2 .nil rz q2
end
/-- a def that may raise, called with keywords -/
structure DfK (P : Program) (w : World) (K : PySem.W.Frag) (mg : Str → Option Value) (base : Heap) (C : Addr) (k : Nat) (x : Str) (ks : List Str) (n : Nat) (perm : List V → List V) (Fd : List D → Out → Prop) : Prop where
  ex : ∃ (f : Addr) (fd : FuncData) (ps : List Str) (g : List Value → List Value → List Value) (gV : List V → List V → List V), FnOk P w K mg base (L2.CX P w) k f fd ps (spE K C Fd) ∧ mg x = some (.ref f) ∧ PySem.W.keepIn K (.ref f) = true ∧ KBinds K fd ps ks g gV ∧ ∀ vs : List V, vs.length = n → gV [] vs = perm vs
section
variable {P : Program} {w : World} {K : PySem.W.Frag} {mg : Str → Option Value} {base : Heap} {C : Addr}
theorem fne {x : Str} {st : Stmt} {N ps : List Str} {k : Nat} {Fd : List D → Out → Prop} {f : Addr} {fd : FuncData} (F : Fun K x x st f fd) (S : FnScope N ps (defScope st)) (hl : ∀ ds o, Fd ds o → ds.length = ps.length)
    (hb : ∀ (f : Addr) (cdv : Value) (A : Around) (outer : List Env) (s : Shared) (H : Hp) (E : XK) (ds : List D) (o : Out), Room k (A.deeper (envOfC x (defScope st) s.heap.objs.size f cdv)) → Fd ds o →
      Takes (cxOf (L2.CX P w) P w K mg base N x (defScope st) f cdv A outer s H E) (fun c d _ H => E c d H) → PassesOwn (model P w) (cxOf (L2.CX P w) P w K mg base N x (defScope st) f cdv A outer s H E).A (cxOf (L2.CX P w) P w K mg base N x (defScope st) f cdv A outer s H E).env (cxOf (L2.CX P w) P w K mg base N x (defScope st) f cdv A outer s H E).xe →
      PSsW C (cxOf (L2.CX P w) P w K mg base N x (defScope st) f cdv A outer s H E) E (fun Ce f d => o = .er Ce f d) (defBody st) (dstart N ds) { nx := fun _ => o = .ok .non, rt := fun d' => o = .ok d' }) : FnOk P w K mg base (L2.CX P w) (k + 1) f fd ps (spE K C Fd) := by
  refine F.okX S (fun vs H Q E h => ?_) (fun cdv A outer s H vs Q E hr h => ?_)
  · obtain ⟨G, ds, o, _, r, hf, _⟩ := h
    rw [r.len, hl ds o hf]
  · obtain ⟨G, ds, o, sm, r, hf, q⟩ := h
    refine ⟨_, hb f cdv A outer s H E ds o hr hf (takes_of rfl rfl rfl rfl) (passes_of rfl), G, sm, sl_start r, ?_, ?_, ?_, ?_, ?_⟩
    · intro σ' γ' G' H' n sl e
      have e' : o = .ok .non := e
      subst e'
      exact q .non G' H' n At.non
    · intro d' v G' H' n a e
      have e' : o = .ok d' := e
      subst e'
      exact q v G' H' n a
    · exact fun _ _ _ _ _ _ z => False.elim z
    · exact fun _ _ _ _ _ _ z => False.elim z
    · intro Ce f d e
      have e' : o = .er Ce f d := e
      subst e'
      exact q
end
/-- keywords on data -/
def cK (K : PySem.W.Frag) (C : Addr) (γ : DSt) (ds : List D) : TA := cA K C γ ds
section
variable {C : Addr} {X : Cx} {W : XK} {e : Expr} {γ : DSt} {pos p kpos : Pos} {d : D} {ds : List D} {kws : List Keyword} {nm : Option Str}
theorem PK.weak {t t' : TA} (h : PK X kws t) (w : ∀ σ H Q, t' σ H Q → t σ H Q) : PK X kws t' := ⟨fun pos pins s σ H Q I q => h.run pos pins s σ H Q I (w σ H Q q)⟩
theorem k_nil : PK X [] (cA X.K C γ []) := PK.weak pk_nil fun σ H Q ⟨G, s, sl, k⟩ => k [] G H (Nx.refl s) .nil
theorem k_cons (h : PD C X e γ d) (r : PK X kws (cA X.K C γ ds)) : PK X (⟨nm, e, kpos⟩ :: kws) (cA X.K C γ (d :: ds)) :=
  PK.weak (pk_cons h r) fun σ H Q ⟨G, s, sl, k⟩ => ⟨G, s, sl, fun v G1 H1 n1 a1 => ⟨G1, n1.s, sl.mono n1.g, fun vs G2 H2 n2 a2 => k (v :: vs) G2 H2 (n1.trans n2) (.cons (a1.mono n2.g) a2)⟩⟩
/-- f(k = e, ..) of a def that may raise: the arguments as the def has them are es -/
theorem dw_callK {k n : Nat} {x : Str} {ks : List Str} {perm : List V → List V} {Fd : List D → Out → Prop} {o : Out} {es : List D} (F : DfK X.prog X.w X.K X.mg X.base C k x ks n perm Fd) (tk : Takes X (fun c d _ H => W c d H)) (hr : Room k X.A) (hkw : PK X kws (cA X.K C γ ds)) (hn : ds.length = n)
    (hp : ∀ G vs, AtL X.K C G ds vs → AtL X.K C G es (perm vs)) (hF : Fd es o) (hg : Gl X x := by rfl) (hall : (backToKw pos (keywordEach kws X.env)).all (·.1.isSome) = true := by rfl) (hks : (backToKw pos (keywordEach kws X.env)).filterMap (·.1) = ks := by rfl)
    (hdb : (x == ("__debug__" : Str)) = false := by decide) (hpl : ((backTo pos (starEach [] X.env)).any (·.1) || (backToKw pos (keywordEach kws X.env)).any (·.1.isNone)) = false := by rfl) : PE X (.Call (.Name x p) [] kws pos) (cEW X.K C W γ o) := by
  obtain ⟨f, fd, ps, g, gV, F, hm, hk, hb, hperm⟩ := F.ex
  refine PE.weak (pe_callK0 F hr hg hm hk hb (E := W) (passes_call tk fun _ _ _ _ h => h) hkw hall hks hdb hpl) fun σ H Q ⟨G, s, sl, q⟩ => ⟨G, s, sl, fun vs G1 H1 n1 a1 => ?_⟩
  show spE X.K C Fd (gV [] vs) H1 Q W
  rw [hperm vs (by rw [a1.len]; exact hn)]
  refine ⟨G1, es, o, n1.s, hp G1 vs a1, hF, ?_⟩
  cases o with
  | ok d => exact fun v G2 H2 n2 a2 => q v G2 H2 (n1.trans n2) a2
  | er Ce f d => exact Wd.mono q n1
theorem d_callK {k n : Nat} {x : Str} {ks : List Str} {perm : List V → List V} {Fd : List D → Out → Prop} {es : List D} (F : DfK X.prog X.w X.K X.mg X.base C k x ks n perm Fd) (hr : Room k X.A) (hkw : PK X kws (cA X.K C γ ds)) (hn : ds.length = n)
    (hp : ∀ G vs, AtL X.K C G ds vs → AtL X.K C G es (perm vs)) (hF : Fd es (.ok d)) (hg : Gl X x := by rfl) (hall : (backToKw pos (keywordEach kws X.env)).all (·.1.isSome) = true := by rfl) (hks : (backToKw pos (keywordEach kws X.env)).filterMap (·.1) = ks := by rfl)
    (hdb : (x == ("__debug__" : Str)) = false := by decide) (hpl : ((backTo pos (starEach [] X.env)).any (·.1) || (backToKw pos (keywordEach kws X.env)).any (·.1.isNone)) = false := by rfl) : PD C X (.Call (.Name x p) [] kws pos) γ d := by
  obtain ⟨f, fd, ps, g, gV, F, hm, hk, hb, hperm⟩ := F.ex
  refine PE.weak (pe_callK0 F hr hg hm hk hb passL hkw hall hks hdb hpl) fun σ H Q ⟨G, s, sl, q⟩ => ⟨G, s, sl, fun vs G1 H1 n1 a1 => ?_⟩
  show spE X.K C Fd (gV [] vs) H1 Q _
  rw [hperm vs (by rw [a1.len]; exact hn)]
  exact ⟨G1, es, .ok d, n1.s, hp G1 vs a1, hF, fun v G2 H2 n2 a2 => q v G2 H2 (n1.trans n2) a2⟩
end
end Kp

namespace Kp
open PySem PySem.Spec PyProof.Rows L2
/-! ### sorts_at -/
def sd (b : Bool) : Str := if b then "back" else "front"
def kdOf : Bool → How → Kd
  | false, .must => .fm | false, .no => .fn | false, .free => .ff | true, .must => .bm | true, .no => .bn | true, .free => .bf
theorem kd_text (b : Bool) (h : How) : sd b ++ " " ++ h.s = (kdOf b h).s := by cases b <;> cases h <;> decide
def endsOf (ks : List Kd) (b : Bool) : List Bool := if Kd.rev ∈ ks then [false, true] else [b]
def onEnd (ks : List Kd) (b : Bool) (h : How) : Bool := (endsOf ks b).any fun e => decide (kdOf e h ∈ ks)
def howsM (ks : List Kd) (b : Bool) : List How := [How.must, How.no].filter (onEnd ks b)
abbrev hD (l : List How) : D := .lst (l.map fun h => .str h.s)
section
variable {P : Program} {w : World} {K : PySem.W.Frag} {mg : Str → Option Value} {base : Heap} {C : Addr}
abbrev FdSorts : List D → D → Prop := fun ds d => ∃ tp ks b, ds = [kD tp (kds ks), .str (sd b)] ∧ d = hD (howsM ks b)
theorem df_sorts_at (T : Tp K mg) (h : Has K mg "sorts_at" s_sorts_at ["kinds", "end"]) : Df P w K mg base C 1 "sorts_at" FdSorts := by
  refine df_mk h sc_sorts_at (fun ds d ⟨tp, ks, b, e, _⟩ => by rw [e] <;> rfl) fun f cdv A outer s H E ds d hr ⟨tp, ks, b, e, ed⟩ => ?_
  subst e ed
  refine s_cons (s_set 2 sc_sorts_at.nd (d_if (d := .lst ((endsOf ks b).map fun e => .str (sd e))) (t_cmp op_in_seq d_str (dv 0) (rd_in false rfl (kds_flat ks) (kD_or tp))) (fun k => PD.of (d_lst (a_cons d_str (a_cons d_str a_nil)) (by decide)) ?_) fun k => PD.of (d_lst (a_cons (dv 1) a_nil) (by show 1 ≤ 1000; decide)) ?_)
    (s_one (s_ret (d_lc1 "how" 3 [How.must, How.no] (fun h => .str h.s) (onEnd ks b) (fun h => .str h.s) rfl sc_sorts_at.nd (i_tup (d_tup (a_cons d_str (a_cons d_str a_nil)) (by decide))) (blkOk_by (N := n_sorts_at) (sc := defScope s_sorts_at) (by decide +kernel))
      (fun h hh s H Ca cl fp => ts_one (t_val (PD.of (d_callB (cr_any rfl) (T.b _) (a_cons (d_lc0 "one" 4 (endsOf ks b) (fun e => .str (sd e)) (fun e => .bl (decide (kdOf e h ∈ ks))) rfl sc_sorts_at.nd (i_list (dv 2)) (blkOk_by (by rfl))
        (fun e he s H Ca cl fp => PD.of (d_cmp op_in_seq (PD.of (d_op op_add_str (d_op op_add_str (dv 4) d_str (rd_addS ?_)) (dv 3) (rd_addS ?_)) (congrArg D.str (kd_text e h))) (dv 0) (rd_in false rfl (kds_flat ks) (kD_or tp))) (congrArg D.bl (inD_kds _ ks))) ?_) a_nil) rc_any') rfl))) (fun h hh _ s H Ca cl fp => dv 3) (by decide)) rfl)))
  · have k' : inD (.str Kd.rev.s) (kds ks) = true := k
    rw [inD_kds, decide_eq_true_eq] at k'
    unfold endsOf
    rw [if_pos k']
    rfl
  · have k' : inD (.str Kd.rev.s) (kds ks) = false := k
    rw [inD_kds, decide_eq_false_iff_not] at k'
    unfold endsOf
    rw [if_neg k']
    rfl
  · cases e <;> decide
  · cases e <;> cases h <;> decide
  · unfold endsOf
    split <;> simp
/-! ### smallest_of -/
def hs (m n : Bool) : List How := (if m then [How.must] else []) ++ (if n then [How.no] else [])
theorem hows_hs (ks : List Kd) (b : Bool) : howsM ks b = hs (onEnd ks b .must) (onEnd ks b .no) := by
  unfold howsM hs
  simp only [List.filter_cons, List.filter_nil]
  cases onEnd ks b .must <;> cases onEnd ks b .no <;> rfl
theorem con_mem (ks : List Kd) (k : Kd) : decide (k ∈ ks) = ks.contains k := (List.contains_eq_mem k ks).symm
theorem inD_con (k : Kd) (ks : List Kd) : inD (.str k.s) (kds ks) = ks.contains k := by rw [inD_kds, con_mem]
theorem fl_m1 (ks : List Kd) : onEnd ks false .must = (flOf ks).m1 := by
  unfold onEnd endsOf Fl.m1 flOf
  by_cases h : Kd.rev ∈ ks
  · rw [if_pos h, ← con_mem ks .rev, decide_eq_true h]
    show (decide (Kd.fm ∈ ks) || (decide (Kd.bm ∈ ks) || false)) = (ks.contains .fm || (true && ks.contains .bm))
    rw [con_mem, con_mem, Bool.or_false, Bool.true_and]
  · rw [if_neg h, ← con_mem ks .rev, decide_eq_false h]
    show (decide (Kd.fm ∈ ks) || false) = (ks.contains .fm || (false && ks.contains .bm))
    rw [con_mem, Bool.false_and, Bool.or_false]
theorem fl_n1 (ks : List Kd) : onEnd ks false .no = (flOf ks).n1 := by
  unfold onEnd endsOf Fl.n1 flOf
  by_cases h : Kd.rev ∈ ks
  · rw [if_pos h, ← con_mem ks .rev, decide_eq_true h]
    show (decide (Kd.fn ∈ ks) || (decide (Kd.bn ∈ ks) || false)) = (ks.contains .fn || (true && ks.contains .bn))
    rw [con_mem, con_mem, Bool.or_false, Bool.true_and]
  · rw [if_neg h, ← con_mem ks .rev, decide_eq_false h]
    show (decide (Kd.fn ∈ ks) || false) = (ks.contains .fn || (false && ks.contains .bn))
    rw [con_mem, Bool.false_and, Bool.or_false]
theorem fl_m2 (ks : List Kd) : onEnd ks true .must = (flOf ks).m2 := by
  unfold onEnd endsOf Fl.m2 flOf
  by_cases h : Kd.rev ∈ ks
  · rw [if_pos h, ← con_mem ks .rev, decide_eq_true h]
    show (decide (Kd.fm ∈ ks) || (decide (Kd.bm ∈ ks) || false)) = (ks.contains .bm || (true && ks.contains .fm))
    rw [con_mem, con_mem, Bool.or_false, Bool.true_and, Bool.or_comm]
  · rw [if_neg h, ← con_mem ks .rev, decide_eq_false h]
    show (decide (Kd.bm ∈ ks) || false) = (ks.contains .bm || (false && ks.contains .fm))
    rw [con_mem, Bool.false_and, Bool.or_false]
theorem fl_n2 (ks : List Kd) : onEnd ks true .no = (flOf ks).n2 := by
  unfold onEnd endsOf Fl.n2 flOf
  by_cases h : Kd.rev ∈ ks
  · rw [if_pos h, ← con_mem ks .rev, decide_eq_true h]
    show (decide (Kd.fn ∈ ks) || (decide (Kd.bn ∈ ks) || false)) = (ks.contains .bn || (true && ks.contains .fn))
    rw [con_mem, con_mem, Bool.or_false, Bool.true_and, Bool.or_comm]
  · rw [if_neg h, ← con_mem ks .rev, decide_eq_false h]
    show (decide (Kd.bn ∈ ks) || false) = (ks.contains .bn || (false && ks.contains .fn))
    rw [con_mem, Bool.false_and, Bool.or_false]
theorem hs_len (m n : Bool) : decide (((hs m n).map fun h => D.str h.s).length = (2 : Int)) = (m && n) := by cases m <;> cases n <;> rfl
theorem hs_pd (m n : Bool) : isPd (hD (hs m n)) = true := by cases m <;> cases n <;> rfl
theorem hs_sh (m n : Bool) : SeqAt.shaped (pd (hD (hs m n))) = true := by cases m <;> cases n <;> decide +kernel
theorem sh_must : SeqAt.shaped (pd (.lst [.str "must"])) = true := by decide +kernel
theorem sh_not : SeqAt.shaped (pd (.lst [.str "not"])) = true := by decide +kernel
theorem sh_nil : SeqAt.shaped (pd (.lst [])) = true := by decide +kernel
theorem hs_must (m n : Bool) : PyData.eqv (pd (hD (hs m n))) (pd (.lst [.str "must"])) = (m && !n) := by cases m <;> cases n <;> decide +kernel
theorem hs_not (m n : Bool) : PyData.eqv (pd (hD (hs m n))) (pd (.lst [.str "not"])) = (n && !m) := by cases m <;> cases n <;> decide +kernel
theorem hs_nil (m n : Bool) : (!PyData.eqv (pd (hD (hs m n))) (pd (.lst []))) = (m || n) := by cases m <;> cases n <;> decide +kernel
theorem hs_eq (m n m' n' : Bool) : PyData.eqv (pd (hD (hs m n))) (pd (hD (hs m' n'))) = (decide (m = m') && decide (n = n')) := by cases m <;> cases n <;> cases m' <;> cases n' <;> decide +kernel
theorem hs_cat (m n m' n' : Bool) : (!PyData.eqv (pd (.lst (((hs m n).map fun h => D.str h.s) ++ ((hs m' n').map fun h => D.str h.s)))) (pd (.lst []))) = (m || n || m' || n') := by cases m <;> cases n <;> cases m' <;> cases n' <;> decide +kernel
theorem hs_catpd (m n m' n' : Bool) : isPd (.lst (((hs m n).map fun h => D.str h.s) ++ ((hs m' n').map fun h => D.str h.s))) = true := by cases m <;> cases n <;> cases m' <;> cases n' <;> rfl
theorem hs_catsh (m n m' n' : Bool) : SeqAt.shaped (pd (.lst (((hs m n).map fun h => D.str h.s) ++ ((hs m' n').map fun h => D.str h.s)))) = true := by cases m <;> cases n <;> cases m' <;> cases n' <;> decide +kernel
theorem hs_short (m n : Bool) : ((hs m n).map fun h => D.str h.s).length ≤ 2 := by cases m <;> cases n <;> decide
abbrev FdSmO : List D → D → Prop := fun ds d => ∃ tp ks, ds = [kD tp (kds ks)] ∧ d = .lang (fmOf ks).lg
theorem df_smallest_of (T : Tp K mg) (F1 : Df P w K mg base C 1 "sorts_at" FdSorts) (M : MkL P w K mg base C 4) (h : Has K mg "smallest_of" s_smallest_of ["kinds"]) : Df P w K mg base C 6 "smallest_of" FdSmO := by
  refine df_mk h sc_smallest_of (fun ds d ⟨tp, ks, e, _⟩ => by rw [e] <;> rfl) fun f cdv A outer s H E ds d hr ⟨tp, ks, e, ed⟩ => ?_
  subst e ed
  have e1 := hows_hs ks false
  have e2 := hows_hs ks true
  rw [fl_m1, fl_n1] at e1
  rw [fl_m2, fl_n2] at e2
  have u : (cxOf CX0 P w K mg base n_smallest_of "smallest_of" (defScope s_smallest_of) f cdv A outer s H E).nox.A.units + 64 < cLine := room_un hr
  unfold fmOf
  have eh : (flOf ks).hard = (ks.contains .swap || (ks.contains .move || (ks.contains .am || ks.contains .an))) := by
    unfold Fl.hard flOf
    simp [Bool.or_assoc]
  have et : (flOf ks).turn = ks.contains .turn := rfl
  have er : (flOf ks).rev = ks.contains .rev := rfl
  generalize hfl : flOf ks = fl at e1 e2 eh et er
  refine s_cons (s_par 1 2 rfl sc_smallest_of.nd (a_cons (d_call F1 (hr.mono (by decide)) (a_cons (dv 0) (a_cons d_str a_nil)) ⟨tp, ks, false, rfl, rfl⟩) (a_cons (d_call F1 (hr.mono (by decide)) (a_cons (dv 0) (a_cons d_str a_nil)) ⟨tp, ks, true, rfl, rfl⟩) a_nil)) ?_)
  show PSsD _ _ _ [some (kD tp (kds ks)), some (hD (howsM ks false)), some (hD (howsM ks true))] _
  rw [e1, e2]
  refine s_cons (s_if (k := fl.hard) (t_of (PW.of0 (w_or (t_cmp op_in_seq d_str (dv 0) (rd_in false rfl (kds_flat ks) (kD_or tp))) fun _ => w_or (t_cmp op_in_seq d_str (dv 0) (rd_in false rfl (kds_flat ks) (kD_or tp))) fun _ => w_or (t_cmp op_in_seq d_str (dv 0) (rd_in false rfl (kds_flat ks) (kD_or tp))) fun _ => w_or1 (t_cmp op_in_seq d_str (dv 0) (rd_in false rfl (kds_flat ks) (kD_or tp)))) ?_))
    (fun k => s_one (s_ret (d_make M hr (F := .all) (a_cons d_str a_nil)) (by rw [show fl.form = .all from by unfold Fl.form; rw [if_pos k]]))) fun k1 => s_nil ?_)
  · rw [eh]
    show (inD (.str Kd.swap.s) (kds ks) || (inD (.str Kd.move.s) (kds ks) || (inD (.str Kd.am.s) (kds ks) || inD (.str Kd.an.s) (kds ks)))) = _
    rw [inD_con, inD_con, inD_con, inD_con]
  refine s_cons (s_if (k := (fl.m1 && fl.n1) || (fl.m2 && fl.n2) || (fl.turn && (fl.m1 || fl.n1 || fl.m2 || fl.n2))) (t_of (PW.of0 (w_or (t_cmp op_eq (d_callB call_len (T.b _) (a_cons (dv 1) a_nil) rc_lenL) d_int rd_eqI) fun _ => w_or (t_cmp op_eq (d_callB call_len (T.b _) (a_cons (dv 2) a_nil) rc_lenL) d_int rd_eqI) fun _ => w_or1 (t_of (w_and (l := fl.m1 || fl.n1 || fl.m2 || fl.n2) (t_cmp op_in_seq d_str (dv 0) (rd_in false rfl (kds_flat ks) (kD_or tp))) fun _ => w_and1 (PTD.of (t_cmp (op_neD u) (d_op op_cat (dv 1) (dv 2) (rd_cat ?_)) (d_lst a_nil (by decide)) (rd_neD (hs_catpd _ _ _ _) rfl (hs_catsh _ _ _ _) sh_nil)) (hs_cat _ _ _ _))))) ?_))
    (fun k => s_one (s_ret (d_make M hr (F := .all) (a_cons d_str a_nil)) (by rw [show fl.form = .all from by unfold Fl.form; rw [if_neg (by rw [k1]; exact Bool.false_ne_true), if_pos k]]))) fun k2 => s_nil ?_)
  · have h1 := hs_short fl.m1 fl.n1
    have h2 := hs_short fl.m2 fl.n2
    omega
  · rw [hs_len, hs_len, et]
    show (_ || (_ || (inD (.str Kd.turn.s) (kds ks) && _))) = _
    rw [inD_con]
    simp only [Bool.or_assoc]
  refine s_cons (s_if (k := fl.turn) (PTD.of (t_cmp op_in_seq d_str (dv 0) (rd_in false rfl (kds_flat ks) (kD_or tp))) (by rw [et]; exact inD_con .turn ks))
    (fun k => s_one (s_ret (d_make M hr (F := .p3) (a_cons d_str (a_cons d_str a_nil))) (by rw [show fl.form = .p3 from by unfold Fl.form; rw [if_neg (by rw [k1]; exact Bool.false_ne_true), if_neg (by rw [k2]; exact Bool.false_ne_true), if_pos k]]))) fun k3 => s_nil ?_)
  refine s_cons (s_if (k := (decide (fl.m1 = fl.m2) && decide (fl.n1 = fl.n2)) && (fl.m1 || fl.n1)) (t_of (w_and (l := fl.m1 || fl.n1) (PTD.of (t_cmp (op_eqD u) (dv 1) (dv 2) (rd_eqD (hs_pd _ _) (hs_pd _ _) (hs_sh _ _) (hs_sh _ _))) (hs_eq _ _ _ _)) fun _ => w_and1 (PTD.of (t_cmp (op_neD u) (dv 1) (d_lst a_nil (by decide)) (rd_neD (hs_pd _ _) rfl (hs_sh _ _) sh_nil)) (hs_nil _ _))))
    (fun k => s_one (s_ret (d_if (d := .lang fl.form.lg) (PTD.of (t_cmp (op_eqD u) (dv 1) (d_lst (a_cons d_str a_nil) (by decide)) (rd_eqD (hs_pd _ _) rfl (hs_sh _ _) sh_must)) (hs_must _ _)) (fun k' => PD.of (d_make M hr (F := .f101) (a_cons d_str a_nil)) ?_) fun k' => PD.of (d_make M hr (F := .f010) (a_cons d_str a_nil)) ?_) rfl)) fun k4 => s_nil ?_)
  · rw [Bool.and_eq_true, Bool.and_eq_true, decide_eq_true_eq, decide_eq_true_eq] at k
    rw [show fl.form = .f101 from by unfold Fl.form; rw [if_neg (by rw [k1]; exact Bool.false_ne_true), if_neg (by rw [k2]; exact Bool.false_ne_true), if_neg (by rw [k3]; exact Bool.false_ne_true), if_pos ⟨k.1.1, k.1.2, k.2⟩, if_pos k']]
  · rw [Bool.and_eq_true, Bool.and_eq_true, decide_eq_true_eq, decide_eq_true_eq] at k
    rw [show fl.form = .f010 from by unfold Fl.form; rw [if_neg (by rw [k1]; exact Bool.false_ne_true), if_neg (by rw [k2]; exact Bool.false_ne_true), if_neg (by rw [k3]; exact Bool.false_ne_true), if_pos ⟨k.1.1, k.1.2, k.2⟩, if_neg (by rw [k']; exact Bool.false_ne_true)]]
  have k4' : ¬ (fl.m1 = fl.m2 ∧ fl.n1 = fl.n2 ∧ (fl.m1 || fl.n1) = true) := fun z => by
    rw [decide_eq_true z.1, decide_eq_true z.2.1, z.2.2] at k4
    cases k4
  refine s_cons (s_if (k := fl.rev) (PTD.of (t_cmp op_in_seq d_str (dv 0) (rd_in false rfl (kds_flat ks) (kD_or tp))) (by rw [er]; exact inD_con .rev ks))
    (fun k => s_one (s_ret (d_make M hr (F := .p2) (a_cons d_str (a_cons d_str a_nil))) (by rw [show fl.form = .p2 from by unfold Fl.form; rw [if_neg (by rw [k1]; exact Bool.false_ne_true), if_neg (by rw [k2]; exact Bool.false_ne_true), if_neg (by rw [k3]; exact Bool.false_ne_true), if_neg k4', if_pos k]]))) fun k5 => s_nil ?_)
  refine s_one (s_ret (d_if (d := .lang fl.form.lg) (k := (fl.m1 && !fl.n1) || (fl.n2 && !fl.m2)) (t_of (w_or (PTD.of (t_cmp (op_eqD u) (dv 1) (d_lst (a_cons d_str a_nil) (by decide)) (rd_eqD (hs_pd _ _) rfl (hs_sh _ _) sh_must)) (hs_must _ _)) fun _ => w_or1 (PTD.of (t_cmp (op_eqD u) (dv 2) (d_lst (a_cons d_str a_nil) (by decide)) (rd_eqD (hs_pd _ _) rfl (hs_sh _ _) sh_not)) (hs_not _ _))))
    (fun k => PD.of (d_make M hr (F := .f10) (a_cons d_str a_nil)) ?_) fun k => PD.of (d_make M hr (F := .f01) (a_cons d_str a_nil)) ?_) rfl)
  · rw [show fl.form = .f10 from by unfold Fl.form; rw [if_neg (by rw [k1]; exact Bool.false_ne_true), if_neg (by rw [k2]; exact Bool.false_ne_true), if_neg (by rw [k3]; exact Bool.false_ne_true), if_neg k4', if_neg (by rw [k5]; exact Bool.false_ne_true), if_pos k]]
  · rw [show fl.form = .f01 from by unfold Fl.form; rw [if_neg (by rw [k1]; exact Bool.false_ne_true), if_neg (by rw [k2]; exact Bool.false_ne_true), if_neg (by rw [k3]; exact Bool.false_ne_true), if_neg k4', if_neg (by rw [k5]; exact Bool.false_ne_true), if_neg (by rw [k]; exact Bool.false_ne_true)]]
end
end Kp

namespace Kp
open PySem PySem.Spec PyProof.Rows L2
structure HasK (K : PySem.W.Frag) (mg : Str → Option Value) (x : Str) (st : Stmt) (ps ks : List Str) (n : Nat) (perm : List V → List V) : Prop where
  ex : ∃ (f : Addr) (fd : FuncData) (g : List Value → List Value → List Value) (gV : List V → List V → List V), Fun K x x st f fd ∧ mg x = some (.ref f) ∧ Binds K fd ps [] ∧ KBinds K fd ps ks g gV ∧ ∀ vs : List V, vs.length = n → gV [] vs = perm vs
section
variable {P : Program} {w : World} {K : PySem.W.Frag} {mg : Str → Option Value} {base : Heap} {C : Addr}
abbrev FdSm (Ck : Addr) : List D → Out → Prop := fun ds o => (∃ tp ks, ks.Nodup ∧ ds = [kD tp (kds ks)] ∧ o = if Kd.del ∈ ks then .ok (.lang (fmOf ks).lg) else .er Ck "index" (.int (ks.length : Int))) ∨ ∃ ks odd, ks.Nodup ∧ BadK ks odd ∧ ds = [.lst (kds ks ++ [odd])] ∧ o = .er Ck "index" (.int (ks.length : Int))
theorem dfe_smallest {Ck : Addr} (F1 : DfE P w K mg base C 4 "need_deletes" (FdND Ck)) (F2 : Df P w K mg base C 6 "smallest_of" FdSmO) (h : HasK K mg "smallest" s_smallest ["kinds"] ["kinds"] 1 (fun vs => vs)) : DfE P w K mg base C 7 "smallest" (FdSm Ck) ∧ DfK P w K mg base C 7 "smallest" ["kinds"] 1 (fun vs => vs) (FdSm Ck) := by
  obtain ⟨f, fd, g, gV, F0, hm, hb, hkb, hp⟩ := h.ex
  have F : FnOk P w K mg base (L2.CX P w) 7 f fd ["kinds"] (spE K C (FdSm Ck)) := fne F0 sc_smallest (fun ds o hf => by rcases hf with ⟨tp, ks, _, e, _⟩ | ⟨ks, odd, _, _, e, _⟩ <;> rw [e] <;> rfl) fun f cdv A outer s H E ds o hr hf tk po => by
    rcases hf with ⟨tp, ks, hn, e, eo⟩ | ⟨ks, odd, hn, hb, e, eo⟩
    · subst e eo
      by_cases hd : Kd.del ∈ ks
      · refine w_cons (w_expr (dw_call F1 tk (hr.mono (by decide)) (a_cons (dv 0) a_nil) (.inl ⟨tp, ks, hn, rfl, rfl⟩)) (fun d _ => ?_) fun Ce f d e => by rw [if_pos hd] at e; cases e)
        exact w_ofs (s_one (s_ret (d_call F2 hr (a_cons (dv 0) a_nil) ⟨tp, ks, rfl, rfl⟩) (by show (if Kd.del ∈ ks then _ else _) = _; rw [if_pos hd])))
      · exact w_cons (w_expr (dw_call F1 tk (hr.mono (by decide)) (a_cons (dv 0) a_nil) (.inl ⟨tp, ks, hn, rfl, rfl⟩)) (fun d e => by rw [if_neg hd] at e; cases e) fun Ce f d e => by rw [if_neg hd] at e ⊢; exact e)
    · subst e eo
      exact w_cons (w_expr (dw_call F1 tk (hr.mono (by decide)) (a_cons (dv 0) a_nil) (.inr ⟨ks, odd, hn, hb, rfl, rfl⟩)) (fun d e => by cases e) fun Ce f d e => e)
  exact ⟨⟨f, fd, ["kinds"], F, hm, F0.kp, hb⟩, ⟨f, fd, ["kinds"], g, gV, F, hm, F0.kp, hkb, hp⟩⟩
abbrev FdNe (Ck Cz : Addr) : List D → Out → Prop := fun ds o => ∃ tp ks x t, ks.Nodup ∧ ds = [kD tp (kds ks), x] ∧ tyD x = some t ∧ ((Kd.del ∉ ks ∧ o = .er Ck "index" (.int (ks.length : Int))) ∨ (Kd.del ∈ ks ∧ isPl x 61 = false ∧ o = .er Cz "number" x) ∨ (Kd.del ∈ ks ∧ ∃ n : Nat, n ≤ 60 ∧ x = .int n ∧ o = .ok (.int (manyM (fmOf ks) n))))
def swap2 : List V → List V
  | [a, b] => [b, a]
  | vs => vs
theorem dfe_needed {Ck Cz : Addr} (lc : LC K C) (F1 : DfE P w K mg base C 4 "need_deletes" (FdND Ck)) (F2 : Df P w K mg base C 6 "smallest_of" FdSmO) (F3 : DfE P w K mg base C 3 "need_size" (FdNeedSize Cz)) (F4 : DfM P w K mg base C 2 "many" FdMany) (h : HasK K mg "needed" s_needed ["kinds", "size"] ["size", "kinds"] 2 swap2) :
    DfE P w K mg base C 7 "needed" (FdNe Ck Cz) ∧ DfK P w K mg base C 7 "needed" ["size", "kinds"] 2 swap2 (FdNe Ck Cz) := by
  obtain ⟨f, fd, g, gV, F0, hm, hb, hkb, hp⟩ := h.ex
  have F : FnOk P w K mg base (L2.CX P w) 7 f fd ["kinds", "size"] (spE K C (FdNe Ck Cz)) := fne F0 sc_needed (fun ds o ⟨tp, ks, x, t, _, e, _⟩ => by rw [e] <;> rfl) fun f cdv A outer s H E ds o hr ⟨tp, ks, x, t, hn, e, ht, hc⟩ tk po => by
    subst e
    rcases hc with ⟨hd, eo⟩ | ⟨hd, hs, eo⟩ | ⟨hd, n, hn2, ex, eo⟩
    · subst eo
      exact w_cons (w_expr (dw_call F1 tk (hr.mono (by decide)) (a_cons (dv 0) a_nil) (.inl ⟨tp, ks, hn, rfl, rfl⟩)) (fun d e => by rw [if_neg hd] at e; cases e) fun Ce f d e => by rw [if_neg hd] at e; exact e)
    · subst eo
      refine w_cons (w_expr (dw_call F1 tk (hr.mono (by decide)) (a_cons (dv 0) a_nil) (.inl ⟨tp, ks, hn, rfl, rfl⟩)) (fun d _ => ?_) fun Ce f d e => by rw [if_pos hd] at e; cases e)
      exact w_cons (w_expr (dw_call F3 tk (hr.mono (by decide)) (a_cons (dv 1) a_nil) ⟨x, t, rfl, ht, rfl⟩) (fun d e => by rw [hs] at e; cases e) fun Ce f d e => by rw [hs] at e; exact e)
    · subst ex eo
      refine w_cons (w_expr (dw_call F1 tk (hr.mono (by decide)) (a_cons (dv 0) a_nil) (.inl ⟨tp, ks, hn, rfl, rfl⟩)) (fun d _ => ?_) fun Ce f d e => by rw [if_pos hd] at e; cases e)
      refine w_cons (w_expr (dw_call F3 tk (hr.mono (by decide)) (a_cons (dv 1) a_nil) ⟨_, t, rfl, ht, rfl⟩) (fun d _ => ?_) fun Ce f d e => by rw [isPl_nat hn2] at e; cases e)
      exact w_ofs (s_one (s_ret (d_meth lc F4 (hr.mono (by decide)) (d_call F2 hr (a_cons (dv 0) a_nil) ⟨tp, ks, rfl, rfl⟩) (a_cons (dv 1) a_nil) ⟨fmOf ks, n, rfl, by omega, rfl⟩) rfl))
  exact ⟨⟨f, fd, ["kinds", "size"], F, hm, F0.kp, hb⟩, ⟨f, fd, ["kinds", "size"], g, gV, F, hm, F0.kp, hkb, hp⟩⟩
/-! ### first_open -/
theorem has_one (u : List Bool) : decide (49 ∈ (sW u).cps.toList) = u.contains true := by
  rw [sW_cps, List.contains_eq_mem, Bool.eq_iff_iff, decide_eq_true_eq, decide_eq_true_eq, List.mem_map]
  constructor
  · rintro ⟨b, hb, e⟩
    cases b
    · exact absurd e (by decide)
    · exact hb
  · intro h
    exact ⟨true, h, rfl⟩
theorem many_small : ∀ F : Fm, (List.range 9).all (fun n => decide (0 ≤ manyM F n) && decide (manyM F n ≤ 1000)) = true
  | .all => by decide +kernel
  | .f01 => by decide +kernel
  | .f10 => by decide +kernel
  | .f010 => by decide +kernel
  | .f101 => by decide +kernel
  | .p3 => by decide +kernel
  | .p2 => by decide +kernel
theorem many_bnd (F : Fm) {n : Nat} (h : n < 9) : 0 ≤ manyM F n ∧ manyM F n ≤ 1000 := by
  have z := List.all_eq_true.mp (many_small F) n (List.mem_range.mpr h)
  rw [Bool.and_eq_true, decide_eq_true_eq, decide_eq_true_eq] at z
  exact z
theorem words_len {F : Fm} {n : Nat} {u : List Bool} (h : u ∈ wordsM F n) : u.length = n := by
  unfold wordsM at h
  obtain ⟨i, _, rfl⟩ := List.mem_map.mp h
  rw [madeM_len]
  simp
theorem stepsM_len (k : Kd) (n : Nat) : (stepsM k n).length ≤ n + 1 := by cases k <;> simp [stepsM]
theorem stepsM_ok {k : Kd} {n : Nat} {s : Stp} (h : s ∈ stepsM k n) : okL n s := by
  cases k <;> simp only [stepsM, List.mem_map, List.mem_range, List.mem_singleton, List.not_mem_nil] at h
  · obtain ⟨i, hi, rfl⟩ := h
    exact hi
  · subst h
    exact True.intro
  · obtain ⟨i, hi, rfl⟩ := h
    show i ≤ n
    omega
  · subst h
    exact Nat.zero_le _
  · subst h
    exact Nat.zero_le _
  · subst h
    exact Nat.zero_le _
  · subst h
    exact Nat.le_refl _
  · subst h
    exact Nat.le_refl _
  · subst h
    exact Nat.le_refl _
  · obtain ⟨i, hi, rfl⟩ := h
    show i ≤ n
    omega
  · obtain ⟨i, hi, rfl⟩ := h
    show i ≤ n
    omega
  · obtain ⟨i, hi, rfl⟩ := h
    show i ≤ n
    omega
theorem rd_isin1 (u : List Bool) {X : Cx} {γ : DSt} {a b : Expr} {pos : Pos} (ha : PD C X a γ (.str "1")) (hb : PD C X b γ (.str (sW u))) (hm : behindInMarks .In b = false := by first | exact nomark _ | rfl) : PTD C X (.Compare a [.In] [b] pos) γ (u.contains true) :=
  PTD.of (t_cmp op_in_sign (PD.of ha (z := .str ⟨#[49]⟩) (by rfl)) hb rd_inS hm) (has_one u)
abbrev FdFO : List D → D → Prop := fun ds d => ∃ F tp ks, ds = [.lang (Fm.lg F), kD tp (kds ks)] ∧ ks.length ≤ 90 ∧ (F ≠ .all → ∀ k ∈ ks, F.bears k = true) ∧ d = .non
theorem bears_nosw {F : Fm} (h : F ≠ .all) {k : Kd} (hk : F.bears k = true) : k ≠ .swap ∧ k ≠ .move := by
  constructor <;> (intro e; subst e; cases F <;> first | (exact absurd rfl h) | (exact absurd hk (by decide)))
theorem df_first_open (T : Tp K mg) (lc : LC K C) (F1 : DfM P w K mg base C 3 "__contains__" FdLets) (F2 : Df P w K mg base C 2 "steps_of" FdSteps) (W : GW P w K mg base C 5) (F3 : Df P w K mg base C 3 "leads_out" FdLeads) (h : Has K mg "first_open" s_first_open ["language", "kinds"]) : Df P w K mg base C 9 "first_open" FdFO := by
  refine df_mk h sc_first_open (fun ds d ⟨F, tp, ks, e, _⟩ => by rw [e] <;> rfl) fun f cdv A outer s H E ds d hr ⟨F, tp, ks, e, hl, hb, ed⟩ => ?_
  subst e ed
  refine s_cons (s_if (t_val (d_isall lc (dv 0))) (fun _ => s_one (s_ret d_non rfl)) fun ha => s_nil ?_)
  have hF : F ≠ .all := any_all ha
  have hp := rn_pos F
  have hb' := hb hF
  refine s_cons (s_if (k := false) (PTD.of (t_notin F1 (hr.mono (by decide)) (PD.of d_str (congrArg D.str str1)) (dv 0) ⟨F, [true], rfl, by decide, rfl⟩) (by cases F <;> first | (exact absurd rfl hF) | rfl)) (fun k => by cases k) fun _ => s_nil ?_)
  refine s_cons (s_for PassesOwn.never rfl (PID.of (i_range1 (T.b _) (a_cons (d_op op_add (d_runs lc (dv 0)) (T.runs rfl rfl) rd_add) a_nil) ?_ ?_) (rg0 _)) (g_name 2 sc_first_open.nd) (fun i γ => ∃ o2 o3 o4 o5 o6, γ = [some (.lang F.lg), some (kD tp (kds ks)), o2, o3, o4, o5, o6]) ⟨_, _, _, _, _, rfl⟩ ?_ ?_)
  · show (0 : Int) ≤ (F.rn : Int) + 5
    omega
  · show (F.rn : Int) + 5 ≤ 100000
    omega
  · rintro i d γ' hi ⟨o2, o3, o4, o5, o6, rfl⟩
    obtain ⟨hlt, e⟩ := range_at hi
    subst e
    have hlt' : i < F.rn + 5 := by
      have : ((F.rn : Int) + 5).toNat = F.rn + 5 := by omega
      exact this ▸ hlt
    refine ⟨_, rfl, s_cons (s_setLc2 3 "kind" "step" 4 5 ks (fun k => stepsM k i) (fun k => .str k.s) Stp.d (fun _ st => st.d) rfl sc_first_open.nd ?_ (blkOk_by (N := n_first_open) (sc := defScope s_first_open) (by decide +kernel)) (fun k hk s H Ca cl fp => i_list (d_call F2 (hr.mono (by decide)) (a_cons (dv 4) (a_cons (dv 2) a_nil)) ⟨k, i, rfl, (bears_nosw hF (hb' k hk)).1, (bears_nosw hF (hb' k hk)).2, by omega, rfl⟩))
      (fun k hk st hst s H Ca cl fp => dv 5) (by omega) (fun k hk => by have := stepsM_len k i; omega) ?_ rfl)⟩
    · cases tp
      · exact i_list (dv 1)
      · exact i_tup (dv 1)
    · have hbn := many_bnd F (n := i) (by omega)
      refine s_one (s_for PassesOwn.never rfl (i_list (d_words lc W hr (T.b _) (dv 0) (dv 2) (by omega) hbn.1 hbn.2)) (g_name 6 sc_first_open.nd) (fun j γ => ∃ o4 o5 o6, γ = [some (.lang F.lg), some (kD tp (kds ks)), some (.int (i : Int)), some (.lst (ks.flatMap fun k => (stepsM k i).map Stp.d)), o4, o5, o6]) ⟨_, _, _, rfl⟩ ?_ fun γ' ⟨o4, o5, o6, e⟩ => ⟨_, _, _, _, _, e⟩)
      rintro j d γ' hj ⟨o4, o5, o6, rfl⟩
      rw [List.getElem?_map, Option.map_eq_some_iff] at hj
      obtain ⟨u, hu, rfl⟩ := hj
      have hmu : u ∈ wordsM F i := List.mem_of_getElem? hu
      have hlu := words_len hmu
      refine ⟨_, rfl, s_one (s_for PassesOwn.never rfl (i_list (d_op op_cat (d_if (d := .lst (if u.contains true then [Stp.next.d] else [])) (rd_isin1 u d_str (dv 6)) (fun c => PD.of (d_lst (a_cons (d_tup (a_cons d_str a_nil) (by show 1 ≤ 1000; decide)) a_nil) (by show 1 ≤ 1000; decide)) (by rw [if_pos c]; rfl)) fun c => PD.of (d_lst a_nil (by decide)) (by rw [if_neg (by rw [c]; exact Bool.false_ne_true)])) (dv 3) (rd_cat ?_))) (g_name 5 sc_first_open.nd)
        (fun q γ => ∃ o4 o5, γ = [some (.lang F.lg), some (kD tp (kds ks)), some (.int (i : Int)), some (.lst (ks.flatMap fun k => (stepsM k i).map Stp.d)), o4, o5, some (.str (sW u))]) ⟨_, _, rfl⟩ ?_ fun γ' ⟨o4, o5, e⟩ => ⟨_, _, _, e⟩)⟩
      · have h1 := flat_len (f := fun k => (stepsM k i).map Stp.d) (l := ks) fun k hk => by rw [List.length_map]; have := stepsM_len k i; omega
        have h2 : (if u.contains true then [Stp.next.d] else []).length ≤ 1 := by split <;> simp
        omega
      · rintro q d γ' hq ⟨o4, o5, rfl⟩
        obtain ⟨st, ed, hst⟩ : ∃ st : Stp, d = st.d ∧ okL u.length st ∧ (ledM u st).any (letsB F) = true := by
          have hmem := List.mem_of_getElem? hq
          rcases List.mem_append.mp hmem with z | z
          · by_cases hc : u.contains true = true
            · rw [if_pos hc] at z
              have e := List.mem_singleton.mp z
              subst e
              have kd0 : F.bears .del = true := by cases F <;> rfl
              exact ⟨.next, rfl, True.intro, (open_fact hF hlt' kd0 hmu).1 hc⟩
            · rw [if_neg hc] at z
              cases z
          · obtain ⟨k, hk, z2⟩ := List.mem_flatMap.mp z
            obtain ⟨st, hst, rfl⟩ := List.mem_map.mp z2
            exact ⟨st, rfl, by rw [hlu]; exact stepsM_ok hst, (open_fact hF hlt' (hb' k hk) hmu).2 st hst⟩
        subst ed
        exact ⟨_, rfl, s_one (s_if (k := false) (PTD.of (t_val (d_call F3 (hr.mono (by decide)) (a_cons (dv 0) (a_cons (dv 6) (a_cons (dv 5) a_nil))) ⟨F, u, st, rfl, by omega, hst.1, rfl⟩)) (by rw [hst.2]; rfl)) (fun k => by cases k) fun _ => s_nil ⟨_, _, rfl⟩)⟩
  · rintro γ' ⟨o2, o3, o4, o5, o6, rfl⟩
    exact s_one (s_ret d_non rfl)
theorem df_open_at {Ck : Addr} (F1 : DfE P w K mg base C 3 "need_kinds" (FdNK Ck)) (F2 : Df P w K mg base C 9 "first_open" FdFO) (h : Has K mg "open_at" s_open_at ["language", "kinds"]) :
    Df P w K mg base C 10 "open_at" (fun ds d => ∃ F tp ks, ds = [.lang (Fm.lg F), kD tp (kds ks)] ∧ ks.Nodup ∧ ks.length ≤ 90 ∧ (F ≠ .all → ∀ k ∈ ks, F.bears k = true) ∧ d = .non) := by
  refine df_mk h sc_open_at (fun ds d ⟨F, tp, ks, e, _⟩ => by rw [e] <;> rfl) fun f cdv A outer s H E ds d hr ⟨F, tp, ks, e, hn, hl, hb, ed⟩ => ?_
  subst e ed
  exact s_cons (s_expr (d_callE F1 (hr.mono (by decide)) (a_cons (dv 1) a_nil) (.inl ⟨tp, ks, hn, rfl, rfl⟩)) (s_one (s_ret (d_call F2 hr (a_cons (dv 0) (a_cons (dv 1) a_nil)) ⟨F, tp, ks, rfl, hl, hb, rfl⟩) rfl)))
end
end Kp

namespace Kp
open PySem PySem.Spec PyProof.Rows L2
section
variable {P : Program} {w : World} {K : PySem.W.Frag} {mg : Str → Option Value} {base : Heap} {C : Addr}
theorem rc_sortedT {xs ys : List Str} (h : ∀ zs : List Str, zs.Perm xs → sortedS zs = true → zs = ys) : RCD K C (rSortedT K) [.lst (xs.map .str)] (.lst (ys.map .str)) := fun G H vs s a Q k => by
  obtain ⟨v, r, rfl, h1, h2⟩ := a.inv
  rw [h2.inv0]
  obtain ⟨p, us, rfl, g, r1⟩ := h1.lst'
  have e := r1.strs
  subst e
  exact ⟨p, xs, rfl, SqL.of (s _ _ g), fun zs q h1 h2 hq => by rw [h zs h1 h2]; exact k _ _ _ (Nx.new s hq) (At.lst upd_same AtL.of_strs)⟩
theorem genM_sz : ∀ n, (genM n).length = 2 ^ n
  | 0 => rfl
  | n + 1 => by
    simp only [genM, List.length_append, List.length_map, genM_sz n]
    omega
abbrev wD (l : List (List Bool)) : D := .lst (l.map fun u => .str (sW u))
theorem addW {u v : List Bool} {t : Str} (ht : t = sW v) : D.str (sW u ++ t) = .str (sW (u ++ v)) := by rw [ht, sW_app]
theorem pow_small {n : Nat} (h : n ≤ 7) : 2 ^ n ≤ 128 := Nat.le_trans (Nat.pow_le_pow_right (by decide) h) (by decide)
theorem df_L_all_words (T : Tp K mg) (h : Has K mg "_law_all_words" s_L_all_words ["_law_many_here"]) : Df P w K mg base C 1 "_law_all_words" (fun ds d => ∃ n : Nat, ds = [.int n] ∧ n ≤ 7 ∧ d = wD (isB (genM n))) := by
  refine df_mk h sc_L_all_words (fun ds d ⟨n, e, _⟩ => by rw [e] <;> rfl) fun f cdv A outer s H E ds d hr ⟨n, e, hn, ed⟩ => ?_
  subst e ed
  refine s_cons (s_set 1 sc_L_all_words.nd (d_lst (a_cons d_str a_nil) (by decide)) (s_cons (s_for PassesOwn.never rfl (PID.of (i_range1 (T.b _) (a_cons (dv 0) a_nil) (by omega) (by omega)) (rg0 _)) (g_name 2 sc_L_all_words.nd) (fun i γ => ∃ o2 o3, i ≤ n ∧ γ = [some (.int n), some (wD (genM i)), o2, o3]) ⟨_, _, Nat.zero_le _, by rw [show wD (genM 0) = .lst [.str ""] from by rw [sW_none]; rfl]; rfl⟩ ?_ ?_)))
  · rintro i d γ' hi ⟨o2, o3, hle, rfl⟩
    obtain ⟨hlt, e⟩ := range_at hi
    subst e
    rw [Int.toNat_natCast] at hlt
    have hz : ∀ u ∈ genM i, (sW u).length + ("0" : Str).length ≤ 10000 ∧ (sW u).length + ("1" : Str).length ≤ 10000 := fun u hu => by
      rw [str0, str1, sW_len, sW_len, sW_len, genM_len i u hu]
      simp
      omega
    have hg : (genM i).length ≤ 128 := by
      rw [genM_sz]
      exact pow_small (by omega)
    refine ⟨_, rfl, s_one (s_set 1 sc_L_all_words.nd (PD.of (d_op op_cat (d_lc0 "_law_page" 3 (genM i) (fun u => .str (sW u)) (fun u => .str (sW (u ++ [false]))) rfl sc_L_all_words.nd (i_list (dv 1)) (blkOk_by (N := n_L_all_words) (sc := defScope s_L_all_words) (by decide +kernel)) (fun u hu s H Ca cl fp => PD.of (d_op op_add_str (dv 3) d_str (rd_addS (hz u hu).1)) (addW str0)) (by omega))
      (d_lc0 "_law_page" 3 (genM i) (fun u => .str (sW u)) (fun u => .str (sW (u ++ [true]))) rfl sc_L_all_words.nd (i_list (dv 1)) (blkOk_by (N := n_L_all_words) (sc := defScope s_L_all_words) (by decide +kernel)) (fun u hu s H Ca cl fp => PD.of (d_op op_add_str (dv 3) d_str (rd_addS (hz u hu).2)) (addW str1)) (by omega)) (rd_cat ?_)) (z := wD (genM (i + 1))) ?_) ⟨_, _, by omega, rfl⟩)⟩
    · rw [List.length_map, List.length_map]
      omega
    · show D.lst _ = D.lst (((genM i).map (· ++ [false]) ++ (genM i).map (· ++ [true])).map fun u => .str (sW u))
      rw [List.map_append, List.map_map, List.map_map]
      rfl
  · rintro γ' ⟨o2, o3, hle, rfl⟩
    rw [List.length_map, List.length_range, Int.toNat_natCast]
    refine s_one (s_ret (PD.of (d_callB cr_sortedT (T.b _) (a_cons (PD.of (dv 1) (z := .lst (((genM n).map sW).map .str)) ?_) a_nil) (rc_sortedT (ys := (isB (genM n)).map sW) fun zs h1 h2 => sorted_words h1 h2)) (z := wD (isB (genM n))) ?_) rfl)
    · rw [List.map_map]
      rfl
    · rw [List.map_map]
      rfl
end
end Kp

namespace Kp
open PySem PySem.Spec PyProof.Rows L2
theorem sg_word (p : List Bool) : sgD (sW p) = p.map fun b => .str ⟨#[cB b]⟩ := by
  unfold sgD
  rw [sW_cps, List.map_map]
  rfl
theorem cps_at {f : List Bool} {i : Nat} (h : i < f.length) : (sW f).cps.toList[i]? = some (cB f[i]) := by
  rw [sW_cps, List.getElem?_map, List.getElem?_eq_getElem h]
  rfl
def goOn (f : List Bool) (b : Bool) (γ : DSt) : Bool := match γ[2]? with
  | some (some (D.int j)) => decide (j.toNat < f.length) && (f.getD j.toNat false != b)
  | _ => false
theorem fits_cons (f r : List Bool) (x : Bool) : fitsB f (x :: r) = match f.dropWhile (· != x) with
    | [] => false
    | y :: t => fitsB (y :: t) r := by
  rw [fitsB] <;> cases f.dropWhile (· != x) <;> rfl
theorem drop_at {f : List Bool} {i : Nat} (h : i < f.length) : f.drop i = f[i] :: f.drop (i + 1) := List.drop_eq_getElem_cons h
section
variable {P : Program} {w : World} {K : PySem.W.Frag} {mg : Str → Option Value} {base : Heap} {C : Addr}
abbrev FdFits : List D → D → Prop := fun ds d => ∃ f p : List Bool, ds = [.str (sW f), .str (sW p)] ∧ f.length ≤ 100 ∧ p.length ≤ 100 ∧ d = .bl (fitsB f p)
theorem df_L_fits (T : Tp K mg) (h : Has K mg "_law_fits" s_L_fits ["_law_form", "_law_page"]) : Df P w K mg base C 1 "_law_fits" FdFits := by
  refine df_mk h sc_L_fits (fun ds d ⟨f, p, e, _⟩ => by rw [e] <;> rfl) fun fa cdv A outer s H E ds d hr ⟨f, p, e, hf, hp, ed⟩ => ?_
  subst e ed
  refine s_cons (s_set 2 sc_L_fits.nd d_int (s_cons (s_for PassesOwn.never rfl (PID.of (i_str (dv 1)) (sg_word p)) (g_name 3 sc_L_fits.nd) (fun i γ => ∃ (spot : Nat) (o3 : Option D), spot ≤ f.length ∧ fitsB (f.drop spot) (p.drop i) = fitsB f p ∧ γ = [some (.str (sW f)), some (.str (sW p)), some (.int (spot : Int)), o3]) ⟨0, _, Nat.zero_le _, rfl, rfl⟩ ?_ ?_)))
  · rintro i d γ' hi ⟨spot, o3, hs, hfit, rfl⟩
    rw [List.getElem?_map, Option.map_eq_some_iff] at hi
    obtain ⟨b, hb, rfl⟩ := hi
    obtain ⟨hip, hbe⟩ := List.getElem?_eq_some_iff.mp hb
    have hpd : p.drop i = b :: p.drop (i + 1) := by rw [List.drop_eq_getElem_cons hip, hbe]
    refine ⟨_, rfl, s_cons (s_while PassesOwn.never (fun m γ => ∃ spot' : Nat, spot' ≤ f.length ∧ m = f.length - spot' ∧ (f.drop spot').dropWhile (· != b) = (f.drop spot).dropWhile (· != b) ∧ γ = [some (.str (sW f)), some (.str (sW p)), some (.int (spot' : Int)), some (.str ⟨#[cB b]⟩)]) (f.length - spot) ⟨spot, hs, rfl, rfl, rfl⟩ (goOn f b) ?_ ?_ ?_)⟩
    · rintro m γ' ⟨spot', hs', rfl, hd, rfl⟩
      refine PTD.of (t_of (w_and (k := decide (spot' < f.length)) (l := f.getD spot' false != b) (PTD.of (t_cmp op_lt (dv 2) (d_callB call_len (T.b _) (a_cons (dv 0) a_nil) (rc_lenS ?_)) rd_lt) ?_) fun hk => w_and1 ?_)) ?_
      · rw [sW_len]
        omega
      · rw [sW_len, Bool.eq_iff_iff, decide_eq_true_eq, decide_eq_true_eq]
        omega
      · have hlt := of_decide_eq_true hk
        refine PTD.of (t_cmp op_ne (d_ix ix_str (dv 0) (dv 2) (rd_ixS (i := spot') (c := cB f[spot']) ?_ (cps_at hlt))) (dv 3) rd_neS) ?_
        · rw [sW_len]
          omega
        · rw [one_eq]
          have : f.getD spot' false = f[spot'] := by simp [List.getD, List.getElem?_eq_getElem hlt]
          rw [this]
          cases f[spot'] <;> cases b <;> rfl
      · show _ = (decide ((spot' : Int).toNat < f.length) && (f.getD (spot' : Int).toNat false != b))
        rw [Int.toNat_natCast]
    · rintro m γ' ⟨spot', hs', rfl, hd, rfl⟩ hgo
      have hgo' : (decide ((spot' : Int).toNat < f.length) && (f.getD (spot' : Int).toNat false != b)) = true := hgo
      rw [Int.toNat_natCast, Bool.and_eq_true, decide_eq_true_eq] at hgo'
      have hlt := hgo'.1
      refine s_one (s_set 2 sc_L_fits.nd (PD.of (d_op op_add (dv 2) d_int rd_add) (z := .int ((spot' + 1 : Nat) : Int)) (congrArg D.int (by omega))) ⟨f.length - (spot' + 1), by omega, spot' + 1, by omega, rfl, ?_, rfl⟩)
      rw [← hd, drop_at hlt]
      have e1 : f.getD spot' false = f[spot'] := by simp [List.getD, List.getElem?_eq_getElem hlt]
      rw [e1] at hgo'
      rw [List.dropWhile_cons, if_pos hgo'.2]
    · rintro m γ' ⟨spot', hs', rfl, hd, rfl⟩ hgo
      have hgo' : (decide ((spot' : Int).toNat < f.length) && (f.getD (spot' : Int).toNat false != b)) = false := hgo
      rw [Int.toNat_natCast] at hgo'
      refine s_one (s_if (k := decide (spot' = f.length)) (PTD.of (t_cmp op_eq (dv 2) (d_callB call_len (T.b _) (a_cons (dv 0) a_nil) (rc_lenS ?_)) rd_eqI) ?_) (fun hk => ?_) fun hk => s_nil ⟨spot', _, hs', ?_, rfl⟩)
      · rw [sW_len]
        omega
      · rw [sW_len, Bool.eq_iff_iff, decide_eq_true_eq, decide_eq_true_eq]
        omega
      · have he := of_decide_eq_true hk
        refine s_one (s_ret d_bl ?_)
        rw [← hfit, hpd, fits_cons, ← hd, he, List.drop_length]
        rfl
      · have he := of_decide_eq_false hk
        have hlt : spot' < f.length := by omega
        rw [decide_eq_true hlt, Bool.true_and] at hgo'
        have e1 : f.getD spot' false = f[spot'] := by simp [List.getD, List.getElem?_eq_getElem hlt]
        rw [e1] at hgo'
        have e2 : (f.drop spot').dropWhile (· != b) = f.drop spot' := by
          rw [drop_at hlt, List.dropWhile_cons, if_neg (by rw [hgo']; exact Bool.false_ne_true)]
        rw [← hfit, hpd, fits_cons, ← hd, e2, drop_at hlt]
  · rintro γ' ⟨spot, o3, hs, hfit, rfl⟩
    rw [List.length_map] at hfit
    refine s_one (s_ret d_bl ?_)
    rw [← hfit, List.drop_length]
    have : ∀ l, fitsB l [] = true := fun l => by cases l <;> rfl
    rw [this]
/-! ### has -/
abbrev fmD (F : Fm) : D := .tup (F.ts.map .str)
abbrev FdHas : List D → D → Prop := fun ds d => ∃ (F : Fm) (p : List Bool), ds = [fmD F, .str (sW p)] ∧ p.length ≤ 100 ∧ d = .bl (hasM F p)
theorem ws_short (F : Fm) : ∀ f ∈ F.ws, f.length ≤ 3 := by cases F <;> decide
theorem ts_ws {F : Fm} (h : F ≠ .all) : F.ts.map D.str = F.ws.map fun f => .str (sW f) := by
  cases F <;> first | (exact absurd rfl h) | rfl
theorem some_eqv : ∀ l : List Str, (!PyData.eqv (pd (.lst (l.map .str))) (pd (.lst []))) = !l.isEmpty
  | [] => by decide +kernel
  | x :: l => by
    show (!PyData.eqv (.list (.str x :: pdL (l.map .str))) (.list [])) = !(x :: l).isEmpty
    rw [PyData.eqv]
    rfl
end
end Kp

/-! # text[::-1] -/
namespace L2
open PySem PySem.Spec PyProof.Rows
def revS (z : Str) : Str := ⟨z.cps.toList.reverse.toArray⟩
theorem slice_rev (x : Str) (u : Tok) : Txt.sliceBy x none none (-1, u) = revS x := by
  have h := step_rev_list x u
  have e : x.cps.toList.reverse = (List.range x.length).map fun k => x.cps.getD (x.length - 1 - k) 0 := by
    apply List.ext_getElem?
    intro i
    have hl : x.cps.toList.length = x.length := by
      show x.cps.toList.length = x.cps.size
      simp
    rw [List.getElem?_map]
    by_cases hi : i < x.length
    · rw [List.getElem?_reverse (by omega), List.getElem?_range hi, hl]
      have h2 : x.length - 1 - i < x.cps.toList.length := by omega
      rw [List.getElem?_eq_getElem h2]
      simp [Array.getD]
      have h3 : x.length - 1 - i < x.cps.size := by
        show x.length - 1 - i < x.length
        omega
      intro h4
      omega
    · rw [List.getElem?_eq_none (by rw [List.length_reverse]; omega), List.getElem?_eq_none (by rw [List.length_range]; omega)]
      rfl
  unfold revS
  rw [e, ← h]
def tRevS (te : TE) : TE := fun σ H Q => te σ H fun x H1 => ∃ z, x = .str z ∧ z.length ≤ 1000 ∧ Q (.str (revS z)) H1
section
variable {X : Cx}
theorem pe_revS {e : Expr} {te : TE} {k : Nat} {p1 p2 p3 pos : Pos} (he : PE X e te) : PE X (.Subscript e (.Slice none none (some (.UnaryOp .USub (.Constant (.int 1) k p1) p2)) p3) pos) (tRevS te) := by
  refine ⟨fun pins s σ H Q I h => ?_⟩
  refine Subscript_ (thn (he.run pins s σ H _ I h) fun v s1 ⟨x, H1, I1, r1, q1⟩ => ?_)
  obtain ⟨z, ex, hz, q⟩ := q1
  subst ex
  obtain ⟨t, rfl⟩ := r1
  have hst : PO X (some (.UnaryOp .USub (.Constant (.int 1) k p1) p2)) (tPart (tUn (rU fun i => .int (-i)) (tC (.int 1)))) := po_some (pe_un un_neg pe_int)
  refine wpAny_Slice (thn (po_none.run pins s1 σ H1 (fun o H2 => o = none ∧ H2 = H1) I1 ⟨rfl, rfl⟩) fun vl s2 ⟨l, H2, I2, pl, el, e2⟩ => ?_)
  subst el e2
  refine thn (po_none.run pins s2 σ H2 (fun o H3 => o = none ∧ H3 = H2) I2 ⟨rfl, rfl⟩) fun vu s3 ⟨u, H3, I3, pu, eu, e3⟩ => ?_
  subst eu e3
  refine thn (hst.run pins s3 σ H3 (fun o H4 => o = some (-1) ∧ H4 = H3) I3 ⟨1, rfl, -1, rfl, rfl, rfl⟩) fun vs s4 ⟨o, H4, I4, ps, eo, e4⟩ => ?_
  subst eo e4
  obtain ⟨l, rfl, el⟩ := IsPart.raw pl
  obtain ⟨u, rfl, eu⟩ := IsPart.raw pu
  obtain ⟨o, rfl, eo⟩ := IsPart.raw ps
  have I5 : ∀ (tk : Nat) (vl vu vs : Value), Inv X pins σ H4 { s4 with heap := s4.heap.push { cls := .type "slice", data := .fields #[vl, vu, vs] }, toks := tk } := fun tk vl vu vs => I4.kept (t' := tk) fun b ob q => Heap.get?_push_of_some _ q
  cases l with
  | some l => cases el
  | none =>
    cases u with
    | some u => cases eu
    | none =>
      cases o with
      | none => cases eo
      | some o =>
        obtain ⟨o1, uk⟩ := o
        have e1 : o1 = -1 := Option.some.inj eo
        subst e1
        refine tail_any (typeIs_str _ _ _) F.slot_str_getitem.lookup (wpAny_getItem_str_slice (l := none) (u := none) (st := some (-1, uk)) ⟨_, Heap.get?_push_size _ rfl, rfl, rfl⟩ rfl
          (post_val_or_str ⟨Nat.le_trans (Txt.sliceBy_le z _ _ (-1, uk) (by show (-1 : Int) ≠ 0; decide)) (Nat.le_trans hz (by decide)), fun t' c => ?_⟩)) (by with_unfolding_all rfl)
        exact ⟨.str (revS z), H4, I5 c _ _ _, ⟨t', congrArg (fun y => Value.str y t') (slice_rev z uk)⟩, q⟩
end
end L2
namespace Kp
open PySem PySem.Spec PyProof.Rows L2
theorem d_revS {C : Addr} {X : Cx} {e : Expr} {γ : DSt} {t : Str} {k : Nat} {p1 p2 p3 pos : Pos} (he : PD C X e γ (.str t)) (hl : t.length ≤ 1000) : PD C X (.Subscript e (.Slice Option.none Option.none (some (.UnaryOp .USub (.Constant (.int 1) k p1) p2)) p3) pos) γ (.str (revS t)) :=
  PE.weak (pe_revS he) fun σ H Q ⟨G, s, sl, q⟩ => ⟨G, s, sl, fun v G1 H1 n1 a1 => ⟨t, a1.str', hl, q _ G1 H1 n1 (At.str _)⟩⟩
end Kp

namespace Kp
open PySem PySem.Spec PyProof.Rows L2
theorem ws_shaped (F : Fm) (q : List Bool → Bool) : SeqAt.shaped (pd (.lst (((F.ws.filter q).map sW).map .str))) = true := by
  cases F <;> simp only [Fm.ws, List.filter_cons, List.filter_nil] <;> (repeat' split) <;> decide +kernel
theorem any_filter {α : Type} (l : List α) (q : α → Bool) : (!(l.filter q).isEmpty) = l.any q := by
  induction l with
  | nil => rfl
  | cons a l ih =>
    rw [List.filter_cons, List.any_cons]
    cases h : q a with
    | true => rfl
    | false =>
      rw [Bool.false_or, ← ih]
      rfl
theorem isEmpty_map' {α β : Type} (l : List α) (g : α → β) : (l.map g).isEmpty = l.isEmpty := by cases l <;> rfl
theorem rev_word (u : List Bool) : revS (sW u) = sW u.reverse := by
  unfold revS
  rw [sW_cps, ← List.map_reverse]
  rfl
section
variable {P : Program} {w : World} {K : PySem.W.Frag} {mg : Str → Option Value} {base : Heap} {C : Addr}
theorem df_L_has (T : Tp K mg) (F1 : Df P w K mg base C 1 "_law_fits" FdFits) (h : Has K mg "_law_has" s_L_has ["_law_forms_here", "_law_page"]) : Df P w K mg base C 2 "_law_has" FdHas := by
  refine df_mk h sc_L_has (fun ds d ⟨F, p, e, _⟩ => by rw [e] <;> rfl) fun f cdv A outer s H E ds d hr ⟨F, p, e, hp, ed⟩ => ?_
  subst e ed
  refine s_one (s_ret (PD.of (d_or (k := F.lg.all) (l := F.ws.any fun f => fitsB f p) (PD.of (d_cmp op_in_seq d_str (dv 0) (rd_in false rfl (flat_strs _) (.inr rfl))) (congrArg D.bl (ts_all F))) fun ha => d_one (PD.of (d_cmp (op_neD (room_un hr)) (PD.of (d_lc1 "_law_form" 2 F.ws (fun f => .str (sW f)) (fun f => fitsB f p) (fun f => .str (sW f)) rfl sc_L_has.nd (PID.of (i_tup (dv 0)) (ts_ws (any_all ha))) (blkOk_by (N := n_L_has) (sc := defScope s_L_has) (by decide +kernel))
    (fun q hq s H Ca cl fp => ts_one (t_val (d_call F1 hr (a_cons (dv 2) (a_cons (dv 1) a_nil)) ⟨q, p, rfl, ?_, hp, rfl⟩))) (fun q hq _ s H Ca cl fp => dv 2) ?_) (z := .lst (((F.ws.filter fun f => fitsB f p).map sW).map .str)) ?_) (d_lst a_nil (by decide)) (rd_neD (isPd_strs _) rfl (ws_shaped F _) sh_nil)) ?_)) ?_) rfl)
  · have := ws_short F q hq
    omega
  · have : F.ws.length ≤ 2 := by cases F <;> decide
    omega
  · rw [List.map_map]
    rfl
  · rw [some_eqv, isEmpty_map', any_filter]
  · rfl
abbrev FdLet : List D → D → Prop := fun ds d => ∃ h : How, ds = [.str h.s] ∧ d = .lst (h.ls.map fun b => .str (sW [b]))
theorem df_L_letters (h : Has K mg "_law_letters" s_L_letters ["_law_how"]) : Df P w K mg base C 1 "_law_letters" FdLet := by
  refine df_mk h sc_L_letters (fun ds d ⟨hw, e, _⟩ => by rw [e] <;> rfl) fun f cdv A outer s H E ds d hr ⟨hw, e, ed⟩ => ?_
  subst e ed
  exact s_one (s_ret (d_dget (kvs := [((.inr "free" : Key), .lst [.str "0", .str "1"]), ((.inr "must" : Key), .lst [.str "1"]), ((.inr "not" : Key), .lst [.str "0"])]) (d := .lst (hw.ls.map fun b => .str (sW [b]))) (room1 hr) (d_disp [("free", .lst [.str "0", .str "1"]), ("must", .lst [.str "1"]), ("not", .lst [.str "0"])] (pps_cons d_str (d_lst (a_cons d_str (a_cons d_str a_nil)) (by decide)) (pps_cons d_str (d_lst (a_cons d_str a_nil) (by decide)) (pps_cons d_str (d_lst (a_cons d_str a_nil) (by decide)) pps_nil))))
    (dv 0) (by cases hw <;> rfl)) rfl)
abbrev FdLL : List D → D → Prop := fun ds d => ∃ (u : List Bool) (st : Stp), ds = [.str (sW u), st.d] ∧ u.length ≤ 20 ∧ okL u.length st ∧ d = wD (ledM u st)
theorem df_L_led (T : Tp K mg) (F1 : Df P w K mg base C 1 "_law_letters" FdLet) (h : Has K mg "_law_led" s_L_led ["_law_page", "_law_deed"]) : Df P w K mg base C 2 "_law_led" FdLL := by
  refine df_mk h sc_L_led (fun ds d ⟨u, st, e, _⟩ => by rw [e] <;> rfl) fun f cdv A outer s H E ds d hr ⟨u, st, e, hl, hok, ed⟩ => ?_
  subst e ed
  have hw : (sW u).length ≤ 10000 := by
    rw [sW_len]
    omega
  have hc : ∀ {lo hi : Option Int}, (cutS (sW u) lo hi).length ≤ 1000 := fun {lo hi} => cut_len (by rw [sW_len]; omega)
  cases st with
  | next =>
    refine s_cons (s_if (t_cmp op_eq (d_ix ix_tup (dv 1) d_int (rd_ixT (i := 0) rfl)) d_str rd_eqS) (fun _ => s_cons (s_setLc1 2 "_law_at" 3 (List.range u.length) (fun (i : Nat) => .int (i : Int)) (fun i => u.getD i false) (fun (i : Nat) => .int (i : Int)) rfl sc_L_led.nd (PID.of (i_range1 (T.b _) (a_cons (d_callB call_len (T.b _) (a_cons (dv 0) a_nil) (rc_lenS hw)) a_nil) ?_ ?_) ?_) (blkOk_by (N := n_L_led) (sc := defScope s_L_led) (by decide +kernel))
      (fun i hi s H Ca cl fp => ts_one (PTD.of (t_cmp op_eq (d_ix ix_str (dv 0) (dv 3) (rd_ixS (i := i) (c := cB (u.getD i false)) hw ?_)) d_str rd_eqS) one_lit)) (fun i hi _ s H Ca cl fp => dv 3) ?_
      (s_one (s_ret (PD.of (d_lc0 "_law_at" 3 ((List.range u.length).filter fun i => u.getD i false) (fun (i : Nat) => .int (i : Int)) (fun i => .str (sW (u.take i ++ [false] ++ u.drop (i + 1)))) rfl sc_L_led.nd (i_list (dv 2)) (blkOk_by (N := n_L_led) (sc := defScope s_L_led) (by decide +kernel))
        (fun i hi s H Ca cl fp => PD.of (d_op op_add_str (d_op op_add_str (d_sl sl_str (dv 0) o_none (o_some (dv 3)) (rs_str hw)) d_str (rd_addS ?_)) (d_sl sl_str (dv 0) (o_some (d_op op_add (dv 3) d_int rd_add)) o_none (rs_str hw)) (rd_addS ?_)) (congrArg D.str (cut3 u i rfl (by omega)))) ?_) ?_) rfl)) rfl)) fun k => absurd k (by decide))
    · rw [sW_len]
      omega
    · rw [sW_len]
      omega
    · rw [rg0, sW_len, Int.toNat_natCast]
    · have hlt := List.mem_range.mp hi
      rw [cps_at hlt]
      simp [List.getD, List.getElem?_eq_getElem hlt]
    · rw [List.length_range]
      omega
    · have := hc (lo := Option.none) (hi := some (i : Int))
      rw [str0, sW_len]
      simp
      omega
    · have h1 := hc (lo := Option.none) (hi := some (i : Int))
      have h2 := hc (lo := some ((i : Int) + 1)) (hi := Option.none)
      have h3 : (cutS (sW u) Option.none (some (i : Int)) ++ "0").length = (cutS (sW u) Option.none (some (i : Int))).length + 1 := by
        show (_ ++ _ : Array Nat).size = _
        rw [Array.size_append]
        rfl
      omega
    · have := List.length_filter_le (fun i => u.getD i false) (List.range u.length)
      rw [List.length_range] at this
      omega
    · show _ = D.lst ((nextM u).map fun u => .str (sW u))
      unfold nextM
      rw [List.map_map]
      rfl
  | ins i hwx =>
    refine s_cons (s_if (t_cmp op_eq (d_ix ix_tup (dv 1) d_int (rd_ixT (i := 0) rfl)) d_str rd_eqS) (fun k => absurd k (by decide)) fun _ => s_nil (s_cons (s_if (t_cmp op_eq (d_ix ix_tup (dv 1) d_int (rd_ixT (i := 0) rfl)) d_str rd_eqS) (fun _ => s_one (s_ret (PD.of (d_lc0 "_law_sign" 4 hwx.ls (fun b => .str (sW [b])) (fun b => .str (sW (u.take i ++ [b] ++ u.drop i))) rfl sc_L_led.nd (i_list (d_call F1 hr (a_cons (d_ix ix_tup (dv 1) d_int (rd_ixT (i := 2) rfl)) a_nil) ⟨hwx, rfl, rfl⟩)) (blkOk_by (N := n_L_led) (sc := defScope s_L_led) (by decide +kernel))
      (fun b hb s H Ca cl fp => PD.of (d_op op_add_str (d_op op_add_str (d_sl sl_str (dv 0) o_none (o_some (d_ix ix_tup (dv 1) d_int (rd_ixT (i := 1) rfl))) (rs_str hw)) (dv 4) (rd_addS ?_)) (d_sl sl_str (dv 0) (o_some (d_ix ix_tup (dv 1) d_int (rd_ixT (i := 1) rfl))) o_none (rs_str hw)) (rd_addS ?_)) ?_) ?_) ?_) rfl)) fun k => absurd k (by decide))))
    · have := hc (lo := Option.none) (hi := some (i : Int))
      rw [sW_len]
      simp
      omega
    · have h1 := hc (lo := Option.none) (hi := some (i : Int))
      have h2 := hc (lo := some (i : Int)) (hi := Option.none)
      have h3 : (cutS (sW u) Option.none (some (i : Int)) ++ sW [b]).length = (cutS (sW u) Option.none (some (i : Int))).length + 1 := by
        show (_ ++ _ : Array Nat).size = _
        rw [Array.size_append]
        rfl
      omega
    · rw [sW_to u i rfl, sW_from u i rfl, sW_app, sW_app]
    · have : hwx.ls.length ≤ 2 := by cases hwx <;> decide
      omega
    · show _ = D.lst ((hwx.ls.map fun b => u.take i ++ [b] ++ u.drop i).map fun u => .str (sW u))
      rw [List.map_map]
      rfl
  | del i =>
    refine s_cons (s_if (t_cmp op_eq (d_ix ix_tup (dv 1) d_int (rd_ixT (i := 0) rfl)) d_str rd_eqS) (fun k => absurd k (by decide)) fun _ => s_nil (s_cons (s_if (t_cmp op_eq (d_ix ix_tup (dv 1) d_int (rd_ixT (i := 0) rfl)) d_str rd_eqS) (fun k => absurd k (by decide)) fun _ => s_nil (s_cons (s_if (t_cmp op_eq (d_ix ix_tup (dv 1) d_int (rd_ixT (i := 0) rfl)) d_str rd_eqS)
      (fun _ => s_one (s_ret (PD.of (d_lst (a_cons (PD.of (d_op op_add_str (d_sl sl_str (dv 0) o_none (o_some (d_ix ix_tup (dv 1) d_int (rd_ixT (i := 1) rfl))) (rs_str hw)) (d_sl sl_str (dv 0) (o_some (d_op op_add (d_ix ix_tup (dv 1) d_int (rd_ixT (i := 1) rfl)) d_int rd_add)) o_none (rs_str hw)) (rd_addS ?_)) (z := .str (sW (u.take i ++ u.drop (i + 1)))) ?_) a_nil) (by show 1 ≤ 1000; decide)) rfl) rfl)) fun k => absurd k (by decide))))))
    · have h1 := hc (lo := Option.none) (hi := some (i : Int))
      have h2 := hc (lo := some ((i : Int) + 1)) (hi := Option.none)
      omega
    · rw [sW_to u i rfl, sW_from u (i + 1) (by omega), sW_app]
  | rev =>
    exact s_cons (s_if (t_cmp op_eq (d_ix ix_tup (dv 1) d_int (rd_ixT (i := 0) rfl)) d_str rd_eqS) (fun k => absurd k (by decide)) fun _ => s_nil (s_cons (s_if (t_cmp op_eq (d_ix ix_tup (dv 1) d_int (rd_ixT (i := 0) rfl)) d_str rd_eqS) (fun k => absurd k (by decide)) fun _ => s_nil (s_cons (s_if (t_cmp op_eq (d_ix ix_tup (dv 1) d_int (rd_ixT (i := 0) rfl)) d_str rd_eqS) (fun k => absurd k (by decide)) fun _ => s_nil
      (s_cons (s_if (t_cmp op_eq (d_ix ix_tup (dv 1) d_int (rd_ixT (i := 0) rfl)) d_str rd_eqS) (fun _ => s_one (s_ret (d_lst (a_cons (PD.of (d_revS (dv 0) (by rw [sW_len]; omega)) (z := .str (sW u.reverse)) (congrArg D.str (rev_word u))) a_nil) (by show 1 ≤ 1000; decide)) rfl)) fun k => absurd k (by decide))))))))
  | turn i =>
    refine s_cons (s_if (t_cmp op_eq (d_ix ix_tup (dv 1) d_int (rd_ixT (i := 0) rfl)) d_str rd_eqS) (fun k => absurd k (by decide)) fun _ => s_nil (s_cons (s_if (t_cmp op_eq (d_ix ix_tup (dv 1) d_int (rd_ixT (i := 0) rfl)) d_str rd_eqS) (fun k => absurd k (by decide)) fun _ => s_nil (s_cons (s_if (t_cmp op_eq (d_ix ix_tup (dv 1) d_int (rd_ixT (i := 0) rfl)) d_str rd_eqS) (fun k => absurd k (by decide)) fun _ => s_nil
      (s_cons (s_if (t_cmp op_eq (d_ix ix_tup (dv 1) d_int (rd_ixT (i := 0) rfl)) d_str rd_eqS) (fun k => absurd k (by decide)) fun _ => s_nil (s_cons (s_if (t_cmp op_eq (d_ix ix_tup (dv 1) d_int (rd_ixT (i := 0) rfl)) d_str rd_eqS) (fun _ => s_one (s_ret (PD.of (d_lst (a_cons (PD.of (d_op op_add_str (d_sl sl_str (dv 0) (o_some (d_ix ix_tup (dv 1) d_int (rd_ixT (i := 1) rfl))) o_none (rs_str hw)) (d_sl sl_str (dv 0) o_none (o_some (d_ix ix_tup (dv 1) d_int (rd_ixT (i := 1) rfl))) (rs_str hw)) (rd_addS ?_)) (z := .str (sW (u.drop i ++ u.take i))) ?_) a_nil) (by show 1 ≤ 1000; decide)) rfl) rfl)) fun k => absurd k (by decide))))))))))
    · have h1 := hc (lo := Option.none) (hi := some (i : Int))
      have h2 := hc (lo := some (i : Int)) (hi := Option.none)
      omega
    · rw [sW_to u i rfl, sW_from u i rfl, sW_app]
end
end Kp

namespace Kp
open PySem PySem.Spec PyProof.Rows L2
section
variable {P : Program} {w : World} {K : PySem.W.Frag} {mg : Str → Option Value} {base : Heap} {C : Addr}
abbrev rInt1 : List V → Hp → VK → Prop := fun xs H Q => (∃ i, xs = [.int i] ∧ Q (.int i) H) ∨ ∃ k, xs = [.bl k] ∧ Q (.int (if k then 1 else 0)) H
theorem rc_intB {b : Bool} : RCD K C rInt1 [.bl b] (.int (if b then 1 else 0)) := fun G H vs s a Q k => by
  obtain ⟨v, r, rfl, h1, h2⟩ := a.inv
  rw [h2.inv0, h1.bl']
  exact .inr ⟨b, rfl, k _ G H (Nx.refl s) (At.int _)⟩
theorem rc_intI {i : Int} : RCD K C rInt1 [.int i] (.int i) := fun G H vs s a Q k => by
  obtain ⟨v, r, rfl, h1, h2⟩ := a.inv
  rw [h2.inv0, h1.int']
  exact .inl ⟨i, rfl, k _ G H (Nx.refl s) (At.int _)⟩
theorem df_L_deeds_of (T : Tp K mg) (h : Has K mg "_law_deeds_of" s_L_deeds_of ["_law_sort", "_law_many_here"]) : Df P w K mg base C 1 "_law_deeds_of" FdSteps := by
  refine df_mk h sc_L_deeds_of (fun ds d ⟨k, n, e, _⟩ => by rw [e] <;> rfl) fun f cdv A outer s H E ds d hr ⟨k, n, e, h1, h2, hn, ed⟩ => ?_
  subst e ed
  by_cases e0 : k = .del ∨ k = .rev ∨ k = .turn
  · have main : ∀ (m : Nat) (r : List D), valD [((.inr "reverse" : Key), .int 0), ((.inr "delete" : Key), .int n), ((.inr "turn" : Key), .int ((n : Int) + 1))] (.inr k.s) = some (.int (m : Int)) → (List.replicate ((if decide (k.s = "reverse") then (1 : Int) else 0)).toNat [D.tup [.str "reverse"]]).flatten ++ (List.range m).map (fun (i : Nat) => D.tup [.str k.s, .int (i : Int)]) = (stepsM k n).map Stp.d → inD (.str k.s) [.str "reverse", .str "delete", .str "turn"] = true → m ≤ 1000 →
        PSsD C (cxOf CX0 P w K mg base n_L_deeds_of "_law_deeds_of" (defScope s_L_deeds_of) f cdv A outer s H E).nox (defBody s_L_deeds_of) (dstart n_L_deeds_of [.str k.s, .int n]) { nx := fun _ => D.lst ((stepsM k n).map Stp.d) = .non, rt := fun d' => d' = D.lst ((stepsM k n).map Stp.d) } := fun m r hv hres hin hm => by
      refine s_cons (s_if (k := true) (PTD.of (t_cmp op_in_seq (dv 0) (d_tup (a_cons d_str (a_cons d_str (a_cons d_str a_nil))) (by decide)) (rd_in false rfl (by decide +kernel) (.inr rfl))) hin) (fun _ => s_cons (s_set 2 sc_L_deeds_of.nd (d_dget (kvs := [((.inr "reverse" : Key), .int 0), ((.inr "delete" : Key), .int n), ((.inr "turn" : Key), .int ((n : Int) + 1))]) (d := .int (m : Int)) (room1 hr) (d_disp [("reverse", .int 0), ("delete", .int n), ("turn", .int ((n : Int) + 1))] (pps_cons d_str d_int (pps_cons d_str (dv 1) (pps_cons d_str (d_op op_add (dv 1) d_int rd_add) pps_nil))) (by show (["reverse", "delete", "turn"] : List Str).Nodup; decide +kernel) (by show 3 ≤ 15; decide)) (dv 0) hv)
        (s_one (s_ret (PD.of (d_op op_cat (d_op op_rep (d_lst (a_cons (d_tup (a_cons d_str a_nil) (by show 1 ≤ 1000; decide)) a_nil) (by show 1 ≤ 1000; decide)) (d_callTy call_int1 (T.b _) (a_cons (d_cmp op_eq (dv 0) d_str rd_eqS) a_nil) rc_intB) (rd_rep ?_ ?_ (by show 1 ≤ 8; decide))) (d_lc0 "_law_at" 3 (List.range m) (fun (i : Nat) => .int (i : Int)) (fun (i : Nat) => .tup [.str k.s, .int (i : Int)]) rfl sc_L_deeds_of.nd (PID.of (i_range1 (T.b _) (a_cons (dv 2) a_nil) (by omega) (by omega)) (by rw [rg0, Int.toNat_natCast])) (blkOk_by (N := n_L_deeds_of) (sc := defScope s_L_deeds_of) (by decide +kernel))
          (fun i hi s H Ca cl fp => d_tup (a_cons (dv 0) (a_cons (dv 3) a_nil)) (by show 2 ≤ 1000; decide)) ?_) (rd_cat ?_)) (congrArg D.lst hres)) rfl)))) fun k => by cases k)
      · split <;> decide
      · split <;> decide
      · rw [List.length_range]
        omega
      · have h8 := congrArg List.length hres
        rw [List.length_append, List.length_map (as := stepsM k n)] at h8
        have h9 := stepsM_len k n
        omega
    rcases e0 with e | e | e <;> subst e
    · have e1 : ((List.range n).map fun (i : Nat) => D.tup [.str Kd.del.s, .int (i : Int)]) = (stepsM .del n).map Stp.d := by
        show _ = ((List.range n).map Stp.del).map Stp.d
        rw [List.map_map]
        rfl
      exact main n [] (by rfl) e1 (by decide +kernel) (by omega)
    · exact main 0 [] (by rfl) (by rfl) (by decide +kernel) (by omega)
    · have e1 : ((List.range (n + 1)).map fun (i : Nat) => D.tup [.str Kd.turn.s, .int (i : Int)]) = (stepsM .turn n).map Stp.d := by
        show _ = ((List.range (n + 1)).map Stp.turn).map Stp.d
        rw [List.map_map]
        rfl
      exact main (n + 1) [] (by rfl) e1 (by decide +kernel) (by omega)
  · obtain ⟨hw, hk⟩ : ∃ hw, k.how = some hw := by
      cases k <;> first | (exact ⟨_, rfl⟩) | (exact absurd (.inl rfl) e0) | (exact absurd (.inr (.inl rfl)) e0) | (exact absurd (.inr (.inr rfl)) e0) | (exact absurd rfl h1) | (exact absurd rfl h2)
    refine s_cons (s_if (k := false) (PTD.of (t_cmp op_in_seq (dv 0) (d_tup (a_cons d_str (a_cons d_str (a_cons d_str a_nil))) (by decide)) (rd_in false rfl (by decide +kernel) (.inr rfl))) ?_) (fun k => by cases k) fun _ => s_nil ?_)
    rotate_left
    refine s_cons (s_set 4 sc_L_deeds_of.nd (d_lst a_nil (by decide)) ?_)
    refine s_cons (s_if (k := false) (PTD.of (t_cmp op_in_seq (dv 0) (d_tup (a_cons d_str (a_cons d_str a_nil)) (by decide)) (rd_in false rfl (by decide +kernel) (.inr rfl))) ?_) (fun k => by cases k) fun _ => s_nil ?_)
    rotate_left
    refine s_cons (s_asg (d_split (zs := [k.en, hw.s]) (dv 0) d_str (by decide) (by cases k <;> decide) ?_) (g_pairL 7 8 rfl sc_L_deeds_of.nd) rfl ?_)
    rotate_left
    refine s_cons (s_set 2 sc_L_deeds_of.nd (d_dget (kvs := [((.inr "front" : Key), .lst [.int 0]), ((.inr "back" : Key), .lst [.int n]), ((.inr "any" : Key), .lst ((List.range (n + 1)).map fun (i : Nat) => .int (i : Int)))]) (d := .lst ((placesM k n).map fun (i : Nat) => .int (i : Int))) (room1 hr) (d_disp [("front", .lst [.int 0]), ("back", .lst [.int n]), ("any", .lst ((List.range (n + 1)).map fun (i : Nat) => .int (i : Int)))] (pps_cons d_str (d_lst (a_cons d_int a_nil) (by show 1 ≤ 1000; decide)) (pps_cons d_str (d_lst (a_cons (dv 1) a_nil) (by show 1 ≤ 1000; decide)) (pps_cons d_str (PD.of (d_listRg rfl (T.b _) (T.b _) (d_op op_add (dv 1) d_int rd_add) (by omega) (by omega)) ?_) pps_nil))) (by show (["front", "back", "any"] : List Str).Nodup; decide +kernel) (by show 3 ≤ 15; decide)) (dv 7) ?_) ?_)
    rotate_left 2
    refine s_one (s_ret (PD.of (d_lc0 "_law_at" 3 (placesM k n) (fun (i : Nat) => .int (i : Int)) (fun i => (Stp.ins i hw).d) rfl sc_L_deeds_of.nd (i_list (dv 2)) (blkOk_by (N := n_L_deeds_of) (sc := defScope s_L_deeds_of) (by decide +kernel)) (fun i hi s H Ca cl fp => d_tup (a_cons d_str (a_cons (dv 3) (a_cons (dv 8) a_nil))) (by show 3 ≤ 1000; decide)) ?_) ?_) rfl)
    · have := placesM_len k n
      omega
    · rw [steps_ins hk, List.map_map]
      rfl
    · show inD (.str k.s) [.str "reverse", .str "delete", .str "turn"] = false
      cases k <;> cases hk <;> decide +kernel
    · show inD (.str k.s) [.str "swap", .str "move"] = false
      cases k <;> cases hk <;> decide +kernel
    · cases k <;> cases hk <;> decide +kernel
    · show D.lst (rgD 0 ((n : Int) + 1).toNat) = D.lst _
      rw [rg0, show ((n : Int) + 1).toNat = n + 1 from by omega]
    · cases k <;> cases hk <;> rfl
/-! ### is_left -/
abbrev FdIsLeft : List D → D → Prop := fun ds d => ∃ (F : Fm) (u : List Bool) (st : Stp), ds = [fmD F, .str (sW u), st.d] ∧ u.length ≤ 20 ∧ okL u.length st ∧ d = .bl (!(ledM u st).any (hasM F))
theorem some_eqv' (l : List Str) : PyData.eqv (pd (.lst (l.map .str))) (pd (.lst [])) = l.isEmpty := by
  have z := some_eqv l
  cases h : PyData.eqv (pd (.lst (l.map .str))) (pd (.lst [])) <;> cases h2 : l.isEmpty <;> rw [h, h2] at z <;> first | rfl | cases z
theorem strOk_word (u : List Bool) : PySem.PyData.strOk (sW u) = true := by
  unfold PySem.PyData.strOk
  rw [← Array.all_toList, sW_cps, List.all_map, List.all_eq_true]
  intro b _
  cases b <;> decide
theorem lay_words : ∀ l : List (List Bool), PyData.canLayAll0 (pdL (l.map fun u => D.str (sW u))) = true ∧ PyData.depthAll (pdL (l.map fun u => D.str (sW u))) = 0
  | [] => ⟨rfl, rfl⟩
  | u :: l => by
    obtain ⟨h1, h2⟩ := lay_words l
    simp only [List.map_cons, pdL, pd, PyData.canLayAll0, PyData.canLay0, PyData.depthAll, PyData.depth, h1, h2, strOk_word, Bool.and_self, Nat.max_self, and_self]
theorem sh_words (l : List (List Bool)) : SeqAt.shaped (pd (wD l)) = true := by
  unfold SeqAt.shaped
  obtain ⟨h1, h2⟩ := lay_words l
  rw [Bool.and_eq_true, decide_eq_true_eq]
  refine ⟨?_, ?_⟩
  · show PyData.canLay0 (.list (pdL (l.map fun u => D.str (sW u)))) = true
    rw [PyData.canLay0]
    exact h1
  · show PyData.depth (.list (pdL (l.map fun u => D.str (sW u)))) ≤ 64
    rw [PyData.depth, h2]
    decide
theorem pd_words (l : List (List Bool)) : isPd (wD l) = true := by
  have z := isPd_strs (l.map sW)
  rw [List.map_map] at z
  exact z
theorem eqv_words (l : List (List Bool)) : PyData.eqv (pd (wD l)) (pd (.lst [])) = l.isEmpty := by
  have z := some_eqv' (l.map sW)
  rw [List.map_map, isEmpty_map'] at z
  exact z
theorem df_L_is_left (T : Tp K mg) (F1 : Df P w K mg base C 2 "_law_led" FdLL) (F2 : Df P w K mg base C 2 "_law_has" FdHas) (h : Has K mg "_law_is_left" s_L_is_left ["_law_forms_here", "_law_page", "_law_deed"]) : Df P w K mg base C 3 "_law_is_left" FdIsLeft := by
  refine df_mk h sc_L_is_left (fun ds d ⟨F, u, st, e, _⟩ => by rw [e] <;> rfl) fun f cdv A outer s H E ds d hr ⟨F, u, st, e, hl, hok, ed⟩ => ?_
  subst e ed
  refine s_one (s_ret (PD.of (d_cmp (op_eqD (room_un hr)) (d_lc1 "_law_one" 3 (ledM u st) (fun v => .str (sW v)) (hasM F) (fun v => .str (sW v)) rfl sc_L_is_left.nd (i_list (d_call F1 hr (a_cons (dv 1) (a_cons (dv 2) a_nil)) ⟨u, st, rfl, hl, hok, rfl⟩)) (blkOk_by (N := n_L_is_left) (sc := defScope s_L_is_left) (by decide +kernel))
    (fun v hv s H Ca cl fp => ts_one (t_val (d_call F2 hr (a_cons (dv 0) (a_cons (dv 3) a_nil)) ⟨F, v, rfl, ?_, rfl⟩))) (fun v hv _ s H Ca cl fp => dv 3) ?_) (d_lst a_nil (by decide)) (rd_eqD (pd_words _) rfl (sh_words _) sh_nil)) ?_) rfl)
  · have := ledM_len hv
    omega
  · have := ledM_sz u st
    omega
  · rw [eqv_words, ← any_filter, Bool.not_not]
/-! ### many, tongue -/
theorem df_L_many (T : Tp K mg) (h : Has K mg "_law_many" s_L_many ["_law_forms_here", "_law_many_here"]) : Df P w K mg base C 1 "_law_many" (fun ds d => ∃ (F : Fm) (n : Nat), ds = [fmD F, .int n] ∧ n ≤ 60 ∧ d = .int (lawMany F n)) := by
  refine df_mk h sc_L_many (fun ds d ⟨F, n, e, _⟩ => by rw [e] <;> rfl) fun f cdv A outer s H E ds d hr ⟨F, n, e, hn, ed⟩ => ?_
  subst e ed
  have u : (cxOf CX0 P w K mg base n_L_many "_law_many" (defScope s_L_many) f cdv A outer s H E).nox.A.units + 64 < cLine := room_un hr
  have ix0 : (F.ts.map D.str)[0]? = some (.str (F.ts.headD "")) := by cases F <;> rfl
  have hsh : (F.ts.headD "").length ≤ 10000 := by cases F <;> decide
  refine s_cons (s_if (k := F.any) (PTD.of (t_cmp (op_eqD u) (dv 0) (d_tup (a_cons d_str a_nil) (by show 1 ≤ 1000; decide)) (rd_eqD (x := fmD F) (y := .tup [.str "all"]) (isPd_strs _) rfl (by cases F <;> decide +kernel) (by decide +kernel))) (by cases F <;> decide +kernel)) (fun k => s_one (s_ret (PD.of (d_op op_shl d_int (dv 1) (rd_shl ⟨by omega, by omega, by decide⟩)) ?_) rfl)) fun k1 => s_nil ?_)
  · cases F <;> first | cases k | skip
    show D.int (1 * 2 ^ (n : Int).toNat) = .int (2 ^ n)
    rw [Int.one_mul, Int.toNat_natCast]
  refine s_cons (s_if (k := decide ((n : Int) = 0) || (decide (((F.ts.headD "").length : Int) = 2) && decide (((F.ts.map D.str).length : Int) = 1))) (t_of (w_or (l := decide (((F.ts.headD "").length : Int) = 2) && decide (((F.ts.map D.str).length : Int) = 1)) (t_cmp op_eq (dv 1) d_int rd_eqI) fun _ => w_or1 (t_of (w_and (l := decide (((F.ts.map D.str).length : Int) = 1)) (t_cmp op_eq (d_callB call_len (T.b _) (a_cons (d_ix ix_tup (dv 0) d_int (rd_ixT (i := 0) ix0)) a_nil) (rc_lenS hsh)) d_int rd_eqI) fun _ => w_and1 (t_cmp op_eq (d_callB call_len (T.b _) (a_cons (dv 0) a_nil) rc_lenT) d_int rd_eqI)))))
    (fun k => s_one (s_ret (PD.of (d_op op_add (dv 1) d_int rd_add) ?_) rfl)) fun k2 => s_nil ?_)
  · rw [Bool.or_eq_true, decide_eq_true_eq] at k
    rcases k with k | k
    · have e0 : n = 0 := by omega
      subst e0
      cases F <;> first | rfl | cases k1
    · cases F <;> first | rfl | (cases k1; done) | (exact absurd k (by decide))
  rw [Bool.or_eq_false_iff, decide_eq_false_iff_not] at k2
  have hn0 : n ≠ 0 := fun z => k2.1 (by rw [z]; rfl)
  refine s_cons (s_if (k := decide (((F.ts.map D.str).length : Int) = 2)) (t_cmp op_eq (d_callB call_len (T.b _) (a_cons (dv 0) a_nil) rc_lenT) d_int rd_eqI) (fun k => s_one (s_ret (d_if (k := decide (((F.ts.headD "").length : Int) = 2)) (t_cmp op_eq (d_callB call_len (T.b _) (a_cons (d_ix ix_tup (dv 0) d_int (rd_ixT (i := 0) ix0)) a_nil) (rc_lenS hsh)) d_int rd_eqI) (fun k' => PD.of (d_op op_mul d_int (dv 1) (rd_mul (.inl ⟨by omega, by omega⟩))) ?_) fun k' => PD.of (d_op op_add (d_op op_mul (dv 1) (d_op op_sub (dv 1) d_int rd_sub) (rd_mul (.inl ⟨by omega, by omega⟩))) d_int rd_add) ?_) rfl)) fun k3 => s_nil (s_one (s_ret (PD.of (d_op op_add (d_op op_fdiv (d_op op_mul (dv 1) (d_op op_add (dv 1) d_int rd_add) (rd_mul (.inl ⟨by omega, by omega⟩))) d_int (rd_fdiv ⟨by omega, by omega⟩)) d_int rd_add) ?_) rfl)))
  · cases F <;> first | (exact absurd k (by decide)) | (exact absurd k' (by decide)) | (show D.int _ = D.int (if n = 0 then 1 else _); rw [if_neg hn0])
  · cases F <;> first | (exact absurd k (by decide)) | (exact absurd k' (by decide)) | (show D.int _ = D.int (if n = 0 then 1 else _); rw [if_neg hn0])
  · cases F <;> first | (cases k1; done) | (exact absurd k3 (by decide)) | (exact absurd k2.2 (by decide)) | (show D.int _ = D.int (if n = 0 then 1 else _); rw [if_neg hn0])
theorem df_L_tongue (T : Tp K mg) (M : MkL P w K mg base C 4) (h : Has K mg "_law_tongue" s_L_tongue ["_law_forms_here"]) : Df P w K mg base C 6 "_law_tongue" (fun ds d => ∃ F : Fm, ds = [fmD F] ∧ d = .lang F.lg) := by
  refine df_mk h sc_L_tongue (fun ds d ⟨F, e, _⟩ => by rw [e] <;> rfl) fun f cdv A outer s H E ds d hr ⟨F, e, ed⟩ => ?_
  subst e ed
  by_cases h1 : F.ts.length = 1
  · obtain ⟨t, ht⟩ : ∃ t, F.ts = [t] := List.length_eq_one_iff.mp h1
    have ea : F.ts.map D.str = [.str t] := by rw [ht]; rfl
    refine s_cons (s_if (k := true) (PTD.of (t_cmp op_eq (d_callB call_len (T.b _) (a_cons (dv 0) a_nil) rc_lenT) d_int rd_eqI) (by rw [List.length_map, h1]; rfl)) (fun _ => s_one (s_ret (d_make M hr ?_) rfl)) fun k => by cases k)
    rw [ea]
    exact a_cons (d_ix ix_tup (dv 0) d_int (rd_ixT (i := 0) (by rw [ea]; rfl))) a_nil
  · have h2 : F.ts.length = 2 := by
      have := ts_len F
      omega
    obtain ⟨t, t', ht⟩ : ∃ t t', F.ts = [t, t'] := by
      cases hts : F.ts with
      | nil => rw [hts] at h2; cases h2
      | cons t r =>
        cases r with
        | nil => rw [hts] at h2; cases h2
        | cons t' r2 =>
          cases r2 with
          | nil => exact ⟨t, t', rfl⟩
          | cons _ _ => rw [hts] at h2; simp at h2
    have ea : F.ts.map D.str = [.str t, .str t'] := by rw [ht]; rfl
    refine s_cons (s_if (k := false) (PTD.of (t_cmp op_eq (d_callB call_len (T.b _) (a_cons (dv 0) a_nil) rc_lenT) d_int rd_eqI) (by rw [List.length_map, h2]; rfl)) (fun k => by cases k) fun _ => s_nil (s_cons (s_if (k := true) (PTD.of (t_cmp op_eq (d_callB call_len (T.b _) (a_cons (dv 0) a_nil) rc_lenT) d_int rd_eqI) (by rw [List.length_map, h2]; rfl)) (fun _ => s_one (s_ret (d_make M hr ?_) rfl)) fun k => by cases k)))
    rw [ea]
    exact a_cons (d_ix ix_tup (dv 0) d_int (rd_ixT (i := 0) (by rw [ea]; rfl))) (a_cons (d_ix ix_tup (dv 0) d_int (rd_ixT (i := 1) (by rw [ea]; rfl))) a_nil)
end
end Kp

namespace Kp
open PySem PySem.Spec PyProof.Rows L2
/-- a dict of our own that is being filled -/
structure AccK (K : PySem.W.Frag) (C : Addr) (G H : Hp) (L : Addr) (kvs : List (Key × D)) (G' H' : Hp) : Prop where
  g : Same G G'
  h : Same H H'
  s : Same G' H'
  n : ∀ b, G b = Option.none → H b ≠ Option.none → G' b = Option.none
  ln : G' L = Option.none
  at_ : ∃ vs, H' L = some (.dK vs) ∧ AtK K C G' kvs vs
section
variable {K : PySem.W.Frag} {C L : Addr} {G H G' H' : Hp} {kvs : List (Key × D)}
theorem AccK.start {G1 H1 : Hp} (n : Nx G H G1 H1) (hL : H1 L = Option.none) : AccK K C G H L [] G1 (upd H1 L (.dK [])) :=
  ⟨n.g, n.h.trans (Same.new hL), n.s.trans (Same.new hL), n.n, n.s.free hL, [], upd_same, by simp only [AtK]⟩
theorem AccK.step {G2 H2 : Hp} (a : AccK K C G H L kvs G' H') (n : Nx G' H' G2 H2) : AccK K C G H L kvs G2 H2 := by
  obtain ⟨vs, h1, h2⟩ := a.at_
  exact ⟨a.g.trans n.g, a.h.trans n.h, n.s, fun b h3 h4 => n.n b (a.n b h3 h4) fun z => h4 (a.h.free z), n.n L a.ln (by rw [h1]; intro z; cases z), vs, n.h _ _ h1, h2.mono n.g⟩
theorem AccK.put {kvs' : List (Key × D)} {vs : List (Key × V)} (a : AccK K C G H L kvs G' H') (hL : H L = Option.none) (r : AtK K C G' kvs' vs) : AccK K C G H L kvs' G' (upd H' L (.dK vs)) := by
  refine ⟨a.g, fun b u e => ?_, fun b u e => ?_, a.n, a.ln, _, upd_same, r⟩
  · rw [upd_ne (ne_of_none e hL)]
    exact a.h b u e
  · rw [upd_ne (ne_of_none e a.ln)]
    exact a.s b u e
theorem AccK.done (a : AccK K C G H L kvs G' H') (hL : H L = Option.none) : ∃ G2, Nx G H G2 H' ∧ Same G' G2 ∧ At K C G2 (.dic kvs) (.ref L) := by
  obtain ⟨vs, h1, h2⟩ := a.at_
  refine ⟨upd G' L (.dK vs), ⟨a.g.trans (Same.new a.ln), a.h, fun b u e => ?_, fun b h3 h4 => ?_⟩, Same.new a.ln, At.dic upd_same (h2.mono (Same.new a.ln))⟩
  · by_cases hb : b = L
    · subst hb
      rw [upd_same] at e
      cases e
      exact h1
    · rw [upd_ne hb] at e
      exact a.s b u e
  · rw [upd_ne fun z => h4 (by rw [z]; exact hL)]
    exact a.n b h3 h4
theorem AtK.snoc : ∀ {kvs : List (Key × D)} {vs : List (Key × V)} {k : Key} {d : D} {v : V}, AtK K C G kvs vs → At K C G d v → AtK K C G (kvs ++ [(k, d)]) (vs ++ [(k, v)])
  | [], vs, k, d, v, h, a => by
    simp only [AtK] at h
    subst h
    simp only [List.nil_append, AtK]
    exact ⟨v, [], rfl, a, rfl⟩
  | (k0, d0) :: r, vs, k, d, v, h, a => by
    simp only [AtK] at h
    obtain ⟨u, us, rfl, h1, h2⟩ := h
    simp only [List.cons_append, AtK]
    exact ⟨u, _, rfl, h1, AtK.snoc h2 a⟩
theorem AtK.keys : ∀ {kvs : List (Key × D)} {vs : List (Key × V)}, AtK K C G kvs vs → vs.map (·.1) = kvs.map (·.1)
  | [], vs, h => by
    simp only [AtK] at h
    subst h
    rfl
  | (k0, d0) :: r, vs, h => by
    simp only [AtK] at h
    obtain ⟨u, us, rfl, h1, h2⟩ := h
    simp only [List.map_cons, AtK.keys h2]
theorem Sl.drop {σ : L2.St} {γ : DSt} {i : Nat} (h : Sl K C G σ γ) : Sl K C G σ (γ.set i Option.none) := ⟨by simp [h.len], fun j d q => by
  rw [List.getElem?_set] at q
  split at q
  · split at q <;> cases q
  · exact h.at_ j d q⟩
theorem Sl.put {σ : L2.St} {γ : DSt} {i : Nat} {d : D} {v : V} (h : Sl K C G σ γ) (e : σ[i]? = some (some v)) (a : At K C G d v) : Sl K C G σ (γ.set i (some d)) := ⟨by simp [h.len], fun j d' q => by
  rw [List.getElem?_set] at q
  by_cases hij : i = j
  · subst hij
    rw [if_pos rfl] at q
    split at q
    · cases q
      exact ⟨v, e, a⟩
    · cases q
  · rw [if_neg hij] at q
    exact h.at_ j d' q⟩
end
/-! ### ends -/
def howsE (ks : List Kd) (b : Bool) : List How := [How.must, How.no].filter fun h => decide (kdOf b h ∈ ks)
theorem howsE_hs (ks : List Kd) (b : Bool) : howsE ks b = hs (ks.contains (kdOf b .must)) (ks.contains (kdOf b .no)) := by
  unfold howsE hs
  simp only [List.filter_cons, List.filter_nil, con_mem]
  cases ks.contains (kdOf b .must) <;> cases ks.contains (kdOf b .no) <;> rfl
def hon (m n : Bool) : How → Bool
  | .must => m | .no => n | .free => false
theorem hs_in (m n m' n' : Bool) (h : How) : inD (.str h.s) (((hs m n).map fun h => D.str h.s) ++ ((hs m' n').map fun h => D.str h.s)) = hon (m || m') (n || n') h := by
  cases m <;> cases n <;> cases m' <;> cases n' <;> cases h <;> decide +kernel
theorem hs_flat (m n m' n' : Bool) : (((hs m n).map fun h => D.str h.s) ++ ((hs m' n').map fun h => D.str h.s)).all flatD = true := by
  cases m <;> cases n <;> cases m' <;> cases n' <;> rfl
theorem hon_hs (m n : Bool) : ([How.must, How.no].filter (hon m n)) = hs m n := by cases m <;> cases n <;> rfl
def endsD (fl : Fl) : D := .tup [hD (hs fl.m1 fl.n1), hD (hs fl.m2 fl.n2)]
section
variable {P : Program} {w : World} {K : PySem.W.Frag} {mg : Str → Option Value} {base : Heap} {C : Addr}
abbrev lsD (ks : List Kd) : D := .lst (kds ks)
theorem df_L_ends (T : Tp K mg) (h : Has K mg "_law_ends" s_L_ends ["_law_sorts_here"]) : Df P w K mg base C 1 "_law_ends" (fun ds d => ∃ ks, ds = [lsD ks] ∧ d = endsD (flOf ks)) := by
  refine df_mkT h sc_L_ends (fun ds d ⟨ks, e, _⟩ => by rw [e] <;> rfl) fun f cdv A outer s H E ds d hr ⟨ks, e, ed⟩ => ?_
  subst e ed
  have dcomp : ∀ {e tg : Expr} {pos : Pos} {tg2 it2 : Expr} {els : List Stmt} {p2 : Pos}, (defBody s_L_ends).getD 1 (.Pass ⟨0, 0, 0, 0⟩) = .For tg2 it2 [.Assign [tg] e pos] els p2 → ∀ b : Bool, PE (cxOf CX0 P w K mg base n_L_ends "_law_ends" (defScope s_L_ends) f cdv A outer s H E).nox e (cE K C [some (lsD ks), Option.none, some (.str (sd b)), Option.none, Option.none] (hD (howsE ks b))) := fun he b => by
    cases he
    refine d_lc1 "_law_how" 3 [How.must, How.no] (fun h => .str h.s) (fun h => decide (kdOf b h ∈ ks)) (fun h => .str h.s) rfl sc_L_ends.nd (i_tup (d_tup (a_cons d_str (a_cons d_str a_nil)) (by decide))) (blkOk_by (N := n_L_ends) (sc := defScope s_L_ends) (by decide +kernel)) (fun h hh s H Ca cl fp => ts_one (PTD.of (t_cmp op_in_seq (PD.of (d_op op_add_str (d_op op_add_str (dv 2) d_str (rd_addS ?_)) (dv 3) (rd_addS ?_)) (congrArg D.str (kd_text b h))) (dv 0) (rd_in false rfl (kds_flat ks) (.inl rfl))) (inD_kds _ ks))) (fun h hh _ s H Ca cl fp => dv 3) (by decide)
    · cases b <;> decide
    · cases b <;> cases h <;> decide
  have rest : PSsD C (cxOf CX0 P w K mg base n_L_ends "_law_ends" (defScope s_L_ends) f cdv A outer s H E).nox ((defBody s_L_ends).drop 2) [some (lsD ks), some (.dic [((.inr "front" : Key), hD (howsE ks false)), ((.inr "back" : Key), hD (howsE ks true))]), Option.none, Option.none, Option.none] { nx := fun _ => False, rt := fun d' => d' = endsD (flOf ks) } := by
    rw [howsE_hs, howsE_hs]
    refine s_cons (s_if (k := (flOf ks).rev) (PTD.of (t_cmp op_in_seq d_str (dv 0) (rd_in false rfl (kds_flat ks) (.inl rfl))) (inD_con .rev ks)) (fun k => ?_) fun k => s_nil (s_one (s_ret (d_tup (a_cons (d_dget (room1 hr) (dv 1) d_str rfl) (a_cons (d_dget (room1 hr) (dv 1) d_str rfl) a_nil)) (by show 2 ≤ 1000; decide)) ?_)))
    · refine s_cons (s_setLc1 4 "_law_how" 3 [How.must, How.no] (fun h => .str h.s) (hon (ks.contains .fm || ks.contains .bm) (ks.contains .fn || ks.contains .bn)) (fun h => .str h.s) rfl sc_L_ends.nd (i_tup (d_tup (a_cons d_str (a_cons d_str a_nil)) (by decide))) (blkOk_by (N := n_L_ends) (sc := defScope s_L_ends) (by decide +kernel)) (fun h hh s H Ca cl fp => ts_one (PTD.of (t_cmp op_in_seq (dv 3) (d_op op_cat (d_dget (d := hD (hs (ks.contains .fm) (ks.contains .fn))) (room1 hr) (dv 1) d_str rfl) (d_dget (d := hD (hs (ks.contains .bm) (ks.contains .bn))) (room1 hr) (dv 1) d_str rfl) (rd_cat ?_)) (rd_in false rfl (hs_flat _ _ _ _) (.inl rfl))) (hs_in _ _ _ _ h))) (fun h hh _ s H Ca cl fp => dv 3) (by decide) (s_one (s_set 1 sc_L_ends.nd (d_disp [("front", hD (hs (ks.contains .fm || ks.contains .bm) (ks.contains .fn || ks.contains .bn))), ("back", hD (hs (ks.contains .fm || ks.contains .bm) (ks.contains .fn || ks.contains .bn)))] (pps_cons d_str (PD.of (dv 4) (congrArg (fun z => D.lst (z.map fun h => D.str h.s)) (hon_hs _ _))) (pps_cons d_str (PD.of (dv 4) (congrArg (fun z => D.lst (z.map fun h => D.str h.s)) (hon_hs _ _))) pps_nil)) (by show (["front", "back"] : List Str).Nodup; decide +kernel) (by show 2 ≤ 15; decide)) ?_)) rfl)
      · have h1 := hs_short (ks.contains .fm) (ks.contains .fn)
        have h2 := hs_short (ks.contains .bm) (ks.contains .bn)
        omega
      · refine s_one (s_ret (d_tup (a_cons (d_dget (room1 hr) (dv 1) d_str rfl) (a_cons (d_dget (room1 hr) (dv 1) d_str rfl) a_nil)) (by show 2 ≤ 1000; decide)) ?_)
        have kr : ks.contains .rev = true := k
        show D.tup [hD (hs (ks.contains .fm || ks.contains .bm) (ks.contains .fn || ks.contains .bn)), hD (hs (ks.contains .fm || ks.contains .bm) (ks.contains .fn || ks.contains .bn))] = .tup [hD (hs (ks.contains .fm || (ks.contains .rev && ks.contains .bm)) (ks.contains .fn || (ks.contains .rev && ks.contains .bn))), hD (hs (ks.contains .bm || (ks.contains .rev && ks.contains .fm)) (ks.contains .bn || (ks.contains .rev && ks.contains .fn)))]
        rw [kr, Bool.true_and, Bool.true_and, Bool.true_and, Bool.true_and, Bool.or_comm (ks.contains .bm), Bool.or_comm (ks.contains .bn)]
    · have kr : ks.contains .rev = false := k
      show D.tup [hD (hs (ks.contains .fm) (ks.contains .fn)), hD (hs (ks.contains .bm) (ks.contains .bn))] = .tup [hD (hs (ks.contains .fm || (ks.contains .rev && ks.contains .bm)) (ks.contains .fn || (ks.contains .rev && ks.contains .bn))), hD (hs (ks.contains .bm || (ks.contains .rev && ks.contains .fm)) (ks.contains .bn || (ks.contains .rev && ks.contains .fn)))]
      rw [kr, Bool.false_and, Bool.false_and, Bool.false_and, Bool.false_and, Bool.or_false, Bool.or_false, Bool.or_false, Bool.or_false]
  have tvv : PE (cxOf CX0 P w K mg base n_L_ends "_law_ends" (defScope s_L_ends) f cdv A outer s H E).nox _ (fun σ H Q => ∃ b, cE K C [some (lsD ks), Option.none, some (.str (sd b)), Option.none, Option.none] (hD (howsE ks b)) σ H Q) := ⟨fun pins s σ H Q I ⟨b, q⟩ => (dcomp rfl b).run pins s σ H Q I q⟩
  refine ⟨_, pss_cons (ps_set (i := 1) sc_L_ends.nd rfl (.inr rfl) pe_dnewK) (pss_cons (ps_for PassesOwn.never rfl (i_tup (d_tup (a_cons (d_str (C := C) (γ := [some (lsD ks), Option.none, Option.none, Option.none, Option.none])) (a_cons d_str a_nil)) (by decide))) (pg_name (i := 2) sc_L_ends.nd rfl (.inr rfl)) (pss_one (ps_dput (room1 hr) (pe_var (i := 1) rfl (.inr (.inl rfl))) (pe_var (i := 2) rfl (.inr (.inl rfl))) tvv rfl))) rest), ?_⟩
  intro G σ Q sm sl q l hl
  have acc0 : AccK K C G H l [] G (upd H l (.dK [])) := AccK.start (Nx.refl sm) hl
  refine ⟨G, acc0.s, sl.setN (j := 1) (x := some (.ref l)), fun J G1 H1 n1 wk => ?_⟩
  have acc1 := acc0.step n1
  refine ⟨fun i m σ' H' => m = 2 - i ∧ i ≤ 2 ∧ ∃ (G' : Hp) (o2 : Option D), Same G1 G' ∧ AccK K C G H l (([((.inr "front" : Key), hD (howsE ks false)), (.inr "back", hD (howsE ks true))] : List (Key × D)).take i) G' H' ∧ Sl K C G' σ' [some (lsD ks), Option.none, o2, Option.none, Option.none] ∧ σ'[1]? = some (some (.ref l)), ⟨_, rfl, by decide, G1, Option.none, Same.refl _, acc1, (sl.setN (j := 1) (x := some (.ref l))).mono n1.g, List.getElem?_set_self (by rw [sl.len]; show 1 < 5; decide)⟩, ?_⟩
  rintro i m σ' H' ⟨rfl, hi', G', o2, s1, acc', sl', own⟩
  by_cases hlt : i < 2
  · refine .inr ⟨wk.goes i H' hlt (s1.trans acc'.s), fun σ2 H2 => ∃ (G' : Hp) (o2 : Option D), Same G1 G' ∧ AccK K C G H l (([((.inr "front" : Key), hD (howsE ks false)), (.inr "back", hD (howsE ks true))] : List (Key × D)).take (i + 1)) G' H2 ∧ Sl K C G' σ2 [some (lsD ks), Option.none, o2, Option.none, Option.none] ∧ σ2[1]? = some (some (.ref l)), fun σ2 H2 ⟨G2, o, h1, h2, h3, h4⟩ => ⟨2 - (i + 1), by omega, rfl, by omega, G2, o, h1, h2, h3, h4⟩, fun x H2 y => ?_⟩
    obtain ⟨d, G2, hd2, n2, a2⟩ := wk.yields i H' x H2 G' hlt s1 acc'.s y
    have hb : ∃ b : Bool, d = .str (sd b) ∧ (([((.inr "front" : Key), hD (howsE ks false)), (.inr "back", hD (howsE ks true))] : List (Key × D)).take (i + 1)) = (([((.inr "front" : Key), hD (howsE ks false)), (.inr "back", hD (howsE ks true))] : List (Key × D)).take i) ++ [((.inr (sd b) : Key), hD (howsE ks b))] ∧ (.inr (sd b) : Key) ∉ (([((.inr "front" : Key), hD (howsE ks false)), (.inr "back", hD (howsE ks true))] : List (Key × D)).take i).map (·.1) := by
      match i, hlt with
      | 0, _ => exact ⟨false, (Option.some.inj hd2).symm, rfl, by simp⟩
      | 1, _ => exact ⟨true, (Option.some.inj hd2).symm, rfl, by
          intro z
          have z2 := List.mem_singleton.mp z
          exact absurd (Sum.inr.inj z2) (by decide +kernel)⟩
    obtain ⟨b, rfl, et, hk⟩ := hb
    have acc2 := acc'.step n2
    have sl2 : Sl K C G2 (σ'.set 2 (some x)) [some (lsD ks), Option.none, some (.str (sd b)), Option.none, Option.none] := (sl'.mono n2.g).set (j := 2) a2
    have own2 : (σ'.set 2 (some x))[1]? = some (some (.ref l)) := by rw [List.getElem?_set_ne (by decide)]; exact own
    have x2 : (σ'.set 2 (some x))[2]? = some (some x) := List.getElem?_set_self (by rw [sl'.len]; show 2 < 5; decide)
    refine ⟨b, G2, acc2.s, sl2, fun v G3 H3 n3 a3 => ?_⟩
    have acc3 := acc2.step n3
    obtain ⟨vs, e1, e2⟩ := acc3.at_
    refine ⟨.ref l, own2, x, x2, l, upd H3 l (.dK (putK vs (.inr (sd b)) v)), rfl, ?_, G3, some (.str (sd b)), s1.trans (n2.g.trans n3.g), acc3.put hl ?_, ?_, own2⟩
    · rw [a2.str']
      refine DPut.k (k := .inr (sd b)) e1 ?_
      have e3 := congrArg List.length e2.keys
      rw [List.length_map, List.length_map, List.length_take] at e3
      have : (1000 : Nat) < sizeLine := by decide
      have e4 : (([((.inr "front" : Key), hD (howsE ks false)), (.inr "back", hD (howsE ks true))] : List (Key × D))).length = 2 := rfl
      omega
    · rw [et, putK_new (by rw [e2.keys]; exact hk)]
      exact e2.snoc a3
    · exact sl2.mono n3.g
  · have ei : i = 2 := by omega
    subst ei
    refine .inl ⟨wk.stops H' (s1.trans acc'.s), ?_⟩
    obtain ⟨G2, n2, s2, a2⟩ := acc'.done hl
    exact ⟨G2, n2.s, ((sl'.mono s2).drop (i := 2)).put own a2, fun _ _ _ _ _ _ z => z.elim, fun d v G3 H3 n3 a3 e => q v G3 H3 (n2.trans n3) (by rw [← e]; exact a3), fun _ _ _ _ _ _ z => z.elim, fun _ _ _ _ _ _ z => z.elim⟩
end
end Kp

namespace Kp
open PySem PySem.Spec PyProof.Rows L2
section
variable {P : Program} {w : World} {K : PySem.W.Frag} {mg : Str → Option Value} {base : Heap} {C : Addr}
abbrev FdLEnds : List D → D → Prop := fun ds d => ∃ ks, ds = [lsD ks] ∧ d = endsD (flOf ks)
abbrev FdDue : List D → D → Prop := fun ds d => ∃ ks, ds = [lsD ks] ∧ d = fmD (fmOf ks)
theorem df_L_due (T : Tp K mg) (F1 : Df P w K mg base C 1 "_law_ends" FdLEnds) (h : Has K mg "_law_due" s_L_due ["_law_sorts_here"]) : Df P w K mg base C 2 "_law_due" FdDue := by
  refine df_mk h sc_L_due (fun ds d ⟨ks, e, _⟩ => by rw [e] <;> rfl) fun f cdv A outer s H E ds d hr ⟨ks, e, ed⟩ => ?_
  subst e ed
  have u : (cxOf CX0 P w K mg base n_L_due "_law_due" (defScope s_L_due) f cdv A outer s H E).nox.A.units + 64 < cLine := room_un hr
  refine s_cons (s_asg (d_call F1 hr (a_cons (dv 0) a_nil) ⟨ks, rfl, rfl⟩) (g_pair 1 2 rfl sc_L_due.nd) rfl ?_)
  show PSsD _ _ _ [some (lsD ks), some (hD (hs (flOf ks).m1 (flOf ks).n1)), some (hD (hs (flOf ks).m2 (flOf ks).n2)), Option.none] _
  unfold fmOf
  have eh : (flOf ks).hard = (ks.contains .swap || (ks.contains .move || (ks.contains .am || ks.contains .an))) := by
    unfold Fl.hard flOf
    simp [Bool.or_assoc]
  have et : (flOf ks).turn = ks.contains .turn := rfl
  have er : (flOf ks).rev = ks.contains .rev := rfl
  generalize hfl : flOf ks = fl at eh et er
  refine s_cons (s_set 3 sc_L_due.nd (PD.of (d_or (d_cmp op_in_seq d_str (dv 0) (rd_in false rfl (kds_flat ks) (.inl rfl))) fun _ => d_one (d_cmp op_in_seq d_str (dv 0) (rd_in false rfl (kds_flat ks) (.inl rfl)))) (z := .bl (ks.contains .am || ks.contains .an)) ?_) ?_)
  · show D.bl (inD (.str Kd.am.s) (kds ks) || inD (.str Kd.an.s) (kds ks)) = _
    rw [inD_con, inD_con]
  refine s_cons (s_if (k := fl.hard || (fl.m1 && fl.n1) || (fl.m2 && fl.n2)) (t_of (PW.of0 (w_or (t_cmp op_in_seq d_str (dv 0) (rd_in false rfl (kds_flat ks) (.inl rfl))) fun _ => w_or (t_cmp op_in_seq d_str (dv 0) (rd_in false rfl (kds_flat ks) (.inl rfl))) fun _ => w_or (t_val (k := ks.contains .am || ks.contains .an) (dv 3)) fun _ => w_or (t_cmp op_eq (d_callB call_len (T.b _) (a_cons (dv 1) a_nil) rc_lenL) d_int rd_eqI) fun _ => w_or1 (t_cmp op_eq (d_callB call_len (T.b _) (a_cons (dv 2) a_nil) rc_lenL) d_int rd_eqI)) ?_))
    (fun k => s_one (s_ret (d_tup (a_cons d_str a_nil) (by show 1 ≤ 1000; decide)) ?_)) fun k1 => s_nil ?_)
  · rw [hs_len, hs_len, eh]
    show (inD (.str Kd.swap.s) (kds ks) || (inD (.str Kd.move.s) (kds ks) || _)) = _
    rw [inD_con, inD_con]
    simp only [Bool.or_assoc]
  · have : fl.form = .all := by
      unfold Fl.form
      by_cases z : fl.hard = true
      · rw [if_pos z]
      · rw [if_neg z]
        have z' : fl.hard = false := by simpa using z
        rw [z', Bool.false_or] at k
        rw [if_pos (by rw [k, Bool.true_or])]
    rw [this]
    rfl
  have kh : fl.hard = false ∧ (fl.m1 && fl.n1) = false ∧ (fl.m2 && fl.n2) = false := by
    simpa [Bool.or_eq_false_iff, and_assoc] using k1
  refine s_cons (s_if (k := fl.turn) (PTD.of (t_cmp op_in_seq d_str (dv 0) (rd_in false rfl (kds_flat ks) (.inl rfl))) (by rw [et]; exact inD_con .turn ks))
    (fun k => s_one (s_ret (d_if (d := fmD fl.form) (PTD.of (t_cmp (op_eqD u) (d_op op_cat (dv 1) (dv 2) (rd_cat ?_)) (d_lst a_nil (by decide)) (rd_eqD (hs_catpd _ _ _ _) rfl (hs_catsh _ _ _ _) sh_nil)) (q := !(fl.m1 || fl.n1 || fl.m2 || fl.n2)) ?_) (fun k' => PD.of (d_tup (a_cons d_str (a_cons d_str a_nil)) (by show 2 ≤ 1000; decide)) ?_) fun k' => PD.of (d_tup (a_cons d_str a_nil) (by show 1 ≤ 1000; decide)) ?_) rfl)) fun k3 => s_nil ?_)
  · have h1 := hs_short fl.m1 fl.n1
    have h2 := hs_short fl.m2 fl.n2
    omega
  · have z := hs_cat fl.m1 fl.n1 fl.m2 fl.n2
    rw [← z, Bool.not_not]
  · have k2 : (fl.m1 || fl.n1 || fl.m2 || fl.n2) = false := by rw [Bool.not_eq_true'] at k'; exact k'
    have : fl.form = .p3 := by
      unfold Fl.form
      rw [if_neg (by rw [kh.1]; exact Bool.false_ne_true), if_neg (by rw [kh.2.1, kh.2.2, k2]; simp), if_pos k]
    rw [this]
    rfl
  · have k2 : (fl.m1 || fl.n1 || fl.m2 || fl.n2) = true := by rw [Bool.not_eq_false'] at k'; exact k'
    have : fl.form = .all := by
      unfold Fl.form
      rw [if_neg (by rw [kh.1]; exact Bool.false_ne_true), if_pos (by rw [k2, k]; simp)]
    rw [this]
    rfl
  have k2 : ¬ ((fl.m1 && fl.n1) || (fl.m2 && fl.n2) || (fl.turn && (fl.m1 || fl.n1 || fl.m2 || fl.n2))) = true := by
    rw [kh.2.1, kh.2.2, k3]
    simp
  have k0 : ¬ fl.hard = true := by rw [kh.1]; exact Bool.false_ne_true
  have k3' : ¬ fl.turn = true := by rw [k3]; exact Bool.false_ne_true
  refine s_cons (s_if (k := (fl.m1 || fl.n1) && (decide (fl.m1 = fl.m2) && decide (fl.n1 = fl.n2))) (t_of (w_and (l := decide (fl.m1 = fl.m2) && decide (fl.n1 = fl.n2)) (PTD.of (t_cmp (op_neD u) (dv 1) (d_lst a_nil (by decide)) (rd_neD (hs_pd _ _) rfl (hs_sh _ _) sh_nil)) (hs_nil _ _)) fun _ => w_and1 (PTD.of (t_cmp (op_eqD u) (dv 1) (dv 2) (rd_eqD (hs_pd _ _) (hs_pd _ _) (hs_sh _ _) (hs_sh _ _))) (hs_eq _ _ _ _))))
    (fun k => s_one (s_ret (d_if (d := fmD fl.form) (PTD.of (t_cmp (op_eqD u) (dv 1) (d_lst (a_cons d_str a_nil) (by decide)) (rd_eqD (hs_pd _ _) rfl (hs_sh _ _) sh_must)) (hs_must _ _)) (fun k' => PD.of (d_tup (a_cons d_str a_nil) (by show 1 ≤ 1000; decide)) ?_) fun k' => PD.of (d_tup (a_cons d_str a_nil) (by show 1 ≤ 1000; decide)) ?_) rfl)) fun k4 => s_nil ?_)
  · rw [Bool.and_eq_true, Bool.and_eq_true, decide_eq_true_eq, decide_eq_true_eq] at k
    rw [show fl.form = .f101 from by unfold Fl.form; rw [if_neg k0, if_neg k2, if_neg k3', if_pos ⟨k.2.1, k.2.2, k.1⟩, if_pos k']]
    rfl
  · rw [Bool.and_eq_true, Bool.and_eq_true, decide_eq_true_eq, decide_eq_true_eq] at k
    rw [show fl.form = .f010 from by unfold Fl.form; rw [if_neg k0, if_neg k2, if_neg k3', if_pos ⟨k.2.1, k.2.2, k.1⟩, if_neg (by rw [k']; exact Bool.false_ne_true)]]
    rfl
  have k4' : ¬ (fl.m1 = fl.m2 ∧ fl.n1 = fl.n2 ∧ (fl.m1 || fl.n1) = true) := fun z => by
    rw [decide_eq_true z.1, decide_eq_true z.2.1, z.2.2] at k4
    cases k4
  refine s_cons (s_if (k := fl.rev) (PTD.of (t_cmp op_in_seq d_str (dv 0) (rd_in false rfl (kds_flat ks) (.inl rfl))) (by rw [er]; exact inD_con .rev ks))
    (fun k => s_one (s_ret (d_tup (a_cons d_str (a_cons d_str a_nil)) (by show 2 ≤ 1000; decide)) (by rw [show fl.form = .p2 from by unfold Fl.form; rw [if_neg k0, if_neg k2, if_neg k3', if_neg k4', if_pos k]]; rfl))) fun k5 => s_nil ?_)
  refine s_one (s_ret (d_if (d := fmD fl.form) (k := (fl.m1 && !fl.n1) || (fl.n2 && !fl.m2)) (t_of (w_or (PTD.of (t_cmp (op_eqD u) (dv 1) (d_lst (a_cons d_str a_nil) (by decide)) (rd_eqD (hs_pd _ _) rfl (hs_sh _ _) sh_must)) (hs_must _ _)) fun _ => w_or1 (PTD.of (t_cmp (op_eqD u) (dv 2) (d_lst (a_cons d_str a_nil) (by decide)) (rd_eqD (hs_pd _ _) rfl (hs_sh _ _) sh_not)) (hs_not _ _))))
    (fun k => PD.of (d_tup (a_cons d_str a_nil) (by show 1 ≤ 1000; decide)) ?_) fun k => PD.of (d_tup (a_cons d_str a_nil) (by show 1 ≤ 1000; decide)) ?_) rfl)
  · rw [show fl.form = .f10 from by unfold Fl.form; rw [if_neg k0, if_neg k2, if_neg k3', if_neg k4', if_neg (by rw [k5]; exact Bool.false_ne_true), if_pos k]]
    rfl
  · rw [show fl.form = .f01 from by unfold Fl.form; rw [if_neg k0, if_neg k2, if_neg k3', if_neg k4', if_neg (by rw [k5]; exact Bool.false_ne_true), if_neg (by rw [k]; exact Bool.false_ne_true)]]
    rfl
end
end Kp

namespace Kp
open PySem PySem.Spec PyProof.Rows L2
def deedsM (ks : List Kd) (u : List Bool) : List Stp := (if u.contains true then [Stp.next] else []) ++ ks.flatMap fun k => stepsM k u.length
def deedsD (u : List Bool) (ks : List Kd) : List D := (List.replicate (if u.contains true then (1 : Int) else 0).toNat [Stp.next.d]).flatten ++ (ks.flatMap fun k => (stepsM k u.length).map Stp.d)
theorem deedsD_eq (u : List Bool) (ks : List Kd) : deedsD u ks = (deedsM ks u).map Stp.d := by
  unfold deedsD deedsM
  rw [List.map_append, List.map_flatMap]
  congr 1
  split <;> rfl
theorem deedsD_snoc (u : List Bool) (ks : List Kd) (k : Kd) : deedsD u (ks ++ [k]) = deedsD u ks ++ (stepsM k u.length).map Stp.d := by
  unfold deedsD
  rw [List.flatMap_append, ← List.append_assoc]
  simp
theorem deedsM_len (u : List Bool) : ∀ ks : List Kd, (deedsM ks u).length ≤ 1 + ks.length * (u.length + 1)
  | [] => by
    unfold deedsM
    split <;> simp
  | k :: ks => by
    have ih := deedsM_len u ks
    have h := stepsM_len k u.length
    unfold deedsM at ih ⊢
    rw [List.length_append] at ih ⊢
    rw [List.flatMap_cons, List.length_append, List.length_cons, Nat.add_mul]
    omega
section
variable {P : Program} {w : World} {K : PySem.W.Frag} {mg : Str → Option Value} {base : Heap} {C : Addr}
abbrev FdDeeds : List D → D → Prop := fun ds d => ∃ ks u, ds = [lsD ks, .str (sW u)] ∧ Kd.swap ∉ ks ∧ Kd.move ∉ ks ∧ u.length ≤ 20 ∧ ks.length ≤ 20 ∧ d = .lst ((deedsM ks u).map Stp.d)
theorem df_L_deeds (T : Tp K mg) (F1 : Df P w K mg base C 1 "_law_deeds_of" FdSteps) (h : Has K mg "_law_deeds" s_L_deeds ["_law_sorts_here", "_law_page"]) : Df P w K mg base C 2 "_law_deeds" FdDeeds := by
  refine df_mkT h sc_L_deeds (fun ds d ⟨ks, u, e, _⟩ => by rw [e] <;> rfl) fun f cdv A outer s H E ds d hr ⟨ks, u, e, hsw, hmv, hu, hks, ed⟩ => ?_
  subst e ed
  have argk : ∀ {tg it fn ag : Expr} {p p2 p3 : Pos} {els : List Stmt}, (defBody s_L_deeds).getD 1 (.Pass ⟨0, 0, 0, 0⟩) = .For tg it [.Expr (.Call fn [ag] [] p) p2] els p3 → ∀ k ∈ ks, PE (cxOf CX0 P w K mg base n_L_deeds "_law_deeds" (defScope s_L_deeds) f cdv A outer s H E).nox ag (cE K C [some (lsD ks), some (.str (sW u)), Option.none, some (.str k.s)] (.lst ((stepsM k u.length).map Stp.d))) := fun he k hk => by
    cases he
    exact d_call F1 hr (a_cons (dv 3) (a_cons (PD.of (d_callB call_len (T.b _) (a_cons (dv 1) a_nil) (rc_lenS (by rw [sW_len]; omega))) (congrArg (fun (z : Nat) => D.int (z : Int)) (sW_len u))) a_nil)) ⟨k, u.length, rfl, fun z => hsw (z ▸ hk), fun z => hmv (z ▸ hk), by omega, rfl⟩
  have arg : PE (cxOf CX0 P w K mg base n_L_deeds "_law_deeds" (defScope s_L_deeds) f cdv A outer s H E).nox _ (fun σ H Q => ∃ k, k ∈ ks ∧ cE K C [some (lsD ks), some (.str (sW u)), Option.none, some (.str k.s)] (.lst ((stepsM k u.length).map Stp.d)) σ H Q) := ⟨fun pins s' σ H' Q I ⟨k, hk, q⟩ => (argk rfl k hk).run pins s' σ H' Q I q⟩
  refine ⟨_, pss_cons (ps_set (i := 2) sc_L_deeds.nd rfl (.inl rfl) (pe_op op_rep (d_lst (C := C) (γ := [some (lsD ks), some (.str (sW u)), Option.none, Option.none]) (a_cons (d_tup (a_cons d_str a_nil) (by show 1 ≤ 1000; decide)) a_nil) (by show 1 ≤ 1000; decide)) (d_callTy (C := C) (γ := [some (lsD ks), some (.str (sW u)), Option.none, Option.none]) call_int1 (T.b _) (a_cons (PD.of (d_cmp op_in_sign (PD.of d_str (z := .str ⟨#[49]⟩) (by rfl)) (dv 1) rd_inS) (congrArg D.bl (has_one u))) a_nil) rc_intB))) (pss_cons (ps_for PassesOwn.never rfl (i_list (dv (C := C) (γ := [some (lsD ks), some (.str (sW u)), Option.none, Option.none]) 0)) (pg_name (i := 3) sc_L_deeds.nd rfl (.inl rfl)) (pss_one (ps_expr (pe_bm PySem.F.plainAttrs_list PySem.F.slot_list_extend PySem.F.type_list_extend mt_extend (pe_var (i := 2) rfl (.inl rfl)) (pa_cons arg pa_nil))))) (pss_one (ps_ret (pe_var (i := 2) rfl (.inl rfl))))), ?_⟩
  intro G σ Q sm sl q
  refine ⟨G, sm, sl, fun v1 G1 H1 n1 a1 => ⟨G1, n1.s, sl.mono n1.g, fun v2 G2 H2 n2 a2 => ?_⟩⟩
  obtain ⟨p0, us, rfl, g0, r0⟩ := a1.lst'
  rw [a2.int']
  have l0 : us.length = 1 := r0.len
  have b1 : ((if u.contains true then (1 : Int) else 0)) ≤ 1 ∧ 0 ≤ (if u.contains true then (1 : Int) else 0) := by split <;> decide
  refine ⟨p0, _, us, rfl, rfl, n2.s _ _ (n2.g _ _ g0), by omega, by omega, ?_, fun l hl => ?_⟩
  · rw [l0]
    have : (1000 : Nat) < sizeLine := by decide
    omega
  have n12 := n1.trans n2
  have hlH : H l = Option.none := n12.h.free hl
  have acc0 : Acc K C G H l (deedsD u (ks.take 0)) G2 (upd H2 l (.lst (List.replicate (if u.contains true then (1 : Int) else 0).toNat us).flatten)) := ⟨n12.g, n12.h.trans (Same.new hl), n12.s.trans (Same.new hl), n12.n, n12.s.free hl, _, upd_same, by
    unfold deedsD
    rw [List.take_zero, List.flatMap_nil, List.append_nil]
    have r1 := r0.mono n2.g
    split
    · show AtL K C G2 [Stp.next.d] (us ++ [])
      rw [List.append_nil]
      exact r1
    · exact .nil⟩
  refine ⟨G2, acc0.s, (sl.mono n12.g).setN (j := 2) (x := some (.ref l)), fun J G3 H3 n3 wk => ?_⟩
  have acc3 := acc0.step n3
  refine ⟨fun i m σ' H' => m = ks.length - i ∧ i ≤ ks.length ∧ ∃ (G' : Hp) (o3 : Option D), Same G3 G' ∧ Acc K C G H l (deedsD u (ks.take i)) G' H' ∧ Sl K C G' σ' [some (lsD ks), some (.str (sW u)), Option.none, o3] ∧ σ'[2]? = some (some (.ref l)), ⟨_, rfl, Nat.zero_le _, G3, Option.none, Same.refl _, acc3, ((sl.mono n12.g).setN (j := 2) (x := some (.ref l))).mono n3.g, List.getElem?_set_self (by rw [sl.len]; show 2 < 4; decide)⟩, ?_⟩
  rintro i m σ' H' ⟨rfl, hi', G', o3, s1, acc', sl', own⟩
  have hlen : (kds ks).length = ks.length := by unfold kds; rw [List.length_map]
  by_cases hlt : i < ks.length
  · refine .inr ⟨wk.goes i H' (by rw [hlen]; exact hlt) (s1.trans acc'.s), fun σ2 H2 => ∃ (G' : Hp) (o3 : Option D), Same G3 G' ∧ Acc K C G H l (deedsD u (ks.take (i + 1))) G' H2 ∧ Sl K C G' σ2 [some (lsD ks), some (.str (sW u)), Option.none, o3] ∧ σ2[2]? = some (some (.ref l)), fun σ2 H2 ⟨G2, o, h1, h2, h3, h4⟩ => ⟨ks.length - (i + 1), by omega, rfl, by omega, G2, o, h1, h2, h3, h4⟩, fun x H2 y => ?_⟩
    obtain ⟨d, G4, hd2, n4, a4⟩ := wk.yields i H' x H2 G' (by rw [hlen]; exact hlt) s1 acc'.s y
    have ed : d = .str (ks[i]'hlt).s := by
      unfold kds at hd2
      rw [List.getElem?_map, List.getElem?_eq_getElem hlt] at hd2
      exact (Option.some.inj hd2).symm
    subst ed
    have acc4 := acc'.step n4
    have sl4 : Sl K C G4 (σ'.set 3 (some x)) [some (lsD ks), some (.str (sW u)), Option.none, some (.str (ks[i]'hlt).s)] := (sl'.mono n4.g).set (j := 3) a4
    have own4 : (σ'.set 3 (some x))[2]? = some (some (.ref l)) := by rw [List.getElem?_set_ne (by decide)]; exact own
    obtain ⟨us4, hl4, r4⟩ := acc4.at_
    refine ⟨.ref l, own4, .inl ⟨rfl, us4, SqL.of hl4⟩, ks[i], List.getElem_mem hlt, G4, acc4.s, sl4, fun v5 G5 H5 n5 a5 => ?_⟩
    have acc5 := acc4.step n5
    obtain ⟨us5, hl5, r5⟩ := acc5.at_
    obtain ⟨b, zs, rfl, gb, rb⟩ := a5.lst'
    have e5 := r5.len
    rw [deedsD_eq, List.length_map] at e5
    have e6 := rb.len
    rw [List.length_map] at e6
    have e7 := stepsM_len ks[i] u.length
    have e8 := deedsM_len u (ks.take i)
    have e9 : (ks.take i).length * (u.length + 1) ≤ 20 * 21 := Nat.mul_le_mul (by rw [List.length_take]; omega) (by omega)
    refine ⟨l, b, us5, zs, rfl, rfl, hl5, acc5.s _ _ gb, ?_, G5, some (.str (ks[i]'hlt).s), s1.trans (n4.g.trans n5.g), acc5.put hlH ?_, sl4.mono n5.g, own4⟩
    · have : (1000 : Nat) < sizeLine := by decide
      omega
    · have e10 : ks.take (i + 1) = ks.take i ++ [ks[i]] := by rw [List.take_succ_eq_append_getElem hlt]
      rw [e10, deedsD_snoc]
      exact r5.append rb
  · have ei : i = ks.length := by omega
    subst ei
    refine .inl ⟨hlen ▸ wk.stops H' (s1.trans acc'.s), .ref l, own, ?_⟩
    obtain ⟨G6, n6, a6⟩ := acc'.done hlH
    rw [List.take_length, deedsD_eq] at a6
    exact q _ _ _ n6 a6
end
end Kp

namespace Kp
open PySem PySem.Spec PyProof.Rows L2
section
variable {P : Program} {w : World} {K : PySem.W.Frag} {mg : Str → Option Value} {base : Heap} {C : Addr}
abbrev FdAllW : List D → D → Prop := fun ds d => ∃ n : Nat, ds = [.int n] ∧ n ≤ 7 ∧ d = wD (isB (genM n))
abbrev FdClosed : List D → D → Prop := fun ds d => ∃ F ks, ds = [fmD F, lsD ks] ∧ F ≠ .all ∧ (∀ k ∈ ks, F.bears k = true) ∧ ks.length ≤ 20 ∧ d = .bl true
theorem df_L_is_closed (T : Tp K mg) (F1 : Df P w K mg base C 1 "_law_all_words" FdAllW) (F2 : Df P w K mg base C 2 "_law_has" FdHas) (F3 : Df P w K mg base C 2 "_law_deeds" FdDeeds) (F4 : Df P w K mg base C 3 "_law_is_left" FdIsLeft) (h : Has K mg "_law_is_closed" s_L_is_closed ["_law_forms_here", "_law_sorts_here"]) : Df P w K mg base C 4 "_law_is_closed" FdClosed := by
  refine df_mk h sc_L_is_closed (fun ds d ⟨F, ks, e, _⟩ => by rw [e] <;> rfl) fun f cdv A outer s H E ds d hr ⟨F, ks, e, hF, hb, hks, ed⟩ => ?_
  subst e ed
  have hsw : Kd.swap ∉ ks := fun z => (bears_nosw hF (hb _ z)).1 rfl
  have hmv : Kd.move ∉ ks := fun z => (bears_nosw hF (hb _ z)).2 rfl
  refine s_cons (s_for PassesOwn.never rfl (PID.of (i_range1 (T.b _) (a_cons d_int a_nil) (by decide) (by decide)) (rg0 _)) (g_name 2 sc_L_is_closed.nd) (fun i γ => ∃ o2 o3 o4, γ = [some (fmD F), some (lsD ks), o2, o3, o4]) ⟨_, _, _, rfl⟩ ?_ fun γ' ⟨o2, o3, o4, e⟩ => s_one (s_ret d_bl (by rfl)))
  rintro i d γ' hi ⟨o2, o3, o4, rfl⟩
  obtain ⟨hlt, e⟩ := range_at hi
  subst e
  have hlt' : i < 8 := hlt
  refine ⟨_, rfl, s_one (s_for PassesOwn.never rfl (i_list (d_call F1 (hr.mono (by decide)) (a_cons (dv 2) a_nil) ⟨i, rfl, by omega, rfl⟩)) (g_name 3 sc_L_is_closed.nd) (fun j γ => ∃ o3 o4, γ = [some (fmD F), some (lsD ks), some (.int (i : Int)), o3, o4]) ⟨_, _, rfl⟩ ?_ fun γ' ⟨o3, o4, e⟩ => ⟨_, _, _, e⟩)⟩
  rintro j d γ' hj ⟨o3, o4, rfl⟩
  rw [List.getElem?_map, Option.map_eq_some_iff] at hj
  obtain ⟨u, hu, rfl⟩ := hj
  have hmu : u ∈ genM i := (isB_perm _).mem_iff.mp (List.mem_of_getElem? hu)
  have hlu := genM_len i u hmu
  refine ⟨_, rfl, s_one (s_if (k := hasM F u) (t_val (d_call F2 (hr.mono (by decide)) (a_cons (dv 0) (a_cons (dv 3) a_nil)) ⟨F, u, rfl, by omega, rfl⟩)) (fun hh => ?_) fun _ => s_nil ⟨_, _, rfl⟩)⟩
  have fact := clos_fact hF hlt' hmu hh
  refine s_one (s_if (k := false) (PTD.of (t_cmp (op_neD (room_un hr)) (PD.of (d_lc1 "_law_deed" 4 (deedsM ks u) Stp.d (fun _ => false) Stp.d rfl sc_L_is_closed.nd (i_list (d_call F3 (hr.mono (by decide)) (a_cons (dv 1) (a_cons (dv 3) a_nil)) ⟨ks, u, rfl, hsw, hmv, by omega, hks, rfl⟩)) (blkOk_by (N := n_L_is_closed) (sc := defScope s_L_is_closed) (by decide +kernel))
    (fun st hst s H Ca cl fp => ?_) (fun st hst _ s H Ca cl fp => dv 4) ?_) (z := .lst []) ?_) (d_lst a_nil (by decide)) (rd_neD rfl rfl sh_nil sh_nil)) (by decide +kernel)) (fun k => by cases k) fun _ => s_nil ⟨_, _, rfl⟩)
  · obtain ⟨h1, h2⟩ : okL u.length st ∧ (ledM u st).any (hasM F) = true := by
      unfold deedsM at hst
      rcases List.mem_append.mp hst with z | z
      · by_cases hc : u.contains true = true
        · rw [if_pos hc] at z
          have e := List.mem_singleton.mp z
          subst e
          exact ⟨trivial, fact.1 hc⟩
        · rw [if_neg hc] at z
          cases z
      · obtain ⟨k, hk, hs⟩ := List.mem_flatMap.mp z
        exact ⟨stepsM_ok hs, fact.2 k (hb k hk) st (by rw [← hlu]; exact hs)⟩
    exact ts_one (PTD.of (t_val (d_call F4 hr (a_cons (dv 0) (a_cons (dv 3) (a_cons (dv 4) a_nil))) ⟨F, u, st, rfl, by omega, h1, rfl⟩)) (by rw [h2]; rfl))
  · have h1 := deedsM_len u ks
    have h2 : ks.length * (u.length + 1) ≤ 20 * 21 := Nat.mul_le_mul hks (by omega)
    omega
  · rw [List.filter_eq_nil_iff.mpr (fun _ _ => by simp)]
    rfl
end
end Kp

/-! # The draw layer: a dict that is written, beside the data. The bound b: the turn is at most b. -/
namespace Kp
open PySem PySem.Spec PyProof.Rows L2
def drK (al ai : Addr) (l t : Int) : List (Key × V) := [(.inr "large", .ref al), (.inr "items", .ref ai), (.inr "left", .int l), (.inr "turn", .int t)]
/-- the draw's address, the tables of code objects -/
structure Dz where
  a : Addr
  T : List (Addr × Str)
theorem tabs_upd {T : List (Addr × Str)} {H : Hp} {a : Addr} {o o' : HO} (t : LamX.Tabs T H) (e : H a = some o) (h1 : ∀ ps, o ≠ .tbl ps) (h2 : ∀ c q, o ≠ LamX.CodeO c q) : LamX.Tabs T (upd H a o') := fun p hp => by
  obtain ⟨ps, e1, e2, e3⟩ := t p hp
  have n1 : p.1 ≠ a := fun z => by rw [z, e] at e1; exact h1 ps (Option.some.inj e1)
  refine ⟨ps, by rw [upd_ne n1]; exact e1, e2, fun pos cv hc => ?_⟩
  obtain ⟨c, k1, k2⟩ := e3 pos cv hc
  have n2 : c ≠ a := fun z => by rw [z, e] at k2; exact h2 _ _ (Option.some.inj k2)
  exact ⟨c, k1, by rw [upd_ne n2]; exact k2⟩
theorem dk_notbl {kvs : List (Key × V)} : (∀ ps, (HO.dK kvs) ≠ .tbl ps) ∧ ∀ (c : Addr) (q : Str), (HO.dK kvs) ≠ LamX.CodeO c q := ⟨fun ps z => (by cases z), fun c q z => (by unfold LamX.CodeO at z; cases z)⟩
theorem lst_notbl {vs : List V} : (∀ ps, (HO.lst vs) ≠ .tbl ps) ∧ ∀ (c : Addr) (q : Str), (HO.lst vs) ≠ LamX.CodeO c q := ⟨fun ps z => (by cases z), fun c q z => (by unfold LamX.CodeO at z; cases z)⟩
/-- the draw stands at a, outside the data -/
def J (a : Dz) (b : Nat) (G H : Hp) : Prop := ∃ (al ai : Addr) (l t : Int) (ns ms : List Int), H a.a = some (.dK (drK al ai l t)) ∧ H al = some (.lst (ns.map .int)) ∧ H ai = some (.lst (ms.map .int)) ∧ G a.a = Option.none ∧ G al = Option.none ∧ G ai = Option.none ∧ 0 ≤ t ∧ t ≤ b ∧ LamX.Tabs a.T H
theorem J.nx {a : Dz} {b : Nat} {G H G' H' : Hp} (j : J a b G H) (n : Nx G H G' H') : J a b G' H' := by
  obtain ⟨al, ai, l, t, ns, ms, h1, h2, h3, g1, g2, g3, t0, t1, hT⟩ := j
  exact ⟨al, ai, l, t, ns, ms, n.h _ _ h1, n.h _ _ h2, n.h _ _ h3, n.n _ g1 (by rw [h1]; simp), n.n _ g2 (by rw [h2]; simp), n.n _ g3 (by rw [h3]; simp), t0, t1, hT.ext n.h⟩
theorem J.mono {a : Dz} {b b' : Nat} {G H : Hp} (j : J a b G H) (h : b ≤ b') : J a b' G H := by
  obtain ⟨al, ai, l, t, ns, ms, h1, h2, h3, g1, g2, g3, t0, t1, hT⟩ := j
  exact ⟨al, ai, l, t, ns, ms, h1, h2, h3, g1, g2, g3, t0, by omega, hT⟩
/-- growth of the data alone -/
structure Gx (a : Dz) (b : Nat) (G G' H' : Hp) : Prop where
  g : Same G G'
  s : Same G' H'
  j : J a b G' H'
theorem Gx.trans {a : Dz} {b b' : Nat} {G G1 H1 G2 H2 : Hp} (x : Gx a b G G1 H1) (y : Gx a b' G1 G2 H2) : Gx a b' G G2 H2 := ⟨x.g.trans y.g, y.s, y.j⟩
theorem Gx.of {a : Dz} {b : Nat} {G H G' H' : Hp} (j : J a b G H) (n : Nx G H G' H') : Gx a b G G' H' := ⟨n.g, n.s, j.nx n⟩
theorem Gx.refl {a : Dz} {b : Nat} {G H : Hp} (s : Same G H) (j : J a b G H) : Gx a b G G H := ⟨Same.refl _, s, j⟩
theorem Gx.mono {a : Dz} {b b' : Nat} {G G' H' : Hp} (x : Gx a b G G' H') (h : b ≤ b') : Gx a b' G G' H' := ⟨x.g, x.s, x.j.mono h⟩
section
variable (K : PySem.W.Frag) (C : Addr) (a : Dz) (b b' : Nat)
def jE (γ : DSt) (Pd : D → Prop) : TE := fun σ H Q => ∃ G, Same G H ∧ Sl K C G σ γ ∧ J a b G H ∧ ∀ v d G' H', Gx a b' G G' H' → Pd d → At K C G' d v → Q v H'
def jT (γ : DSt) (k : Bool) : TT := fun σ H Q => ∃ G, Same G H ∧ Sl K C G σ γ ∧ J a b G H ∧ ∀ G' H', Gx a b' G G' H' → Q k H'
def jA (γ : DSt) (Pds : List D → Prop) : TA := fun σ H Q => ∃ G, Same G H ∧ Sl K C G σ γ ∧ J a b G H ∧ ∀ vs ds G' H', Gx a b' G G' H' → Pds ds → AtL K C G' ds vs → Q vs H'
def jI (γ : DSt) (Px : List D → Prop) : TI := fun σ H R => ∃ G, Same G H ∧ Sl K C G σ γ ∧ J a b G H ∧ ∀ Jt xs G' H', Gx a b' G G' H' → Px xs → WkD K C Jt G' xs → R Jt H'
def jS (γ : DSt) (E : DE) : TS := fun Dn σ H => ∃ G, Same G H ∧ Sl K C G σ γ ∧ J a b G H ∧
  (∀ σ' γ' G' H', Gx a b' G G' H' → Sl K C G' σ' γ' → E.nx γ' → Dn.nx σ' H') ∧ (∀ d v G' H', Gx a b' G G' H' → At K C G' d v → E.rt d → Dn.rt v H') ∧
  (∀ σ' γ' G' H', Gx a b' G G' H' → Sl K C G' σ' γ' → E.bk γ' → Dn.bk σ' H') ∧ (∀ σ' γ' G' H', Gx a b' G G' H' → Sl K C G' σ' γ' → E.ct γ' → Dn.ct σ' H')
end
def PEJ (C : Addr) (a : Dz) (b b' : Nat) (X : Cx) (e : Expr) (γ : DSt) (Pd : D → Prop) : Prop := PE X e (jE X.K C a b b' γ Pd)
def PTJ (C : Addr) (a : Dz) (b b' : Nat) (X : Cx) (e : Expr) (γ : DSt) (k : Bool) : Prop := PT X e (jT X.K C a b b' γ k)
def PAJ (C : Addr) (a : Dz) (b b' : Nat) (X : Cx) (es : List Expr) (γ : DSt) (Pds : List D → Prop) : Prop := PA X es (jA X.K C a b b' γ Pds)
def PIJ (C : Addr) (a : Dz) (b b' : Nat) (X : Cx) (tg e : Expr) (γ : DSt) (Px : List D → Prop) : Prop := PI X tg e (jI X.K C a b b' γ Px)
def PSJ (C : Addr) (a : Dz) (b b' : Nat) (X : Cx) (st : Stmt) (γ : DSt) (E : DE) : Prop := PS X st (jS X.K C a b b' γ E)
def PSsJ (C : Addr) (a : Dz) (b b' : Nat) (X : Cx) (st : List Stmt) (γ : DSt) (E : DE) : Prop := PSs X st (jS X.K C a b b' γ E)
section
variable {C : Addr} {a : Dz} {b b' b1 b2 : Nat} {X : Cx} {c e e2 : Expr} {es : List Expr} {γ : DSt} {d : D} {pos p : Pos} {st : Stmt} {rest body orelse : List Stmt} {E : DE} {tg : Expr}
/-! ### what is pure -/
theorem je_of (h : PD C X e γ d) : PEJ C a b b X e γ (fun z => z = d) := PE.weak h fun σ H Q ⟨G, s, sl, j, q⟩ => ⟨G, s, sl, fun v G1 H1 n1 a1 => q v d G1 H1 (Gx.of j n1) rfl a1⟩
theorem je_imp {Pd Pd' : D → Prop} (h : PEJ C a b b' X e γ Pd) (w : ∀ d, Pd d → Pd' d) : PEJ C a b b' X e γ Pd' := PE.weak h fun σ H Q ⟨G, s, sl, j, q⟩ => ⟨G, s, sl, j, fun v d G1 H1 x p a1 => q v d G1 H1 x (w d p) a1⟩
theorem js_of (hb : b ≤ b') (h : PSD C X st γ E) : PSJ C a b b' X st γ E := PS.weak h fun Dn σ H ⟨G, s, sl, j, kn, kr, kb, kc⟩ =>
  ⟨G, s, sl, fun σ' γ' G' H' n => kn σ' γ' G' H' ((Gx.of j n).mono hb), fun d v G' H' n => kr d v G' H' ((Gx.of j n).mono hb), fun σ' γ' G' H' n => kb σ' γ' G' H' ((Gx.of j n).mono hb), fun σ' γ' G' H' n => kc σ' γ' G' H' ((Gx.of j n).mono hb)⟩
theorem jss_of (hb : b ≤ b') (h : PSsD C X rest γ E) : PSsJ C a b b' X rest γ E := PSs.weak h fun Dn σ H ⟨G, s, sl, j, kn, kr, kb, kc⟩ =>
  ⟨G, s, sl, fun σ' γ' G' H' n => kn σ' γ' G' H' ((Gx.of j n).mono hb), fun d v G' H' n => kr d v G' H' ((Gx.of j n).mono hb), fun σ' γ' G' H' n => kb σ' γ' G' H' ((Gx.of j n).mono hb), fun σ' γ' G' H' n => kc σ' γ' G' H' ((Gx.of j n).mono hb)⟩
/-! ### arguments, tuples, iterables -/
theorem ja_nil : PAJ C a b b X [] γ (fun ds => ds = []) := PA.weak (a_nil (C := C) (γ := γ)) fun σ H Q ⟨G, s, sl, j, q⟩ => ⟨G, s, sl, fun vs G1 H1 n1 a1 => q vs [] G1 H1 (Gx.of j n1) rfl a1⟩
theorem ja_cons {Pd : D → Prop} {Pds : List D → Prop} (h : PEJ C a b b1 X e γ Pd) (hs : PAJ C a b1 b' X es γ Pds) (he : starEach (e :: es) X.env = (false, eval e X.env) :: starEach es X.env := by rfl) : PAJ C a b b' X (e :: es) γ (fun ds => ∃ d r, ds = d :: r ∧ Pd d ∧ Pds r) :=
  PA.weak (pa_cons h hs he) fun σ H Q ⟨G, s, sl, j, q⟩ => ⟨G, s, sl, j, fun v d G1 H1 x1 p1 a1 => ⟨G1, x1.s, sl.mono x1.g, x1.j, fun vs ds G2 H2 x2 p2 a2 => q (v :: vs) (d :: ds) G2 H2 (x1.trans x2) ⟨d, ds, rfl, p1, p2⟩ (.cons (a1.mono x2.g) a2)⟩⟩
theorem ji_tup {x1} {Pds : List D → Prop} (h : PAJ C a b b' X es γ Pds) (hl : ∀ ds, Pds ds → ds.length ≤ 1000) : PIJ C a b b' X tg (.Tuple es x1 pos) γ Pds :=
  PI.weak (pi_tup (pe_tup h)) fun σ H R ⟨G, s, sl, j, k⟩ => ⟨G, s, sl, j, fun vs ds G1 H1 x1 p1 a1 => ⟨by rw [a1.len]; exact Nat.le_of_lt (small1000 (hl ds p1)), fun p hp =>
    ⟨p, rfl, ⟨vs, .inl (.inl upd_same)⟩, k _ ds _ _ (x1.trans (Gx.of x1.j (Nx.new x1.s hp))) p1 (wk_tup (.inl (.inl upd_same)) (a1.mono (Same.new (x1.s.free hp))))⟩⟩⟩
theorem ji_of {xs : List D} (h : PID C X tg e γ xs) : PIJ C a b b X tg e γ (fun z => z = xs) := PI.weak h fun σ H R ⟨G, s, sl, j, k⟩ => ⟨G, s, sl, fun Jt G1 H1 n1 wk => k Jt xs G1 H1 (Gx.of j n1) rfl wk⟩
theorem ji_range1 {Pd : D → Prop} (hm : X.mg "range" = Option.none) (h : PEJ C a b b' X e γ Pd) (hp : ∀ d, Pd d → ∃ n : Nat, d = .int n ∧ n ≤ 100000) (hg : Gl X "range" := by rfl) (hs : starEach [e] X.env = [(false, eval e X.env)] := by rfl) : PIJ C a b b' X tg (.Call (.Name "range" p) [e] [] pos) γ (fun xs => ∃ n : Nat, Pd (.int n) ∧ xs = rgD 0 n) :=
  PI.weak (pi_range1 hg hm (ja_cons h ja_nil hs) hs) fun σ H R ⟨G, s, sl, j, k⟩ => ⟨G, s, sl, j, fun vs ds G1 H1 x1 ⟨d, r, e1, p1, e2⟩ a1 => by
    subst e1 e2
    obtain ⟨v, r, rfl, h2, h3⟩ := a1.inv
    obtain ⟨n, rfl, hn⟩ := hp d p1
    rw [h3.inv0, h2.int']
    refine ⟨(n : Int), rfl, by omega, by omega, k _ _ G1 H1 x1 ⟨n, p1, rfl⟩ ?_⟩
    exact wk_range⟩
theorem je_ix {r : R2} {x : D} {Pd Pz : D → Prop} (hr : IxR X r) (ha : PD C X e γ x) (hb : PEJ C a b b' X e2 γ Pd) (h : ∀ y, Pd y → ∃ z, Pz z ∧ RD X.K C r x y z) (hs : PlainIx e2 := by exact fun _ _ => rfl) : PEJ C a b b' X (.Subscript e e2 pos) γ Pz :=
  PE.weak (pe_ix hr ha hb hs) fun σ H Q ⟨G, s, sl, j, k⟩ => ⟨G, s, sl, fun v G1 H1 n1 a1 => ⟨G1, n1.s, sl.mono n1.g, j.nx n1, fun u y G2 H2 x2 py a2 => by
    obtain ⟨z, pz, hz⟩ := h y py
    exact hz G2 H2 v u x2.s (a1.mono x2.g) a2 Q fun w' G3 H3 n3 a3 => k w' z G3 H3 ((Gx.of j n1).trans (x2.trans (Gx.of x2.j n3))) pz a3⟩⟩
/-! ### statements -/
theorem js_cons (h : PSJ C a b b1 X st γ { E with nx := fun γ' => PSsJ C a b1 b2 X rest γ' E }) (hb : b1 ≤ b2 := by omega) : PSsJ C a b b2 X (st :: rest) γ E :=
  PSs.weak (pss_cons h (PSs.all (t := fun (i : { γ' : DSt // PSsJ C a b1 b2 X rest γ' E }) => jS X.K C a b1 b2 i.1 E) fun i => i.2)) fun Dn σ H ⟨G, s, sl, j, kn, kr, kb, kc⟩ =>
    ⟨G, s, sl, j, fun σ' γ' G1 H1 n1 sl1 q => ⟨⟨γ', q⟩, G1, n1.s, sl1, n1.j, fun σ2 γ2 G2 H2 n2 => kn σ2 γ2 G2 H2 (n1.trans n2), fun d v G2 H2 n2 => kr d v G2 H2 (n1.trans n2), fun σ2 γ2 G2 H2 n2 => kb σ2 γ2 G2 H2 (n1.trans n2), fun σ2 γ2 G2 H2 n2 => kc σ2 γ2 G2 H2 (n1.trans n2)⟩, fun d v G2 H2 n2 => kr d v G2 H2 (n2.mono hb), fun σ2 γ2 G2 H2 n2 => kb σ2 γ2 G2 H2 (n2.mono hb), fun σ2 γ2 G2 H2 n2 => kc σ2 γ2 G2 H2 (n2.mono hb)⟩
theorem js_one (h : PSJ C a b b' X st γ E) : PSsJ C a b b' X [st] γ E := pss_one h
theorem js_nil (k : E.nx γ) : PSsJ C a b b X [] γ E := jss_of (Nat.le_refl _) (s_nil k)
theorem js_set (i : Nat) {x : Str} {pos' : Pos} {Pd : D → Prop} (hN : X.N.Nodup) (he : PEJ C a b b' X e γ Pd) (k : ∀ d, Pd d → E.nx (γ.set i (some d))) (hi : X.N[i]? = some x := by rfl) (hx : Loc X.env.scope x := by first | exact Or.inl rfl | exact Or.inr rfl) (hs : swapsWith e (some (.Name x pos')) pos.line X.env = pure false := by rfl)
    (hf : X.fn x = true ∨ X.env.scope.names.lookup x = some .local := by first | exact .inl rfl | exact .inr rfl | assumption) : PSJ C a b b' X (.Assign [.Name x pos'] e pos) γ E :=
  PS.weak (ps_set hN hi hx he hs hf) fun Dn σ H ⟨G, s, sl, j, kn, _⟩ => ⟨G, s, sl, j, fun v d G1 H1 x1 p1 a1 => kn _ _ G1 H1 x1 ((sl.mono x1.g).set a1) (k d p1)⟩
theorem js_ret {Pd : D → Prop} (he : PEJ C a b b' X e γ Pd) (k : ∀ d, Pd d → E.rt d) : PSJ C a b b' X (.Return (some e) pos) γ E :=
  PS.weak (ps_ret he) fun Dn σ H ⟨G, s, sl, j, kn, kr, _⟩ => ⟨G, s, sl, j, fun v d G1 H1 x1 p1 a1 => kr d v G1 H1 x1 a1 (k d p1)⟩
theorem jt_of {k : Bool} (h : PTD C X c γ k) : PTJ C a b b X c γ k := PT.weak h fun σ H Q ⟨G, s, sl, j, q⟩ => ⟨G, s, sl, fun G1 H1 n1 => q G1 H1 (Gx.of j n1)⟩
theorem js_if {k : Bool} (hc : PTJ C a b b1 X c γ k) (h1 : k = true → PSsJ C a b1 b2 X body γ E) (h2 : k = false → PSsJ C a b1 b2 X orelse γ E) : PSJ C a b b2 X (.If c body orelse pos) γ E :=
  PS.weak (ps_if hc (PSs.guard h1) (PSs.guard h2)) fun Dn σ H ⟨G, s, sl, j, kn, kr, kb, kc⟩ => ⟨G, s, sl, j, fun G1 H1 n1 => by
    have fin : jS X.K C a b1 b2 γ E Dn σ H1 := ⟨G1, n1.s, sl.mono n1.g, n1.j, fun σ2 γ2 G2 H2 n2 => kn σ2 γ2 G2 H2 (n1.trans n2), fun d v G2 H2 n2 => kr d v G2 H2 (n1.trans n2), fun σ2 γ2 G2 H2 n2 => kb σ2 γ2 G2 H2 (n1.trans n2), fun σ2 γ2 G2 H2 n2 => kc σ2 γ2 G2 H2 (n1.trans n2)⟩
    cases k with
    | true => exact iteT ⟨rfl, fin⟩
    | false => exact iteF ⟨rfl, fin⟩⟩
/-- a loop of at most m turns, each of which draws at most c times -/
theorem js_for (m c : Nat) {js : List Nat} {tgt : D → DSt → Option DSt} {Px : List D → Prop} (hp : PassesOwn (model X.prog X.w) X.A X.env X.xe) (hc : X.calm = true) (hi : PIJ C a b b1 X tg e γ Px) (hm : ∀ xs, Px xs → xs.length ≤ m) (hg : PGD C X tg js tgt) (Pv : DSt → Prop) (h0 : Pv γ)
    (hb : ∀ (xs : List D) (i : Nat) (d : D) (γ' : DSt) (q : Nat), b1 ≤ q → q + c ≤ b1 + m * c → Px xs → xs[i]? = some d → Pv γ' → ∃ γ2, tgt d γ' = some γ2 ∧ PSsJ C a q (q + c) X body γ2 { nx := Pv, rt := E.rt, bk := E.nx, ct := Pv }) (hd : ∀ γ', Pv γ' → E.nx γ')
    (hs : ∀ x, foldedSetIterable e X.env x = pure x := by intro _; rfl) : PSJ C a b (b1 + m * c) X (.For tg e body [] pos) γ E := by
  have hbb : PSs X body (fun Dn σ H => ∃ (q : Nat) (γ2 : DSt) (_ : PSsJ C a q (q + c) X body γ2 { nx := Pv, rt := E.rt, bk := E.nx, ct := Pv }), jS X.K C a q (q + c) γ2 { nx := Pv, rt := E.rt, bk := E.nx, ct := Pv } Dn σ H) := ⟨fun pins s σ H Dn I q => by
    obtain ⟨q0, γ2, hb', q⟩ := q
    exact hb'.run pins s σ H Dn I q⟩
  refine PS.weak (ps_for hp hc hi hg hbb hs) fun Dn σ H ⟨G, s, sl, j, kn, kr, kb, kc⟩ => ⟨G, s, sl, j, fun Jt xs G1 H1 n1 px wk => ?_⟩
  have hm' := hm xs px
  refine ⟨fun i mm σ' H' => mm = xs.length - i ∧ i ≤ xs.length ∧ ∃ G' γ', Gx a (b1 + i * c) G1 G' H' ∧ Sl X.K C G' σ' γ' ∧ Pv γ', ⟨_, rfl, Nat.zero_le _, G1, γ, (Gx.refl n1.s n1.j).mono (by omega), sl.mono n1.g, h0⟩, ?_⟩
  rintro i mm σ' H' ⟨rfl, hi', G', γ', n', sl', pv'⟩
  by_cases hlt : i < xs.length
  · have hq : b1 + i * c + c ≤ b1 + m * c := by
      have h1 : (i + 1) * c ≤ m * c := Nat.mul_le_mul_right c (by omega)
      rw [Nat.add_mul, Nat.one_mul] at h1
      omega
    have hq2 : b1 + i * c + c = b1 + (i + 1) * c := by rw [Nat.add_mul, Nat.one_mul]; omega
    refine .inr ⟨wk.goes i H' hlt (n'.g.trans n'.s), fun σ2 H2 => i + 1 ≤ xs.length ∧ ∃ G2 γ2, Gx a (b1 + (i + 1) * c) G1 G2 H2 ∧ Sl X.K C G2 σ2 γ2 ∧ Pv γ2, fun σ2 H2 ⟨hl, G2, γ2, a, b, c⟩ => ⟨xs.length - (i + 1), by omega, rfl, hl, G2, γ2, a, b, c⟩, fun x H2 y => ?_⟩
    obtain ⟨d, G2, hd2, n2, a2⟩ := wk.yields i H' x H2 G' hlt n'.g n'.s y
    obtain ⟨γ2, e2, hb'⟩ := hb xs i d γ' (b1 + i * c) (by omega) hq px hd2 pv'
    have x2 := Gx.of n'.j n2
    refine ⟨G2, γ', d, γ2, n2.s, sl'.mono n2.g, a2, e2, fun σ2 sl2 _ => ⟨b1 + i * c, γ2, hb', G2, n2.s, sl2, x2.j, ?_, ?_, ?_, ?_⟩⟩
    · exact fun σ3 γ3 G3 H3 n3 sl3 p3 => ⟨hlt, G3, γ3, hq2 ▸ ((n'.trans x2).trans n3), sl3, p3⟩
    · exact fun d v G3 H3 n3 a3 r => kr d v G3 H3 ((((n1.trans n').trans x2).trans n3).mono hq) a3 r
    · exact fun σ3 γ3 G3 H3 n3 sl3 p3 => kn σ3 γ3 G3 H3 ((((n1.trans n').trans x2).trans n3).mono hq) sl3 p3
    · exact fun σ3 γ3 G3 H3 n3 sl3 p3 => ⟨hlt, G3, γ3, hq2 ▸ ((n'.trans x2).trans n3), sl3, p3⟩
  · have ei : i = xs.length := by omega
    subst ei
    refine .inl ⟨wk.stops H' (n'.g.trans n'.s), kn _ _ G' H' ((n1.trans n').mono ?_) sl' (hd γ' pv')⟩
    have h1 : xs.length * c ≤ m * c := Nat.mul_le_mul_right c hm'
    omega
end
/-! ### defs that draw -/
def cap : Nat := 1000000
def spJ (K : PySem.W.Frag) (C : Addr) (c : Nat) (ok : List D → Prop) (Fd : List D → D → Prop) : Sp := fun vs H Q _ => ∃ G a b ds, Same G H ∧ J a b G H ∧ b + c ≤ cap ∧ AtL K C G (.raw (.ref a.a) :: ds) vs ∧ ok ds ∧ ∀ d v G' H', Gx a (b + c) G G' H' → Fd ds d → At K C G' d v → Q v H'
structure DfJ (P : Program) (w : World) (K : PySem.W.Frag) (mg : Str → Option Value) (base : Heap) (C : Addr) (k : Nat) (x : Str) (c : Nat) (ok : List D → Prop) (Fd : List D → D → Prop) : Prop where
  ex : ∃ (f : Addr) (fd : FuncData) (ps : List Str), FnOk P w K mg base CX0 k f fd ps (spJ K C c ok Fd) ∧ mg x = some (.ref f) ∧ PySem.W.keepIn K (.ref f) = true ∧ Binds K fd ps []
section
variable {P : Program} {w : World} {K : PySem.W.Frag} {mg : Str → Option Value} {base : Heap} {C : Addr}
theorem dfj_mkT {x : Str} {st : Stmt} {N ps : List Str} {k c : Nat} {ok : List D → Prop} {Fd : List D → D → Prop} (h : Has K mg x st ps) (S : FnScope N ps (defScope st)) (hl : ∀ ds, ok ds → ds.length + 1 = ps.length)
    (hb : ∀ (f : Addr) (cdv : Value) (A : Around) (outer : List Env) (s : Shared) (H : Hp) (E : XK) (a : Dz) (b : Nat) (ds : List D), Room k (A.deeper (envOfC x (defScope st) s.heap.objs.size f cdv)) → ok ds → b + c ≤ cap →
      ∃ t, PSs (cxOf CX0 P w K mg base N x (defScope st) f cdv A outer s H E).nox (defBody st) t ∧ ∀ G σ (Q : VK), Same G H → J a b G H → Sl K C G σ (dstart N (.raw (.ref a.a) :: ds)) → (∀ d v G' H', Gx a (b + c) G G' H' → Fd ds d → At K C G' d v → Q v H') → t { nx := fun _ H' => Q .non H', rt := Q } σ H) : DfJ P w K mg base C (k + 1) x c ok Fd := by
  obtain ⟨f, fd, F, hm, hbn⟩ := h.ex
  refine ⟨f, fd, ps, F.ok S (fun vs H Q E h => ?_) (fun cdv A outer s H vs Q E hr h => ?_), hm, F.kp, hbn⟩
  · obtain ⟨G, a, b, ds, _, _, _, r, hf, _⟩ := h
    rw [r.len, List.length_cons, hl ds hf]
  · obtain ⟨G, a, b, ds, sm, j, hcap, r, hf, q⟩ := h
    obtain ⟨t, ht, hq⟩ := hb f cdv A outer s H E a b ds hr hf hcap
    exact ⟨t, ht, hq G _ Q sm j (sl_start r) q⟩
theorem dfj_mk {x : Str} {st : Stmt} {N ps : List Str} {k c : Nat} {ok : List D → Prop} {Fd : List D → D → Prop} (h : Has K mg x st ps) (S : FnScope N ps (defScope st)) (hl : ∀ ds, ok ds → ds.length + 1 = ps.length)
    (hb : ∀ (f : Addr) (cdv : Value) (A : Around) (outer : List Env) (s : Shared) (H : Hp) (E : XK) (a : Dz) (b : Nat) (ds : List D), Room k (A.deeper (envOfC x (defScope st) s.heap.objs.size f cdv)) → ok ds → b + c ≤ cap →
      PSsJ C a b (b + c) (cxOf CX0 P w K mg base N x (defScope st) f cdv A outer s H E).nox (defBody st) (dstart N (.raw (.ref a.a) :: ds)) { nx := fun _ => False, rt := Fd ds }) : DfJ P w K mg base C (k + 1) x c ok Fd :=
  dfj_mkT h S hl fun f cdv A outer s H E a b ds hr hok hcap => ⟨_, hb f cdv A outer s H E a b ds hr hok hcap, fun G σ Q sm j sl q => ⟨G, sm, sl, j, fun _ _ _ _ _ _ z => z.elim, fun d v G' H' n a1 e => q d v G' H' n e a1, fun _ _ _ _ _ _ z => z.elim, fun _ _ _ _ _ _ z => z.elim⟩⟩
end
section
variable {C : Addr} {a : Dz} {X : Cx} {e : Expr} {es : List Expr} {γ : DSt} {ds : List D} {pos p : Pos}
theorem je_call {k c b : Nat} {n : Str} {ok : List D → Prop} {Fd : List D → D → Prop} (F : DfJ X.prog X.w X.K X.mg X.base C k n c ok Fd) (hr : Room k X.A) (ha : PAD C X (e :: es) γ (.raw (.ref a.a) :: ds)) (hok : ok ds) (hcap : b + c ≤ cap) (hg : Gl X n := by rfl) (hdb : (n == ("__debug__" : Str)) = false := by decide)
    (he : starEach (e :: es) X.env = (false, eval e X.env) :: starEach es X.env := by rfl) (hpl : (backTo pos (starEach es X.env)).any (·.1) = false := by rfl) : PEJ C a b (b + c) X (.Call (.Name n p) (e :: es) [] pos) γ (Fd ds) := by
  obtain ⟨f, fd, ps, F, hm, hk, hb⟩ := F.ex
  refine PE.weak (pe_call F hr hg hm hk hb .nil pass0 ha hdb he hpl) fun σ H Q ⟨G, s, sl, j, q⟩ => ⟨G, s, sl, fun vs G1 H1 n1 a1 => ⟨G1, a, b, ds, n1.s, j.nx n1, hcap, by rw [List.append_nil]; exact a1, hok, fun d v G2 H2 n2 p2 a2 => q v d G2 H2 ((Gx.of j n1).trans n2) p2 a2⟩⟩
end
end Kp

namespace Kp
open PySem PySem.Spec PyProof.Rows L2
/-- the draw taken for data, for a while -/
def opn (a al ai : Addr) (G H : Hp) : Hp := fun b => if b = a ∨ b = al ∨ b = ai then H b else G b
def drD (ns ms : List Int) (l t : Int) : D := .dic [((.inr "large" : Key), .lst (ns.map .int)), (.inr "items", .lst (ms.map .int)), (.inr "left", .int l), (.inr "turn", .int t)]
section
variable {K : PySem.W.Frag} {C a al ai : Addr} {z : Dz} {G H G' H' : Hp} {l t : Int} {ns ms : List Int}
theorem opn_g (g1 : G a = Option.none) (g2 : G al = Option.none) (g3 : G ai = Option.none) : Same G (opn a al ai G H) := fun b u e => by
  unfold opn
  rw [if_neg]
  · exact e
  · rintro (z | z | z) <;> subst z
    · rw [g1] at e; cases e
    · rw [g2] at e; cases e
    · rw [g3] at e; cases e
theorem opn_s (s : Same G H) : Same (opn a al ai G H) H := fun b u e => by
  unfold opn at e
  split at e
  · exact e
  · exact s b u e
theorem atL_ints : ∀ {ns : List Int}, AtL K C G (ns.map .int) (ns.map .int)
  | [] => .nil
  | n :: ns => .cons (At.int n) atL_ints
theorem opn_at (h1 : H a = some (.dK (drK al ai l t))) (h2 : H al = some (.lst (ns.map .int))) (h3 : H ai = some (.lst (ms.map .int))) : At K C (opn a al ai G H) (drD ns ms l t) (.ref a) := by
  have e1 : opn a al ai G H a = some (.dK (drK al ai l t)) := by unfold opn; rw [if_pos (.inl rfl)]; exact h1
  have e2 : opn a al ai G H al = some (.lst (ns.map .int)) := by unfold opn; rw [if_pos (.inr (.inl rfl))]; exact h2
  have e3 : opn a al ai G H ai = some (.lst (ms.map .int)) := by unfold opn; rw [if_pos (.inr (.inr rfl))]; exact h3
  refine At.dic e1 ?_
  simp only [AtK, drK]
  exact ⟨_, _, rfl, At.lst e2 atL_ints, _, _, rfl, At.lst e3 atL_ints, _, _, rfl, At.int l, _, _, rfl, At.int t, rfl⟩
theorem opn_gx (s : Same G H) (h1 : H z.a = some (.dK (drK al ai l t))) (h2 : H al = some (.lst (ns.map .int))) (h3 : H ai = some (.lst (ms.map .int))) (g1 : G z.a = Option.none) (g2 : G al = Option.none) (g3 : G ai = Option.none) {b : Nat} (t0 : 0 ≤ t) (t1 : t ≤ b) (hT : LamX.Tabs z.T H) (n : Nx (opn z.a al ai G H) H G' H') : Gx z b G G H' :=
  ⟨Same.refl _, ((opn_g g1 g2 g3).trans n.g).trans n.s, al, ai, l, t, ns, ms, n.h _ _ h1, n.h _ _ h2, n.h _ _ h3, g1, g2, g3, t0, t1, hT.ext n.h⟩
end
section
variable {P : Program} {w : World} {K : PySem.W.Frag} {mg : Str → Option Value} {base : Heap} {C : Addr}
theorem rd_modI {i j : Int} (h : 0 < j) : RD K C (rI (fun _ j => 0 < j) fun i j => .int (i % j)) (.int i) (.int j) (.int (i % j)) := rd_I h fun _ => At.int _
theorem rd_powI {i j : Int} (h : CPow i j) : RD K C (rI CPow fun i j => .int (i ^ j.toNat)) (.int i) (.int j) (.int (i ^ j.toNat)) := rd_I h fun _ => At.int _
theorem df_L_mixed (T : Tp K mg) (h : Has K mg "_law_mixed" s_L_mixed ["_law_draw"]) : DfJ P w K mg base C 1 "_law_mixed" 1 (fun ds => ds = []) (fun ds d => ∃ n : Int, d = .int n) := by
  refine dfj_mkT h sc_L_mixed (fun ds e => by rw [e]; rfl) fun f cdv A outer s H E a b ds hr e hcap => ?_
  subst e
  have rest : ∀ p : { p : List Int × List Int × Int × Int // 0 ≤ p.2.2.2 ∧ p.2.2.2 ≤ cap }, PSsD C (cxOf CX0 P w K mg base n_L_mixed "_law_mixed" (defScope s_L_mixed) f cdv A outer s H E).nox ((defBody s_L_mixed).drop 1) [some (drD p.1.1 p.1.2.1 p.1.2.2.1 p.1.2.2.2), Option.none, Option.none, Option.none, Option.none] { nx := fun _ => False, rt := fun d' => ∃ n : Int, d' = .int n } := fun ⟨(ns, ms, l, t), t0, t1⟩ => by
    have t0 : 0 ≤ t := t0
    have t1 : t ≤ 1000000 := t1
    refine s_cons (s_set 1 sc_L_mixed.nd d_int (s_cons (s_for PassesOwn.never rfl (i_list (d_lst (a_cons d_int (a_cons d_int (a_cons d_int (a_cons d_int a_nil)))) (by show 4 ≤ 1000; decide))) (g_name 2 sc_L_mixed.nd) (fun i γ => ∃ (n : Int) (o2 o3 o4 : Option D), γ = [some (drD ns ms l t), some (.int n), o2, o3, o4]) ⟨_, _, _, _, rfl⟩ ?_ fun γ' ⟨n, o2, o3, o4, e⟩ => ?_)))
    · rintro i d γ' hi ⟨n, o2, o3, o4, rfl⟩
      obtain ⟨pr, ed, hp⟩ : ∃ pr : Int, d = .int pr ∧ 0 < pr ∧ pr < 2 ^ 40 := by
        have hm := List.mem_of_getElem? hi
        simp only [List.mem_cons, List.not_mem_nil, or_false] at hm
        rcases hm with e | e | e | e <;> exact ⟨_, e, by decide, by decide⟩
      subst ed
      refine ⟨_, rfl, s_cons (s_set 3 sc_L_mixed.nd (d_op op_add (d_op op_mul d_int (d_dget (d := .int t) (room1 hr) (dv 0) d_str rfl) (rd_mul (.inl ⟨by decide, by decide⟩))) (d_op op_fdiv (dv 2) d_int (rd_fdiv ⟨by decide, by decide⟩)) rd_add) ?_)⟩
      refine s_cons (s_for PassesOwn.never rfl (i_list (d_dget (d := .lst (ms.map .int)) (room1 hr) (dv 0) d_str rfl)) (g_name 4 sc_L_mixed.nd) (fun i γ => ∃ (q : Int) (o4 : Option D), 0 ≤ q ∧ q < 2 ^ 60 ∧ γ = [some (drD ns ms l t), some (.int n), some (.int pr), some (.int q), o4]) ⟨92821 * t + pr / 13, _, ?_, ?_, rfl⟩ ?_ fun γ' ⟨q, o4, q0, q1, e⟩ => ?_)
      · have : 0 ≤ pr / 13 := Int.ediv_nonneg (by omega) (by decide)
        omega
      · have : pr / 13 ≤ pr := Int.ediv_le_self 13 (by omega)
        omega
      · rintro i d γ' hi ⟨q, o4, q0, q1, rfl⟩
        rw [List.getElem?_map, Option.map_eq_some_iff] at hi
        obtain ⟨m, _, rfl⟩ := hi
        exact ⟨_, rfl, s_one (s_set 3 sc_L_mixed.nd (d_op op_mod (d_callTy call_int1 (T.b _) (a_cons (d_op op_add (d_op op_mul (dv 3) d_int (rd_mul (.inr ⟨by decide, by decide⟩))) (dv 4) rd_add) a_nil) rc_intI) (dv 2) (rd_modI hp.1)) ⟨_, _, Int.emod_nonneg _ (by omega), by have := Int.emod_lt_of_pos (q * 48271 + m) hp.1; omega, rfl⟩)⟩
      · subst e
        refine s_one (s_set 1 sc_L_mixed.nd (d_op op_add (d_op op_mul (dv 1) d_int (rd_mul (.inr ⟨by decide, by decide⟩))) (d_op op_mod (d_callTy call_int1 (T.b _) (a_cons (d_op op_pow (dv 3) d_int (rd_powI ⟨by decide, by decide, by omega⟩)) a_nil) rc_intI) (dv 2) (rd_modI hp.1)) rd_add) ⟨_, _, _, _, rfl⟩)
    · subst e
      exact s_one (s_ret (dv 1) ⟨n, rfl⟩)
  have val : ∀ {e k : Expr} {o : Expr} {p p2 : Pos}, (defBody s_L_mixed).getD 0 (.Pass ⟨0, 0, 0, 0⟩) = .Assign [.Subscript o k p2] e p → ∀ q : List Int × List Int × Int × Int, PE (cxOf CX0 P w K mg base n_L_mixed "_law_mixed" (defScope s_L_mixed) f cdv A outer s H E).nox e (cE K C [some (drD q.1 q.2.1 q.2.2.1 q.2.2.2), Option.none, Option.none, Option.none, Option.none] (.int (q.2.2.2 + 1))) := fun he q => by
    cases he
    exact d_op op_add (d_dget (room1 hr) (dv 0) d_str rfl) d_int rd_add
  refine ⟨_, pss_cons (ps_dput (room1 hr) (pe_var (i := 0) rfl (.inl rfl)) pe_str (PE.all (val rfl)) rfl) (PSs.all rest), ?_⟩
  intro G σ Q sm j sl q
  obtain ⟨al, ai, l, t, ns, ms, h1, h2, h3, g1, g2, g3, t0, t1, hT⟩ := j
  obtain ⟨v0, e0, a0⟩ := sl.at_ 0 _ rfl
  rw [a0.raw'] at e0
  have hg := opn_g (H := H) g1 g2 g3
  have sl1 : Sl K C (opn a.a al ai G H) σ [some (drD ns ms l t), Option.none, Option.none, Option.none, Option.none] := (sl.mono hg).put (i := 0) e0 (opn_at h1 h2 h3)
  refine ⟨(ns, ms, l, t), opn a.a al ai G H, opn_s sm, sl1, fun v G1 H1 n1 a1 => ⟨.ref a.a, e0, a.a, upd H1 a.a (.dK (putK (drK al ai l t) (.inr "turn") v)), rfl, DPut.k (k := .inr "turn") (n1.h _ _ h1) (by show 4 < sizeLine; decide), ?_⟩⟩
  rw [a1.int']
  have ep : putK (drK al ai l t) (.inr "turn") (.int (t + 1)) = drK al ai l (t + 1) := rfl
  rw [ep]
  have ha1 : al ≠ a.a := fun z => by rw [z, h1] at h2; cases h2
  have ha2 : ai ≠ a.a := fun z => by rw [z, h1] at h3; cases h3
  have s2 : Same G (upd H1 a.a (.dK (drK al ai l (t + 1)))) := fun b u e => by
    rw [upd_ne (ne_of_none e g1)]
    exact n1.h _ _ (sm _ _ e)
  have k1 : upd H1 a.a (.dK (drK al ai l (t + 1))) a.a = some (.dK (drK al ai l (t + 1))) := upd_same
  have k2 : upd H1 a.a (.dK (drK al ai l (t + 1))) al = some (.lst (ns.map .int)) := by rw [upd_ne ha1]; exact n1.h _ _ h2
  have k3 : upd H1 a.a (.dK (drK al ai l (t + 1))) ai = some (.lst (ms.map .int)) := by rw [upd_ne ha2]; exact n1.h _ _ h3
  have hcap' : b + 1 ≤ 1000000 := hcap
  refine ⟨⟨(ns, ms, l, t + 1), by show 0 ≤ t + 1; omega, by show t + 1 ≤ 1000000; omega⟩, opn a.a al ai G (upd H1 a.a (.dK (drK al ai l (t + 1)))), opn_s s2, (sl.mono (opn_g g1 g2 g3)).put (i := 0) e0 (opn_at k1 k2 k3), fun _ _ _ _ _ _ z => z.elim, ?_, fun _ _ _ _ _ _ z => z.elim, fun _ _ _ _ _ _ z => z.elim⟩
  rintro d v2 G3 H3 n3 a3 ⟨n, rfl⟩
  rw [a3.int']
  exact q (.int n) _ G H3 (opn_gx s2 k1 k2 k3 g1 g2 g3 (by omega) (by omega) (tabs_upd (hT.ext n1.h) (n1.h _ _ h1) dk_notbl.1 dk_notbl.2) n3) ⟨n, rfl⟩ (At.int n)
end
end Kp

namespace Kp
open PySem PySem.Spec PyProof.Rows L2
def jN (K : PySem.W.Frag) (C : Addr) (a : Dz) (b b' : Nat) (γ : DSt) : TT := fun σ H Q => ∃ G, Same G H ∧ Sl K C G σ γ ∧ J a b G H ∧ ∀ k G' H', Gx a b' G G' H' → Q k H'
/-- a test of either answer -/
def PTN (C : Addr) (a : Dz) (b b' : Nat) (X : Cx) (e : Expr) (γ : DSt) : Prop := PT X e (jN X.K C a b b' γ)
section
variable {C : Addr} {a : Dz} {b b' b1 b2 : Nat} {X : Cx} {c e e2 o : Expr} {es : List Expr} {γ : DSt} {d : D} {pos p p2 : Pos} {st : Stmt} {rest body orelse : List Stmt} {E : DE} {tg : Expr}
theorem js_ifn (hc : PTN C a b b1 X c γ) (h1 : PSsJ C a b1 b2 X body γ E) (h2 : PSsJ C a b1 b2 X orelse γ E) : PSJ C a b b2 X (.If c body orelse pos) γ E :=
  PS.weak (ps_if hc h1 h2) fun Dn σ H ⟨G, s, sl, j, kn, kr, kb, kc⟩ => ⟨G, s, sl, j, fun k G1 H1 n1 => by
    have fin : jS X.K C a b1 b2 γ E Dn σ H1 := ⟨G1, n1.s, sl.mono n1.g, n1.j, fun σ2 γ2 G2 H2 n2 => kn σ2 γ2 G2 H2 (n1.trans n2), fun d v G2 H2 n2 => kr d v G2 H2 (n1.trans n2), fun σ2 γ2 G2 H2 n2 => kb σ2 γ2 G2 H2 (n1.trans n2), fun σ2 γ2 G2 H2 n2 => kc σ2 γ2 G2 H2 (n1.trans n2)⟩
    cases k with
    | true => exact iteT fin
    | false => exact iteF fin⟩
/-- what only reads the draw -/
theorem je_dr (i : Nat) {Pn : Int → Prop} (hi : γ[i]? = some (some (.raw (.ref a.a)))) (h : ∀ ns ms l t, ∃ n, Pn n ∧ PD C X e (γ.set i (some (drD ns ms l t))) (.int n)) : PEJ C a b b X e γ (fun d => ∃ n, d = .int n ∧ Pn n) := ⟨fun pins s σ H Q I ⟨G, sm, sl, j, q⟩ => by
  obtain ⟨al, ai, l, t, ns, ms, h1, h2, h3, g1, g2, g3, t0, t1, hT⟩ := j
  obtain ⟨n, hn, hp⟩ := h ns ms l t
  obtain ⟨v0, e0, a0⟩ := sl.at_ i _ hi
  rw [a0.raw'] at e0
  refine hp.run pins s σ H Q I ⟨opn a.a al ai G H, opn_s sm, (sl.mono (opn_g g1 g2 g3)).put e0 (opn_at h1 h2 h3), fun v G' H' n1 a1 => ?_⟩
  rw [a1.int']
  exact q _ (.int n) G H' (opn_gx sm h1 h2 h3 g1 g2 g3 t0 t1 hT n1) ⟨n, rfl, hn⟩ (At.int n)⟩
theorem jt_dr (i : Nat) (hi : γ[i]? = some (some (.raw (.ref a.a)))) (h : ∀ ns ms l t, ∃ k, PTD C X e (γ.set i (some (drD ns ms l t))) k) : PTN C a b b X e γ := ⟨fun pins s σ H Q I ⟨G, sm, sl, j, q⟩ => by
  obtain ⟨al, ai, l, t, ns, ms, h1, h2, h3, g1, g2, g3, t0, t1, hT⟩ := j
  obtain ⟨k, hp⟩ := h ns ms l t
  obtain ⟨v0, e0, a0⟩ := sl.at_ i _ hi
  rw [a0.raw'] at e0
  exact hp.run pins s σ H Q I ⟨opn a.a al ai G H, opn_s sm, (sl.mono (opn_g g1 g2 g3)).put e0 (opn_at h1 h2 h3), fun G' H' n1 => q k G H' (opn_gx sm h1 h2 h3 g1 g2 g3 t0 t1 hT n1)⟩⟩
/-- draw['left'] = e -/
theorem js_left (i : Nat) {x : Str} {px pk : Pos} {jj} {Pd : D → Prop} (hu : X.A.units + 1 < cLine) (hi : γ[i]? = some (some (.raw (.ref a.a)))) (he : PEJ C a b b' X e γ Pd) (hp : ∀ d, Pd d → ∃ n : Int, d = .int n) (k : E.nx γ) (hN : X.N[i]? = some x := by rfl) (hv : Vis X.env.scope x := by first | exact Or.inl rfl | exact Or.inr (Or.inl rfl) | exact Or.inr (Or.inr rfl))
    (hd : (x == ("__debug__" : Str)) = false := by decide) (hcd : (x == ("__classdict__" : Str)) = false := by decide) (hs : swapsWith e (some (.Subscript (.Name x px) (.Constant (.str "left") jj pk) p2)) pos.line X.env = pure false := by rfl) : PSJ C a b b' X (.Assign [.Subscript (.Name x px) (.Constant (.str "left") jj pk) p2] e pos) γ E :=
  PS.weak (ps_dput hu (pe_var hN hv hd hcd) pe_str he hs) fun Dn σ H ⟨G, s, sl, j, kn, _⟩ => ⟨G, s, sl, j, fun v d G1 H1 x1 p1 a1 => by
    obtain ⟨v0, e0, a0⟩ := sl.at_ i _ hi
    rw [a0.raw'] at e0
    obtain ⟨n, rfl⟩ := hp d p1
    rw [a1.int']
    obtain ⟨al, ai, l, t, ns, ms, h1, h2, h3, g1, g2, g3, t0, t1, hT⟩ := x1.j
    have ep : putK (drK al ai l t) (.inr "left") (.int n) = drK al ai n t := rfl
    have ha1 : al ≠ a.a := fun z => by rw [z, h1] at h2; cases h2
    have ha2 : ai ≠ a.a := fun z => by rw [z, h1] at h3; cases h3
    refine ⟨.ref a.a, e0, a.a, upd H1 a.a (.dK (putK (drK al ai l t) (.inr "left") (.int n))), rfl, DPut.k (k := .inr "left") h1 (by show 4 < sizeLine; decide), ?_⟩
    rw [ep]
    refine kn _ _ G1 _ ⟨x1.g, fun b u e => ?_, al, ai, n, t, ns, ms, upd_same, ?_, ?_, g1, g2, g3, t0, t1, tabs_upd hT h1 dk_notbl.1 dk_notbl.2⟩ (sl.mono x1.g) k
    · rw [upd_ne (ne_of_none e g1)]
      exact x1.s _ _ e
    · rw [upd_ne ha1]; exact h2
    · rw [upd_ne ha2]; exact h3⟩
end
section
variable {P : Program} {w : World} {K : PySem.W.Frag} {mg : Str → Option Value} {base : Heap} {C : Addr}
abbrev okTake : List D → Prop := fun ds => ∃ wide : Int, ds = [.int wide] ∧ 0 < wide ∧ wide ≤ 1000
abbrev FdTake : List D → D → Prop := fun ds d => ∃ wide n : Int, ds = [.int wide] ∧ d = .int n ∧ 0 ≤ n ∧ n < wide
theorem ints_eqv : ∀ ns : List Int, PyData.eqv (pd (.lst (ns.map .int))) (pd (.lst [])) = ns.isEmpty
  | [] => by decide +kernel
  | n :: ns => by
    show PyData.eqv (.list _) (.list []) = false
    simp [PyData.eqv, PyData.eqvAll, pd, pdL]
theorem ints_pd : ∀ ns : List Int, isPdL (ns.map D.int) = true
  | [] => rfl
  | n :: ns => by
    simp only [List.map_cons, isPdL, isPd, Bool.true_and]
    exact ints_pd ns
theorem lay_ints : ∀ l : List Int, PyData.canLayAll0 (pdL (l.map D.int)) = true ∧ PyData.depthAll (pdL (l.map D.int)) = 0
  | [] => ⟨rfl, rfl⟩
  | u :: l => by
    obtain ⟨h1, h2⟩ := lay_ints l
    simp only [List.map_cons, pdL, pd, PyData.canLayAll0, PyData.canLay0, PyData.depthAll, PyData.depth, h1, h2, Bool.and_self, Nat.max_self, and_self]
theorem ints_sh (l : List Int) : SeqAt.shaped (pd (.lst (l.map .int))) = true := by
  unfold SeqAt.shaped
  obtain ⟨h1, h2⟩ := lay_ints l
  rw [Bool.and_eq_true, decide_eq_true_eq]
  refine ⟨?_, ?_⟩
  · show PyData.canLay0 (.list (pdL (l.map D.int))) = true
    rw [PyData.canLay0]
    exact h1
  · show PyData.depth (.list (pdL (l.map D.int))) ≤ 64
    rw [PyData.depth, h2]
    decide
theorem df_L_take (T : Tp K mg) (F1 : DfJ P w K mg base C 1 "_law_mixed" 1 (fun ds => ds = []) (fun ds d => ∃ n : Int, d = .int n)) (h : Has K mg "_law_take" s_L_take ["_law_draw", "_law_wide"]) : DfJ P w K mg base C 2 "_law_take" 1 okTake FdTake := by
  refine dfj_mk h sc_L_take (fun ds ⟨wide, e, _⟩ => by rw [e]; rfl) fun f cdv A outer s H E a b ds hr ⟨wide, e, w0, w1⟩ hcap => ?_
  subst e
  have rest : PSsJ C a (b + 1) (b + 1) (cxOf CX0 P w K mg base n_L_take "_law_take" (defScope s_L_take) f cdv A outer s H E).nox ((defBody s_L_take).drop 1) [some (.raw (.ref a.a)), some (.int wide), Option.none] { nx := fun _ => False, rt := FdTake [.int wide] } :=
    js_cons (b1 := b + 1) (js_set 2 sc_L_take.nd (je_dr 0 (Pn := fun n => 0 ≤ n ∧ n < wide) rfl fun ns ms l t => ⟨l % wide, ⟨Int.emod_nonneg _ (by omega), Int.emod_lt_of_pos _ w0⟩, d_op op_mod (d_callTy call_int1 (T.b _) (a_cons (d_dget (d := .int l) (room1 hr) (dv 0) d_str rfl) a_nil) rc_intI) (dv 1) (rd_modI w0)⟩) (fun d ⟨n, e, n0, n1⟩ => by
      subst e
      exact js_cons (b1 := b + 1) (js_left 0 (Pd := fun d => ∃ n : Int, d = .int n ∧ True) (room1 hr) rfl (je_dr 0 (Pn := fun _ => True) rfl fun ns ms l t => ⟨l / wide, trivial, d_op op_fdiv (d_dget (d := .int l) (room1 hr) (dv 0) d_str rfl) (dv 1) (rd_fdiv ⟨w0, by omega⟩)⟩) (fun d ⟨n, e, _⟩ => ⟨n, e⟩) (js_one (js_ret (je_of (dv 2)) fun d e => by
        subst e
        exact ⟨wide, n, rfl, rfl, n0, n1⟩)))))
  refine js_cons (b1 := b + 1) (js_ifn (jt_dr 0 rfl fun ns ms l t => ⟨_, t_cmp op_eq (d_dget (d := .int l) (room1 hr) (dv 0) d_str rfl) d_int rd_eqI⟩) (js_one (js_left 0 (Pd := fun d => ∃ n : Int, d = .int n) (room1 hr) rfl ?_ (fun d h => h) ?_)) (jss_of (by omega) (s_nil ?_)))
  · have hc : ∀ {c o g : Expr} {p p2 p3 : Pos} {t0 : Expr} {els : List Stmt} {tgt : Expr}, (defBody s_L_take).getD 0 (.Pass ⟨0, 0, 0, 0⟩) = .If t0 [.Assign [tgt] (.IfExp c o g p) p2] els p3 → ∀ q : List Int × List Int × Int × Int, PTD C (cxOf CX0 P w K mg base n_L_take "_law_take" (defScope s_L_take) f cdv A outer s H E).nox c [some (drD q.1 q.2.1 q.2.2.1 q.2.2.2), some (.int wide), Option.none] (!q.1.isEmpty) := fun he q => by
      cases he
      exact PTD.of (t_cmp (op_neD (room_un hr)) (d_dget (d := .lst (q.1.map .int)) (room1 hr) (dv 0) d_str rfl) (d_lst a_nil (by decide)) (rd_neD (ints_pd _) rfl (ints_sh _) sh_nil)) (by rw [ints_eqv])
    refine PE.weak (pe_ifExp (PT.all (hc rfl)) (pe_bm PySem.F.plainAttrs_list PySem.F.slot_list_pop PySem.F.type_list_pop mt_popAt (pe_dget (room1 hr) (pe_var (i := 0) rfl (.inl rfl)) pe_str (fun _ _ => rfl)) (pa_cons pe_int pa_nil)) (je_call (C := C) (a := a) (b := b) (γ := [some (.raw (.ref a.a)), some (.int wide), Option.none]) F1 hr (a_cons (dv 0) a_nil) rfl hcap)) fun σ H' Q ⟨G, sm, sl, j, q⟩ => ?_
    have j' := j
    obtain ⟨al, ai, l, t, ns, ms, h1, h2, h3, g1, g2, g3, t0, t1, hT⟩ := j'
    obtain ⟨v0, e0, a0⟩ := sl.at_ 0 _ rfl
    rw [a0.raw'] at e0
    refine ⟨(ns, ms, l, t), opn a.a al ai G H', opn_s sm, (sl.mono (opn_g g1 g2 g3)).put (i := 0) e0 (opn_at h1 h2 h3), fun G1 H1 n1 => ?_⟩
    have x1 := opn_gx sm h1 h2 h3 g1 g2 g3 t0 t1 hT n1
    cases ns with
    | nil => exact iteF ⟨G, x1.s, sl, x1.j, fun d v G2 H2 n2 p2 a2 => q d v G2 H2 (x1.trans n2) p2 a2⟩
    | cons n0 ns =>
      refine iteT ⟨.ref a.a, e0, a.a, .ref al, rfl, DGet.k (k := .inr "large") (n1.h _ _ h1), .inl ⟨rfl, _, SqL.of (n1.h _ _ h2)⟩, al, _, 0, 0, .int n0, rfl, rfl, n1.h _ _ h2, by decide, by decide, by show seqIndex? 0 (ns.map V.int).length.succ = some 0; unfold seqIndex?; simp, rfl, ?_⟩
      have ha1 : al ≠ a.a := fun z => by rw [z, h1] at h2; cases h2
      refine q _ (.int n0) G _ ⟨Same.refl _, fun b' u e => ?_, al, ai, l, t, ns, if ai = al then ns else ms, ?_, ?_, ?_, g1, g2, g3, t0, by omega, tabs_upd (hT.ext n1.h) (n1.h _ _ h2) lst_notbl.1 lst_notbl.2⟩ ⟨n0, rfl⟩ (At.int _)
      · rw [upd_ne (ne_of_none e g2)]
        exact x1.s _ _ e
      · rw [upd_ne (Ne.symm ha1)]
        exact n1.h _ _ h1
      · exact upd_same
      · by_cases z : ai = al
        · rw [if_pos z, z]
          exact upd_same
        · rw [if_neg z, upd_ne z]
          exact n1.h _ _ h3
  · exact rest
  · exact rest
end
end Kp

namespace Kp
open PySem PySem.Spec PyProof.Rows L2
theorem nodup_le : ∀ (l ks : List Kd), ks.Nodup → (∀ k ∈ ks, k ∈ l) → ks.length ≤ l.length
  | [], ks, _, h => by
    cases ks with
    | nil => exact Nat.le_refl _
    | cons k ks => exact absurd (h k (List.mem_cons_self ..)) (by simp)
  | x :: l, ks, nd, h => by
    have z := nodup_le l (ks.erase x) (nd.erase x) fun k hk => by
      have h1 := (nd.mem_erase_iff.mp hk)
      rcases List.mem_cons.mp (h k h1.2) with e | e
      · exact absurd e h1.1
      · exact e
    have y : ks.length - 1 ≤ (ks.erase x).length := by
      rw [List.length_erase]
      split <;> omega
    rw [List.length_cons]
    omega
theorem kd_len {ks : List Kd} (nd : ks.Nodup) : ks.length ≤ 14 := nodup_le Kd.all ks nd fun k _ => kd_mem k
def menuK : List Kd := [.rev, .turn, .swap, .move, .ff, .fm, .fn, .bf, .bm, .bn, .af, .am, .an, .rev, .fm, .bn, .turn]
section
variable {P : Program} {w : World} {K : PySem.W.Frag} {mg : Str → Option Value} {base : Heap} {C : Addr}
abbrev okPick : List D → Prop := fun ds => ∃ xs : List D, ds = [.lst xs] ∧ xs ≠ [] ∧ xs.length ≤ 1000
abbrev FdPick : List D → D → Prop := fun ds d => ∃ xs : List D, ds = [.lst xs] ∧ d ∈ xs
theorem df_L_pick (T : Tp K mg) (F1 : DfJ P w K mg base C 2 "_law_take" 1 okTake FdTake) (h : Has K mg "_law_pick" s_L_pick ["_law_draw", "_law_some"]) : DfJ P w K mg base C 3 "_law_pick" 1 okPick FdPick := by
  refine dfj_mk h sc_L_pick (fun ds ⟨xs, e, _⟩ => by rw [e]; rfl) fun f cdv A outer s H E a b ds hr ⟨xs, e, x0, x1⟩ hcap => ?_
  subst e
  have hpos : 0 < xs.length := List.length_pos_iff.mpr x0
  refine js_one (js_ret (je_ix (Pz := fun z => z ∈ xs) ix_list (dv 1) (je_call F1 hr (a_cons (dv 0) (a_cons (d_callB call_len (T.b _) (a_cons (dv 1) a_nil) rc_lenL) a_nil)) ⟨(xs.length : Int), rfl, by omega, by omega⟩ hcap) ?_) fun d hd => ⟨xs, rfl, hd⟩)
  rintro y ⟨wide, n, e1, rfl, n0, n1⟩
  cases e1
  have hlt : n.toNat < xs.length := by omega
  refine ⟨xs[n.toNat], List.getElem_mem hlt, ?_⟩
  have z := rd_ixL (K := K) (C := C) (xs := xs) (i := n.toNat) (z := xs[n.toNat]) (List.getElem?_eq_getElem hlt)
  rw [Int.toNat_of_nonneg n0] at z
  exact z
abbrev okSorts : List D → Prop := fun ds => ds = [.int 1]
abbrev FdLSorts : List D → D → Prop := fun ds d => ∃ ks : List Kd, d = lsD ks ∧ ks.Nodup ∧ Kd.del ∈ ks
theorem df_L_sorts (T : Tp K mg) (F1 : DfJ P w K mg base C 2 "_law_take" 1 okTake FdTake) (F2 : DfJ P w K mg base C 3 "_law_pick" 1 okPick FdPick) (h : Has K mg "_law_sorts" s_L_sorts ["_law_draw", "_law_least"]) : DfJ P w K mg base C 4 "_law_sorts" 6 okSorts FdLSorts := by
  refine dfj_mk h sc_L_sorts (fun ds e => by rw [e]; rfl) fun f cdv A outer s H E a b ds hr e hcap => ?_
  subst e
  have hcap' : b + 6 ≤ cap := hcap
  refine js_cons (js_of (Nat.le_refl _) (s_set 2 sc_L_sorts.nd (d_lst (a_cons d_str (a_cons d_str (a_cons d_str (a_cons d_str (a_cons d_str (a_cons d_str (a_cons d_str (a_cons d_str (a_cons d_str a_nil))))))))) (by show 9 ≤ 1000; decide)) ?_))
  refine js_cons (js_of (Nat.le_refl _) (s_set 2 sc_L_sorts.nd (PD.of (d_op op_cat (dv 2) (d_lst (a_cons d_str (a_cons d_str (a_cons d_str (a_cons d_str (a_cons d_str (a_cons d_str (a_cons d_str (a_cons d_str a_nil)))))))) (by show 8 ≤ 1000; decide)) (rd_cat (by decide))) (z := lsD menuK) (by rfl)) ?_))
  refine js_cons (js_of (Nat.le_refl _) (s_set 3 sc_L_sorts.nd (PD.of (d_op op_rep (d_lst (a_cons d_str a_nil) (by show 1 ≤ 1000; decide)) (d_callTy call_int1 (T.b _) (a_cons (d_or (k := true) (l := true) (d_cmp op_eq (dv 1) d_int rd_eqI) fun k => by cases k) a_nil) rc_intB) (rd_rep (by decide) (by decide) (by show 1 ≤ 8; decide))) (z := lsD [.del]) (by rfl)) ?_))
  refine js_cons (js_for 4 1 (b1 := b + 1) PassesOwn.never rfl (ji_range1 (T.b _) (je_call F2 hr (a_cons (dv 0) (a_cons (d_lst (a_cons d_int (a_cons d_int (a_cons d_int (a_cons d_int (a_cons d_int (a_cons d_int (a_cons d_int a_nil))))))) (by show 7 ≤ 1000; decide)) a_nil)) ⟨_, rfl, by simp, by show 7 ≤ 1000; decide⟩ (by omega)) ?_) ?_ (g_name 4 sc_L_sorts.nd) (fun γ => ∃ (ks : List Kd) (o4 o5 : Option D), ks.Nodup ∧ Kd.del ∈ ks ∧ γ = [some (.raw (.ref a.a)), some (.int 1), some (lsD menuK), some (lsD ks), o4, o5, Option.none]) ⟨[.del], _, _, by decide, by decide, rfl⟩ ?_ ?_)
  · rintro d ⟨xs, e, hm⟩
    cases e
    simp only [List.mem_cons, List.not_mem_nil, or_false] at hm
    rcases hm with e | e | e | e | e | e | e
    · exact ⟨0, e, by decide⟩
    · exact ⟨1, e, by decide⟩
    · exact ⟨1, e, by decide⟩
    · exact ⟨2, e, by decide⟩
    · exact ⟨2, e, by decide⟩
    · exact ⟨3, e, by decide⟩
    · exact ⟨4, e, by decide⟩
  · rintro xs ⟨n, ⟨xs', e, hm⟩, rfl⟩
    cases e
    rw [rgD_len]
    simp only [List.mem_cons, List.not_mem_nil, or_false, D.int.injEq] at hm
    omega
  · rintro xs i d γ' q hq1 hq2 - hi ⟨ks, o4, o5, nd, hd, rfl⟩
    refine ⟨_, rfl, js_cons (js_set 5 sc_L_sorts.nd (je_call F2 hr (a_cons (dv 0) (a_cons (dv 2) a_nil)) ⟨_, rfl, by unfold menuK kds; simp, by decide⟩ (by omega)) ?_)⟩
    rintro d2 ⟨xs2, e2, hm⟩
    cases e2
    obtain ⟨k, _, rfl⟩ := List.mem_map.mp hm
    have hl := kd_len nd
    refine js_one (js_of (Nat.le_refl _) (s_set 3 sc_L_sorts.nd (d_if (d := lsD (if k ∈ ks then ks else ks ++ [k])) (PTD.of (t_cmp op_in_seq (dv 5) (dv 3) (rd_in false rfl (kds_flat ks) (.inl rfl))) (inD_kds k ks)) (fun hk => PD.of (dv 3) (by rw [if_pos (of_decide_eq_true hk)])) fun hk => PD.of (d_op op_cat (dv 3) (d_lst (a_cons (dv 5) a_nil) (by show 1 ≤ 1000; decide)) (rd_cat ?_)) ?_) ⟨_, _, _, ?_, ?_, rfl⟩))
    · unfold kds
      rw [List.length_map]
      show ks.length + 1 ≤ _
      omega
    · rw [if_neg (of_decide_eq_false hk)]
      show D.lst (kds ks ++ [.str k.s]) = .lst (kds (ks ++ [k]))
      unfold kds
      rw [List.map_append]
      rfl
    · by_cases hk : k ∈ ks
      · rw [if_pos hk]
        exact nd
      · rw [if_neg hk]
        exact List.nodup_append.mpr ⟨nd, by simp, fun x hx y hy => by
          have e := List.mem_singleton.mp hy
          subst e
          exact fun z => hk (z ▸ hx)⟩
    · by_cases hk : k ∈ ks
      · rw [if_pos hk]
        exact hd
      · rw [if_neg hk]
        exact List.mem_append_left _ hd
  · rintro γ' ⟨ks, o4, o5, nd, hd, rfl⟩
    have hl := kd_len nd
    have hkl : (kds ks).length = ks.length := by unfold kds; rw [List.length_map]
    refine js_cons (b1 := b + 1 + 4 * 1 + 1) (js_set 6 sc_L_sorts.nd (je_call F1 (hr.mono (by decide)) (a_cons (dv 0) (a_cons (d_op op_add (d_callB call_len (T.b _) (a_cons (dv 3) a_nil) rc_lenL) d_int rd_add) a_nil)) ⟨_, rfl, by omega, by omega⟩ (by omega)) ?_)
    rintro d2 ⟨wide, n, e2, rfl, n0, n1⟩
    cases e2
    obtain ⟨m, rfl⟩ := Int.eq_ofNat_of_zero_le n0
    refine jss_of (by omega) (s_one (s_ret (PD.of (d_op op_cat (d_sl sl_list (dv 3) (o_some (dv 6)) o_none rs_list) (d_sl sl_list (dv 3) o_none (o_some (dv 6)) rs_list) (rd_cat ?_)) (z := lsD (ks.drop m ++ ks.take m)) ?_) ⟨_, rfl, ?_, ?_⟩))
    · rw [cutD_from m rfl, cutD_to m rfl, List.length_drop, List.length_take, hkl]
      omega
    · rw [cutD_from m rfl, cutD_to m rfl]
      show D.lst ((kds ks).drop m ++ (kds ks).take m) = .lst (kds (ks.drop m ++ ks.take m))
      unfold kds
      rw [List.map_append, List.map_drop, List.map_take]
    · exact (List.perm_append_comm.trans (List.Perm.of_eq (List.take_append_drop m ks))).nodup_iff.mpr nd
    · exact (List.perm_append_comm.trans (List.Perm.of_eq (List.take_append_drop m ks))).mem_iff.mpr hd
end
end Kp

/-! # _law_caught: a def that is handed a lambda -/
namespace Kp
open PySem PySem.Spec PyProof.Rows L2
/-- what the top says of the classes of errors -/
structure CaF (K : PySem.W.Frag) (mg : Str → Option Value) (Ck Cz CE : Addr) : Prop where
  gk : mg "InvalidKinds" = some (.ref Ck)
  gz : mg "InvalidSize" = some (.ref Cz)
  gE : mg "KeepError" = some (.ref CE)
  ek : ExcC K Ck
  ez : ExcC K Cz
  xk : XfC K Ck
  xz : XfC K Cz
  nk : PySem.W.findIn K (.ref Ck) "index" = some Option.none
  nz : PySem.W.findIn K (.ref Cz) "number" = some Option.none
  kk : PySem.W.kitOne K (.ref Ck) (.ref Ck) = some true
  zk : PySem.W.kitOne K (.ref Cz) (.ref Ck) = some false
  zz : PySem.W.kitOne K (.ref Cz) (.ref Cz) = some true
  ck : PySem.W.exmOne K (.ref Ck) (.ref CE) = some true
  cz : PySem.W.exmOne K (.ref Cz) (.ref CE) = some true
/-- growth that may also take up kept errors -/
structure Ny (G H G' H' : Hp) : Prop where
  g : Same G G'
  h : Same H H'
  s : Same G' H'
  n : ∀ b o, G b = Option.none → H b = some o → (∀ fs, o ≠ .xd fs) → G' b = Option.none
theorem Ny.of {G H G' H' : Hp} (n : Nx G H G' H') : Ny G H G' H' := ⟨n.g, n.h, n.s, fun b o h1 h2 _ => n.n b h1 (by rw [h2]; simp)⟩
theorem Ny.trans {G H G1 H1 G2 H2 : Hp} (x : Ny G H G1 H1) (y : Ny G1 H1 G2 H2) : Ny G H G2 H2 := ⟨x.g.trans y.g, x.h.trans y.h, y.s, fun b o h1 h2 h3 => y.n b o (x.n b o h1 h2 h3) (x.h _ _ h2) h3⟩
theorem J.ny {a : Dz} {b : Nat} {G H G' H' : Hp} (j : J a b G H) (n : Ny G H G' H') : J a b G' H' := by
  obtain ⟨al, ai, l, t, ns, ms, h1, h2, h3, g1, g2, g3, t0, t1, hT⟩ := j
  exact ⟨al, ai, l, t, ns, ms, n.h _ _ h1, n.h _ _ h2, n.h _ _ h3, n.n _ _ g1 h1 (fun fs z => by cases z), n.n _ _ g2 h2 (fun fs z => by cases z), n.n _ _ g3 h3 (fun fs z => by cases z), t0, t1, hT.ext n.h⟩
/-- the two kinds of errors -/
def erOk (Ck Cz Ce : Addr) (f kd : Str) : Prop := (Ce = Ck ∧ f = "index" ∧ kd = "kinds") ∨ (Ce = Cz ∧ f = "number" ∧ kd = "size")
/-- what _law_caught makes of a lambda that raises -/
def TTc (K : PySem.W.Frag) (C Ck Cz : Addr) : (XK → Hp → VK → Prop) → Hp → VK → Prop := fun tl H Q => ∃ (G : Hp) (Ce : Addr) (f kd : Str) (d : D), Same G H ∧ erOk Ck Cz Ce f kd ∧ (∀ (E : XK) (Q' : VK), Wd K C E G H Ce f d → tl E H Q') ∧ (∀ v G' H', Ny G H G' H' → At K C G' (.tup [.str kd, d]) v → Q v H')
section
variable {X : Cx} {C Ck Cz CE : Addr}
theorem caught_tail {Ce : Addr} {f kd : Str} {d : D} (T : Tp X.K X.mg) (F : CaF X.K X.mg Ck Cz CE) (h : erOk Ck Cz Ce f kd) {g : Addr} {cdv : Value} {A : Around} {outer : List Env} {s : Shared} {H : Hp} {E : XK} :
    PSsD C (cxOf C8.CX0 X.prog X.w X.K X.mg X.base n_L_caught "_law_caught" (defScope s_L_caught) g cdv A outer s H E).nox ((defBody s_L_caught).drop 2) [Option.none, some (.exc Ce f d), Option.none] { nx := fun _ => False, rt := fun d' => d' = .tup [.str kd, d] } := by
  refine s_cons (s_if (t_cmp op_isN (dv 1) d_non (rd_isN (b := false) fun G v a => ?_)) (fun k => by cases k) fun _ => s_nil ?_)
  · obtain ⟨b, dd, u, rfl, _⟩ := a.exc'
    rfl
  rcases h with ⟨rfl, rfl, rfl⟩ | ⟨rfl, rfl, rfl⟩
  · exact s_cons (s_if (t_val (d_isE F.ek (T.b _) F.gk (dv 1) F.kk)) (fun _ => s_one (s_ret (d_tup (a_cons d_str (a_cons (d_xk F.xk F.nk (dv 1)) a_nil)) (by show 2 ≤ 1000; decide)) rfl)) fun k => by cases k)
  · exact s_cons (s_if (t_val (d_isE F.ez (T.b _) F.gk (dv 1) F.zk)) (fun k => by cases k) fun _ => s_nil (s_one (s_ret (d_if (t_val (d_isE F.ez (T.b _) F.gz (dv 1) F.zz)) (fun _ => d_tup (a_cons d_str (a_cons (d_xk F.xz F.nz (dv 1)) a_nil)) (by show 2 ≤ 1000; decide)) fun k => by cases k) rfl)))
theorem PSs.lenG {st : List Stmt} {t : TS} (h : PSs X st t) : PSs X st (fun D σ H => σ.length = X.N.length → t D σ H) := ⟨fun pins s σ H D I q => h.run pins s σ H D I (q I.len)⟩
theorem caught_gives (T : Tp X.K X.mg) (F : CaF X.K X.mg Ck Cz CE) {g : Addr} {cdg : Value} {q : Str} :
    LamX.GivesTo X n_L_caught "_law_caught" (defScope s_L_caught) g cdg (defBody s_L_caught) "_law_work" q (TTc X.K C Ck Cz) := by
  intro f c' s H Q tl act hc h
  obtain ⟨G, Ce, fl, kd, d, sm, er, hw, hq⟩ := h
  refine ⟨_, pss_cons (ps_set (i := 1) sc_L_caught.nd rfl (.inl rfl) pe_non) (pss_cons (ps_try_keep (i := 2) (c := .ref CE) (Wout := fun _ _ _ _ => False)
    (tb := fun W D σ H => ∃ Ech : XK, (∀ cls d σ' H', Ech cls d H' → W cls d σ' H') ∧ σ[0]? = some (some (.ref f)) ∧ H c' = some (LamX.CodeO c' q) ∧ tl Ech H (fun v H' => D.nx σ H'))
    (ts := fun a cls dd D σ H => σ.length = 3 → tAsg (tVar 2) (gName 1) D σ H) rfl rfl rfl sc_L_caught.nd rfl rfl ⟨rfl, by decide, .inl F.gE⟩ LamX.takes0 (fun W pn xe tk _ => ?_) (fun a oe cls dd pn _ _ => PSs.lenG (pss_one (ps_set (i := 1) sc_L_caught.nd rfl (.inl rfl) (pe_var (i := 2) rfl (.inl rfl)))))) (PSs.lenG (caught_tail (C := C) (d := d) T F er))), ?_⟩
  · refine ⟨fun pins s' σ H' D I h' => ?_⟩
    obtain ⟨Ech, hW, h1, h2, h3⟩ := h'
    exact (pss_one (ps_expr (act W pn xe Ech _ _ tk hW))).run pins s' σ H' D I ⟨h1, h2, h3⟩
  · refine ⟨fun cls dd H' => ∃ v dx G', cls = .ref Ce ∧ dd = some dx ∧ H' dx = some (.xd [(fl, v)]) ∧ Nx G H G' H' ∧ At X.K C G' d v, fun cls dd σ' H' ⟨v, dx, G', e1, e2, e3, n, a⟩ => ?_, rfl, hc, hw _ _ (fun v G' H' dd n e a => ⟨v, dd, G', rfl, rfl, e, n, a⟩)⟩
    subst e1 e2
    refine ⟨true, ?_, fun _ b hb hlen => ⟨.ref b, ?_, fun hb2 hlen2 => ?_⟩, fun k => by cases k⟩
    · rcases er with ⟨z, _⟩ | ⟨z, _⟩
      · rw [z]; exact F.ck
      · rw [z]; exact F.cz
    · rw [List.length_set] at hlen
      exact List.getElem?_set_self (by rw [hlen]; decide)
    · have hdb : dx ≠ b := fun z => by rw [z, hb] at e3; cases e3
      have gb : G' b = Option.none := n.s.free hb
      have s1 : Same G' (upd G' dx (.xd [(fl, v)])) := fun x u e => by
        by_cases hx : x = dx
        · subst hx
          have := n.s _ _ e
          rw [e3] at this
          rw [upd_same, this]
        · rw [upd_ne hx]
          exact e
      have s2 : Same G' (upd (upd G' dx (.xd [(fl, v)])) b (KeptE (.ref Ce) (some dx) b)) := s1.trans (Same.new (by rw [upd_ne (Ne.symm hdb)]; exact gb))
      have s3 : Same (upd (upd G' dx (.xd [(fl, v)])) b (KeptE (.ref Ce) (some dx) b)) (upd H' b (KeptE (.ref Ce) (some dx) b)) := fun x u e => by
        by_cases hx : x = b
        · subst hx
          rw [upd_same] at e ⊢
          exact e
        · rw [upd_ne hx] at e ⊢
          by_cases hx2 : x = dx
          · subst hx2
            rw [upd_same] at e
            rw [e3]
            exact e
          · rw [upd_ne hx2] at e
            exact n.s _ _ e
      have ny : Ny G H (upd (upd G' dx (.xd [(fl, v)])) b (KeptE (.ref Ce) (some dx) b)) (upd H' b (KeptE (.ref Ce) (some dx) b)) := ⟨n.g.trans s2, n.h.trans (Same.new hb), s3, fun x o h1 h2 h3 => by
        have k1 : x ≠ b := fun z => by
          have := n.h _ _ h2
          rw [z, hb] at this
          cases this
        have k2 : x ≠ dx := fun z => by
          have := n.h _ _ h2
          rw [z, e3] at this
          exact h3 _ (Option.some.inj this).symm
        rw [upd_ne k1, upd_ne k2]
        exact n.n _ h1 (by rw [h2]; simp)⟩
      have aE : At X.K C (upd (upd G' dx (.xd [(fl, v)])) b (KeptE (.ref Ce) (some dx) b)) (.exc Ce fl d) (.ref b) := by
        simp only [At]
        exact ⟨b, dx, v, rfl, upd_same, by rw [upd_ne hdb, upd_same], a.mono s2⟩
      refine ⟨_, s3, ⟨hlen2, fun i d' hi => ?_⟩, fun _ _ _ _ _ _ z => z.elim, fun d2 v2 G3 H3 n3 a3 ed => hq v2 G3 H3 (ny.trans (Ny.of n3)) (by rw [← ed]; exact a3), fun _ _ _ _ _ _ z => z.elim, fun _ _ _ _ _ _ z => z.elim⟩
      match i, hi with
      | 1, hi =>
        cases hi
        refine ⟨.ref b, ?_, aE⟩
        rw [List.length_set] at hlen
        rw [List.getElem?_set_ne (by decide), List.getElem?_set_self (by rw [List.length_set, hlen]; decide)]
      | 0, hi => cases hi
      | 2, hi => cases hi
      | i + 3, hi => cases hi
end
end Kp

/-! # data need no tables; _law_caught called -/
namespace Kp
open PySem PySem.Spec PyProof.Rows L2
section
variable {K : PySem.W.Frag} {C : Addr} {G G' H H' : Hp}
theorem ext_t {a : Addr} {xs : List V} (e : LamX.ExtN H H') (h : SqT K H a xs) : SqT K H' a xs := by
  rcases h with (h | ⟨o, h⟩) | h
  · exact .inl (.inl (e _ _ h fun ps z => by cases z))
  · exact .inl (.inr ⟨o, e _ _ h fun ps z => by cases z⟩)
  · exact .inr h
theorem ext_l {a : Addr} {xs : List V} (e : LamX.ExtN H H') (h : SqL K H a xs) : SqL K H' a xs := by
  rcases h with (h | ⟨o, h⟩) | h
  · exact .inl (.inl (e _ _ h fun ps z => by cases z))
  · exact .inl (.inr ⟨o, e _ _ h fun ps z => by cases z⟩)
  · exact .inr h
theorem LangAt.ext {L : Lang} {v : V} (e : LamX.ExtN G G') (h : LangAt C G L v) : LangAt C G' L v := by
  obtain ⟨a, dx, f1, f4, h1, h2, h3, h4⟩ := h
  exact ⟨a, dx, f1, f4, h1, e _ _ h2 (fun ps z => by cases z), e _ _ h3 (fun ps z => by cases z), e _ _ h4 (fun ps z => by cases z)⟩
mutual
theorem At.ext (e : LamX.ExtN G G') : ∀ {d : D} {v : V}, At K C G d v → At K C G' d v
  | .non, _, h => by simp only [At] at h ⊢; exact h
  | .bl _, _, h => by simp only [At] at h ⊢; exact h
  | .int _, _, h => by simp only [At] at h ⊢; exact h
  | .str _, _, h => by simp only [At] at h ⊢; exact h
  | .lst xs, v, h => by
    simp only [At] at h ⊢
    obtain ⟨a, vs, h1, h2, h3⟩ := h
    exact ⟨a, vs, h1, e _ _ h2 (fun ps z => by cases z), AtL.ext e h3⟩
  | .tup xs, v, h => by
    simp only [At] at h ⊢
    obtain ⟨a, vs, h1, h2, h3⟩ := h
    exact ⟨a, vs, h1, ext_t e h2, AtL.ext e h3⟩
  | .dic kvs, v, h => by
    simp only [At] at h ⊢
    obtain ⟨a, vs, h1, h2, h3⟩ := h
    exact ⟨a, vs, h1, e _ _ h2 (fun ps z => by cases z), AtK.ext e h3⟩
  | .lang L, v, h => by
    simp only [At] at h ⊢
    exact LangAt.ext e h
  | .raw _, _, h => by simp only [At] at h ⊢; exact h
  | .exc Ce f d, v, h => by
    simp only [At] at h ⊢
    obtain ⟨a, dd, u, h1, h2, h3, h4⟩ := h
    exact ⟨a, dd, u, h1, e _ _ h2 (fun ps z => by unfold KeptE at z; cases z), e _ _ h3 (fun ps z => by cases z), At.ext e h4⟩
  | .sq ns, v, h => by
    simp only [At] at h ⊢
    obtain ⟨a, h1, h2⟩ := h
    exact ⟨a, h1, ext_l e h2⟩
theorem AtL.ext (e : LamX.ExtN G G') : ∀ {ds : List D} {vs : List V}, AtL K C G ds vs → AtL K C G' ds vs
  | [], _, h => by simp only [AtL] at h ⊢; exact h
  | d :: ds, vs, h => by
    simp only [AtL] at h ⊢
    obtain ⟨v, r, h1, h2, h3⟩ := h
    exact ⟨v, r, h1, At.ext e h2, AtL.ext e h3⟩
theorem AtK.ext (e : LamX.ExtN G G') : ∀ {ds : List (Key × D)} {vs : List (Key × V)}, AtK K C G ds vs → AtK K C G' ds vs
  | [], _, h => by simp only [AtK] at h ⊢; exact h
  | (k, d) :: ds, vs, h => by
    simp only [AtK] at h ⊢
    obtain ⟨v, r, h1, h2, h3⟩ := h
    exact ⟨v, r, h1, At.ext e h2, AtK.ext e h3⟩
end
theorem Sl.ext {σ : L2.St} {γ : DSt} (h : Sl K C G σ γ) (e : LamX.ExtN G G') : Sl K C G' σ γ := ⟨h.len, fun i d q => by
  obtain ⟨v, h1, h2⟩ := h.at_ i d q
  exact ⟨v, h1, At.ext e h2⟩⟩
/-- the data without the tables -/
def flt (G : Hp) : Hp := fun b => match G b with
  | some (.tbl _) => Option.none
  | o => o
theorem flt_ext (G : Hp) : LamX.ExtN G (flt G) := fun b o h n => by
  unfold flt
  rw [h]
  cases o <;> first | rfl | (exact absurd rfl (n _))
theorem flt_some {b : Addr} {o : HO} (h : flt G b = some o) : G b = some o ∧ ∀ ps, o ≠ .tbl ps := by
  unfold flt at h
  split at h
  · cases h
  · rename_i h2
    refine ⟨h, fun ps e => ?_⟩
    rw [e] at h
    exact h2 ps h
theorem flt_none {b : Addr} (h : G b = Option.none) : flt G b = Option.none := by
  unfold flt
  rw [h]
theorem flt_same (s : Same G H) (e : LamX.ExtN H H') : Same (flt G) H' := fun b u h => e b u (s b u (flt_some h).1) (flt_some h).2
theorem J.lam {a : Dz} {b : Nat} (j : J a b G H) (e : LamX.ExtN H H') (hT : LamX.Tabs a.T H') : J a b (flt G) H' := by
  obtain ⟨al, ai, l, t, ns, ms, h1, h2, h3, g1, g2, g3, t0, t1, _⟩ := j
  exact ⟨al, ai, l, t, ns, ms, e _ _ h1 dk_notbl.1, e _ _ h2 lst_notbl.1, e _ _ h3 lst_notbl.1, flt_none g1, flt_none g2, flt_none g3, t0, t1, hT⟩
end
/-! ### forgetful readings -/
section
variable (K : PySem.W.Frag) (C : Addr) (a : Dz) (b b' : Nat)
/-- an expression, after which the slots stand on other data -/
def mE (γ : DSt) (Pd : D → Prop) : TE := fun σ H Q => ∃ G, Same G H ∧ Sl K C G σ γ ∧ J a b G H ∧ ∀ v d G' H', Same G' H' → J a b' G' H' → Sl K C G' σ γ → Pd d → At K C G' d v → Q v H'
def mS (γ : DSt) (E : DE) : TS := fun Dn σ H => ∃ G, Same G H ∧ Sl K C G σ γ ∧ J a b G H ∧
  (∀ σ' γ' G' H', Same G' H' → J a b' G' H' → Sl K C G' σ' γ' → E.nx γ' → Dn.nx σ' H') ∧ (∀ d v G' H', Same G' H' → J a b' G' H' → At K C G' d v → E.rt d → Dn.rt v H') ∧
  (∀ σ' γ' G' H', Same G' H' → J a b' G' H' → Sl K C G' σ' γ' → E.bk γ' → Dn.bk σ' H') ∧ (∀ σ' γ' G' H', Same G' H' → J a b' G' H' → Sl K C G' σ' γ' → E.ct γ' → Dn.ct σ' H')
end
def PEM (C : Addr) (a : Dz) (b b' : Nat) (X : Cx) (e : Expr) (γ : DSt) (Pd : D → Prop) : Prop := PE X e (mE X.K C a b b' γ Pd)
def PSM (C : Addr) (a : Dz) (b b' : Nat) (X : Cx) (st : Stmt) (γ : DSt) (E : DE) : Prop := PS X st (mS X.K C a b b' γ E)
def PSsM (C : Addr) (a : Dz) (b b' : Nat) (X : Cx) (st : List Stmt) (γ : DSt) (E : DE) : Prop := PSs X st (mS X.K C a b b' γ E)
section
variable {C Ck Cz CE : Addr} {a : Dz} {b b' b1 b2 : Nat} {X : Cx} {c e e2 o : Expr} {es : List Expr} {γ : DSt} {d : D} {pos p p2 : Pos} {st : Stmt} {rest body orelse : List Stmt} {E : DE} {tg : Expr}
theorem ms_of (h : PSJ C a b b' X st γ E) : PSM C a b b' X st γ E := PS.weak h fun Dn σ H ⟨G, s, sl, j, kn, kr, kb, kc⟩ =>
  ⟨G, s, sl, j, fun σ' γ' G' H' x => kn σ' γ' G' H' x.s x.j, fun d v G' H' x => kr d v G' H' x.s x.j, fun σ' γ' G' H' x => kb σ' γ' G' H' x.s x.j, fun σ' γ' G' H' x => kc σ' γ' G' H' x.s x.j⟩
theorem mss_of (h : PSsJ C a b b' X rest γ E) : PSsM C a b b' X rest γ E := PSs.weak h fun Dn σ H ⟨G, s, sl, j, kn, kr, kb, kc⟩ =>
  ⟨G, s, sl, j, fun σ' γ' G' H' x => kn σ' γ' G' H' x.s x.j, fun d v G' H' x => kr d v G' H' x.s x.j, fun σ' γ' G' H' x => kb σ' γ' G' H' x.s x.j, fun σ' γ' G' H' x => kc σ' γ' G' H' x.s x.j⟩
theorem ms_cons (h : PSM C a b b1 X st γ { E with nx := fun γ' => PSsM C a b1 b2 X rest γ' E }) (hb : b1 ≤ b2 := by omega) : PSsM C a b b2 X (st :: rest) γ E :=
  PSs.weak (pss_cons h (PSs.all (t := fun (i : { γ' : DSt // PSsM C a b1 b2 X rest γ' E }) => mS X.K C a b1 b2 i.1 E) fun i => i.2)) fun Dn σ H ⟨G, s, sl, j, kn, kr, kb, kc⟩ =>
    ⟨G, s, sl, j, fun σ' γ' G1 H1 s1 j1 sl1 q => ⟨⟨γ', q⟩, G1, s1, sl1, j1, kn, kr, kb, kc⟩, fun d v G2 H2 s2 j2 => kr d v G2 H2 s2 (j2.mono hb), fun σ2 γ2 G2 H2 s2 j2 => kb σ2 γ2 G2 H2 s2 (j2.mono hb), fun σ2 γ2 G2 H2 s2 j2 => kc σ2 γ2 G2 H2 s2 (j2.mono hb)⟩
theorem ms_one (h : PSM C a b b' X st γ E) : PSsM C a b b' X [st] γ E := pss_one h
theorem ms_ret {Pd : D → Prop} (he : PEM C a b b' X e γ Pd) (k : ∀ d, Pd d → E.rt d) : PSM C a b b' X (.Return (some e) pos) γ E :=
  PS.weak (ps_ret he) fun Dn σ H ⟨G, s, sl, j, kn, kr, _⟩ => ⟨G, s, sl, j, fun v d G1 H1 s1 j1 sl1 p1 a1 => kr d v G1 H1 s1 j1 a1 (k d p1)⟩
/-- a comparison of what the lambda's def gives -/
theorem me_cmp {op : CmpOp} {r : R2} {x y z : D} (ho : OpR X (compareOp op) r) (ha : PEM C a b b' X e γ (fun q => q = x)) (hb : PD C X e2 γ y) (hr : RD X.K C r x y z) (hm : behindInMarks op e2 = false := by first | exact nomark _ | rfl) : PEM C a b b' X (.Compare e [op] [e2] pos) γ (fun q => q = z) :=
  PE.weak (pe_cmpR ho ha hb hm) fun σ H Q ⟨G, s, sl, j, k⟩ => ⟨G, s, sl, j, fun v d G1 H1 s1 j1 sl1 p1 a1 => ⟨G1, s1, sl1, fun u G2 H2 n2 a2 => by
    subst p1
    exact hr G2 H2 v u n2.s (a1.mono n2.g) a2 Q fun w' G3 H3 n3 a3 => k w' z G3 H3 n3.s ((j1.nx n2).nx n3) ((sl1.mono n2.g).mono n3.g) rfl a3⟩⟩
end
end Kp

namespace Kp
open PySem PySem.Spec PyProof.Rows L2
section
variable {C Ck Cz CE : Addr} {a : Dz} {b b' b1 b2 : Nat} {X : Cx} {γ : DSt}
/-- _law_caught(lambda: body), where body raises -/
theorem me_caught {c P : Addr} {k : Nat} {params : Arguments} {body : Expr} {scope : Scope} {p lpos pos : Pos} {Ce : Addr} {fl kd : Str} {d : D} (T : Tp X.K X.mg) (F : CaF X.K X.mg Ck Cz CE) (hc : Has X.K X.mg "_law_caught" s_L_caught ["_law_work"])
    (TB : LamX.TabB X.base X.mg c P) (hcode : X.env.code = .ref c) (hmT : (P, X.env.qual ++ "<lambda>") ∈ a.T) (hu : ∀ p ∈ a.T, p.1 = P → p.2 = X.env.qual ++ "<lambda>") (hr : Room (k + 2) X.A) (er : erOk Ck Cz Ce fl kd)
    (hbody : ∀ (A : Around) (outer : List Env) (s : Shared) (H : Hp) (E : XK) (f c' : Addr), Room k (A.deeper (LamX.lamEnv X scope s.heap.objs.size f c')) → PE (LamX.lamCx X A outer s H E scope f c') body (cEW X.K C E γ (.er Ce fl d)))
    (L : LamX.LamS X.env.scope scope) (hg : Gl X "_law_caught" := by rfl) (hdef : defaultsOf params X.env = ([], []) := by rfl)
    (hbind : ∀ (q : Str) (cl : List (Str × Addr)) (pm cv ctv : Value), bindArgs (PySem.W.kla_fn "<lambda>" q params body scope cl pm cv ctv) ⟨[], []⟩ = pure [] := by intro _ _ _ _ _; rfl) :
    PEM C a b b X (.Call (.Name "_law_caught" p) [.Lambda params body scope lpos] [] pos) γ (fun z => z = .tup [.str kd, d]) := by
  obtain ⟨g, fd, Fu, hm, hb⟩ := hc.ex
  obtain ⟨oc, od, kV, doc, pm, an, cdv, ct, osl, rfl, lk, hcd⟩ := Fu.ex
  refine PE.weak (LamX.pe_lamcall (T := a.T) (TT := TTc X.K C Ck Cz) (t := fun E => cEW X.K C E γ (.er Ce fl d)) hg hm Fu.kp lk hcd hb sc_L_caught rfl (.inl rfl) (caught_gives (C := C) T F) TB hcode hmT hu hr L hdef hbind hbody) fun σ H Q ⟨G, s, sl, j, q⟩ => ?_
  have j0 := j
  obtain ⟨al, ai, l, t, ns, ms, h1, h2, h3, g1, g2, g3, t0, t1, hT⟩ := j0
  refine ⟨hT, fun H1 e T1 => ⟨flt G, Ce, fl, kd, d, flt_same s e, er, fun E Q' wd => ⟨flt G, flt_same s e, sl.ext (flt_ext G), wd⟩, fun v G' H' n av => ?_⟩⟩
  exact q v _ G' H' n.s ((j.lam e T1).ny n) ((sl.ext (flt_ext G)).mono n.g) rfl av
end
end Kp

/-! # _law_refused_right -/
namespace Kp
open PySem PySem.Spec PyProof.Rows L2
def mT (K : PySem.W.Frag) (C : Addr) (a : Dz) (b b' : Nat) (γ : DSt) (k : Bool) : TT := fun σ H Q => ∃ G, Same G H ∧ Sl K C G σ γ ∧ J a b G H ∧ ∀ G' H', Same G' H' → J a b' G' H' → Sl K C G' σ γ → Q k H'
def PTM (C : Addr) (a : Dz) (b b' : Nat) (X : Cx) (e : Expr) (γ : DSt) (k : Bool) : Prop := PT X e (mT X.K C a b b' γ k)
theorem PTM.of {C : Addr} {a : Dz} {b b' : Nat} {X : Cx} {e : Expr} {γ : DSt} {k k' : Bool} (h : PTM C a b b' X e γ k) (q : k = k') : PTM C a b b' X e γ k' := q ▸ h
theorem J.forget {a : Dz} {b : Nat} {G H : Hp} (j : J a b G H) : J a b (fun _ => Option.none) H := by
  obtain ⟨al, ai, l, t, ns, ms, h1, h2, h3, g1, g2, g3, t0, t1, hT⟩ := j
  exact ⟨al, ai, l, t, ns, ms, h1, h2, h3, rfl, rfl, rfl, t0, t1, hT⟩
section
variable {C Ck Cz CE : Addr} {a : Dz} {b b' b1 b2 : Nat} {X : Cx} {c e e2 o : Expr} {es : List Expr} {γ : DSt} {d : D} {pos p p2 : Pos} {st : Stmt} {rest body orelse : List Stmt} {E : DE} {tg : Expr}
theorem mt_cmp {op : CmpOp} {r : R2} {x y : D} {k : Bool} (ho : OpR X (compareOp op) r) (ha : PEM C a b b' X e γ (fun q => q = x)) (hb : PD C X e2 γ y) (hr : RD X.K C r x y (.bl k)) (hm : behindInMarks op e2 = false := by first | exact nomark _ | rfl) : PTM C a b b' X (.Compare e [op] [e2] pos) γ k :=
  PT.weak (pt_cmpR ho ha hb hm) fun σ H Q ⟨G, s, sl, j, q⟩ => ⟨G, s, sl, j, fun v d G1 H1 s1 j1 sl1 p1 a1 => ⟨G1, s1, sl1, fun u G2 H2 n2 a2 => by
    subst p1
    exact hr G2 H2 v u n2.s (a1.mono n2.g) a2 _ fun w' G3 H3 n3 a3 => ⟨k, a3.bl', q G3 H3 n3.s ((j1.nx n2).nx n3) ((sl1.mono n2.g).mono n3.g)⟩⟩⟩
theorem ms_if {k : Bool} (hc : PTM C a b b1 X c γ k) (h1 : k = true → PSsM C a b1 b2 X body γ E) (h2 : k = false → PSsM C a b1 b2 X orelse γ E) : PSM C a b b2 X (.If c body orelse pos) γ E :=
  PS.weak (ps_if hc (PSs.guard h1) (PSs.guard h2)) fun Dn σ H ⟨G, s, sl, j, kn, kr, kb, kc⟩ => ⟨G, s, sl, j, fun G1 H1 s1 j1 sl1 => by
    have fin : mS X.K C a b1 b2 γ E Dn σ H1 := ⟨G1, s1, sl1, j1, kn, kr, kb, kc⟩
    cases k with
    | true => exact iteT ⟨rfl, fin⟩
    | false => exact iteF ⟨rfl, fin⟩⟩
end
/-- a def whose code object's address is known -/
structure HasC (K : PySem.W.Frag) (mg : Str → Option Value) (x : Str) (st : Stmt) (ps : List Str) (c : Addr) : Prop where
  ex : ∃ (f : Addr) (oc : Value) (od : Option Addr) (kV doc pm : Value) (an : Option Addr) (ct : Value) (osl : Array (Option Value)),
    K.lookup f = some ⟨oc, od, .func (PySem.W.fnOf x x (defArgs st) (defBody st) (defScope st) .none kV doc pm an (.ref c) ct), osl⟩ ∧ PySem.W.codeIn K (.ref c) x = true ∧ PySem.W.keepIn K (.ref f) = true ∧ mg x = some (.ref f) ∧
      Binds K (PySem.W.fnOf x x (defArgs st) (defBody st) (defScope st) .none kV doc pm an (.ref c) ct) ps []
def spR (K : PySem.W.Frag) (C : Addr) (T : List (Addr × Str)) : Sp := fun vs H Q _ => ∃ G z b ks, z.T = T ∧ Same G H ∧ J z b G H ∧ b + 2 ≤ cap ∧ AtL K C G [.raw (.ref z.a), lsD ks] vs ∧ ks.Nodup ∧ Kd.del ∈ ks ∧ ∀ H', J z (b + 2) (fun _ => Option.none) H' → Q (.bl true) H'
structure DfR (P : Program) (w : World) (K : PySem.W.Frag) (mg : Str → Option Value) (base : Heap) (C : Addr) (k : Nat) (x : Str) (T : List (Addr × Str)) : Prop where
  ex : ∃ (f : Addr) (fd : FuncData) (ps : List Str), FnOk P w K mg base CX0 k f fd ps (spR K C T) ∧ mg x = some (.ref f) ∧ PySem.W.keepIn K (.ref f) = true ∧ Binds K fd ps []
def odds1 : List D := [.non, .int 5, .str "deletes", .lst [.str "delete"], .str "delete"]
def odds2 : List D := [.int (-1), .int 61, .non, .bl true, .str "3", .int (10 ^ 30)]
theorem odd1_bad {ks : List Kd} (hd : Kd.del ∈ ks) {d : D} (h : d ∈ odds1) : BadK ks d := by
  simp only [odds1, List.mem_cons, List.not_mem_nil, or_false] at h
  rcases h with e | e | e | e | e <;> subst e
  · exact .inl ⟨"NoneType", rfl, by decide +kernel⟩
  · exact .inl ⟨"int", rfl, by decide +kernel⟩
  · exact .inr ⟨"deletes", rfl, .inl (by decide +kernel)⟩
  · exact .inl ⟨"list", rfl, by decide +kernel⟩
  · exact .inr ⟨"delete", rfl, .inr (by
      have := inD_kds .del ks
      rw [decide_eq_true hd] at this
      exact this)⟩
theorem odd2_ok {d : D} (h : d ∈ odds2) : isPl d 61 = false ∧ (∃ t, tyD d = some t) ∧ isPd d = true ∧ SeqAt.shaped (pd (.tup [.str "size", d])) = true ∧ PyData.eqv (pd (.tup [.str "size", d])) (pd (.tup [.str "size", d])) = true := by
  simp only [odds2, List.mem_cons, List.not_mem_nil, or_false] at h
  rcases h with e | e | e | e | e | e <;> subst e <;> exact ⟨by decide +kernel, ⟨_, rfl⟩, rfl, by decide +kernel, by decide +kernel⟩
theorem kinds_eqv (n : Nat) : PyData.eqv (pd (.tup [.str "kinds", .int (n : Int)])) (pd (.tup [.str "kinds", .int (n : Int)])) = true := by
  simp [PyData.eqv, PyData.eqvAll, pd, pdL]
theorem kinds_sh (n : Nat) : SeqAt.shaped (pd (.tup [.str "kinds", .int (n : Int)])) = true := by
  have e : SeqAt.shaped (pd (.tup [.str "kinds", .int (n : Int)])) = SeqAt.shaped (pd (.tup [.str "kinds", .int 0])) := by
    simp only [SeqAt.shaped, pd, pdL, PyData.canLay0, PyData.canLayAll0, PyData.depth, PyData.depthAll]
  rw [e]
  decide +kernel
section
variable {P : Program} {w : World} {K : PySem.W.Frag} {mg : Str → Option Value} {base : Heap} {C : Addr}
theorem df_L_refused {Ck Cz CE c Pt : Addr} {TT : List (Addr × Str)} (T : Tp K mg) (F : CaF K mg Ck Cz CE) (hc : Has K mg "_law_caught" s_L_caught ["_law_work"]) (F2 : DfJ P w K mg base C 3 "_law_pick" 1 okPick FdPick)
    (Fs : DfE P w K mg base C 7 "smallest" (FdSm Ck)) (Fn : DfE P w K mg base C 7 "needed" (FdNe Ck Cz)) (FnK : DfK P w K mg base C 7 "needed" ["size", "kinds"] 2 swap2 (FdNe Ck Cz))
    (h : HasC K mg "_law_refused_right" s_L_refused_right ["_law_draw", "_law_sorts_here"] c) (TB : LamX.TabB base mg c Pt) (hTT : TT = [(Pt, ("_law_refused_right.<locals>.<lambda>" : Str))]) : DfR P w K mg base C 10 "_law_refused_right" TT := by
  obtain ⟨f, oc, od, kV, doc, pm, an, ct, osl, lk, hcd, hkp, hm, hbn⟩ := h.ex
  refine ⟨f, _, ["_law_draw", "_law_sorts_here"], fn_of lk hcd sc_L_refused_right (fun vs H Q E hsp => ?_) (fun A outer s H vs Q E hr hsp => ?_), hm, hkp, hbn⟩
  · obtain ⟨G, z, b, ks, _, _, _, _, r, _⟩ := hsp
    rw [r.len]
    rfl
  obtain ⟨G, z, b, ks, hz, sm, j, hcap, r, nd, hd, q⟩ := hsp
  have hl := kd_len nd
  have hkl : (kds ks).length = ks.length := by unfold kds; rw [List.length_map]
  have main : PSsM C z b (b + 2) (cxOf CX0 P w K mg base n_L_refused_right "_law_refused_right" (defScope s_L_refused_right) f (.ref c) A outer s H E).nox (defBody s_L_refused_right) (dstart n_L_refused_right [.raw (.ref z.a), lsD ks]) { nx := fun _ => False, rt := fun d' => d' = .bl true } := by
    have hmT : (Pt, (cxOf CX0 P w K mg base n_L_refused_right "_law_refused_right" (defScope s_L_refused_right) f (.ref c) A outer s H E).nox.env.qual ++ "<lambda>") ∈ z.T := by
      rw [hz, hTT]
      exact List.mem_singleton.mpr (by rfl)
    have hu : ∀ p ∈ z.T, p.1 = Pt → p.2 = (cxOf CX0 P w K mg base n_L_refused_right "_law_refused_right" (defScope s_L_refused_right) f (.ref c) A outer s H E).nox.env.qual ++ "<lambda>" := fun p hp _ => by
      rw [hz, hTT] at hp
      rw [List.mem_singleton.mp hp]
      rfl
    refine ms_cons (b1 := b + 1) (ms_of (js_set 2 sc_L_refused_right.nd (je_call F2 (hr.mono (by decide)) (a_cons (dv 0) (a_cons (d_lst (ds := odds1) (a_cons d_non (a_cons d_int (a_cons d_str (a_cons (d_lst (a_cons d_str a_nil) (by show 1 ≤ 1000; decide)) (a_cons d_str a_nil))))) (by show 5 ≤ 1000; decide)) a_nil)) ⟨odds1, rfl, by unfold odds1; simp, by show 5 ≤ 1000; decide⟩ (by omega)) ?_))
    rintro d ⟨xs, e, hm⟩
    cases e
    have u : (cxOf CX0 P w K mg base n_L_refused_right "_law_refused_right" (defScope s_L_refused_right) f (.ref c) A outer s H E).nox.A.units + 64 < cLine := room_un hr
    refine ms_cons (b1 := b + 1) (ms_if (k := false) (PTM.of (mt_cmp (x := .tup [.str "kinds", .int (ks.length : Int)]) (op_neD u) (me_caught (C := C) (a := z) (b := b + 1) (fl := "index") (kd := "kinds") (k := 7) (d := .int (ks.length : Int)) T F hc TB rfl hmT hu hr (.inl ⟨rfl, rfl, rfl⟩) (fun A2 outer2 s2 H2 E2 f2 c2 hr2 => ?_) (LamX.lamS_by (sc := defScope s_L_refused_right) (by decide +kernel))) (d_tup (a_cons d_str (a_cons (PD.of (d_callB call_len (T.b _) (a_cons (dv 1) a_nil) rc_lenL) (congrArg (fun (n : Nat) => D.int (n : Int)) hkl)) a_nil)) (by show 2 ≤ 1000; decide)) (rd_neD rfl rfl (kinds_sh _) (kinds_sh _))) (by rw [kinds_eqv]; rfl)) (fun k => by cases k) fun _ => mss_of (js_nil ?_))
    · exact dw_call Fs (takes_of rfl rfl rfl rfl) hr2 (a_cons (d_op op_cat (dv 1) (d_lst (a_cons (dv 2) a_nil) (by show 1 ≤ 1000; decide)) (rd_cat (by show (kds ks).length + 1 ≤ 10000; omega))) a_nil) (.inr ⟨ks, d, nd, odd1_bad hd hm, rfl, rfl⟩)
    have hnd : (ks.filter fun k => decide (k ≠ Kd.del)).Nodup := nd.filter _
    have hnl : (kds (ks.filter fun k => decide (k ≠ Kd.del))).length = (ks.filter fun k => decide (k ≠ Kd.del)).length := by unfold kds; rw [List.length_map]
    have hno : Kd.del ∉ ks.filter fun k => decide (k ≠ Kd.del) := fun z => by
      have := (List.mem_filter.mp z).2
      simp at this
    refine ms_cons (b1 := b + 1) (ms_of (js_of (Nat.le_refl _) (s_set 3 sc_L_refused_right.nd (d_lc1 "_law_sort" 4 ks (fun k => .str k.s) (fun k => decide (k ≠ Kd.del)) (fun k => .str k.s) rfl sc_L_refused_right.nd (i_list (dv 1)) (blkOk_by (N := n_L_refused_right) (sc := defScope s_L_refused_right) (by decide +kernel)) (fun k hk s H Ca cl fp => ts_one (PTD.of (t_cmp op_ne (dv 4) d_str rd_neS) (by cases k <;> decide))) (fun k hk _ s H Ca cl fp => dv 4) (by omega)) ?_)))
    show PSsM C z (b + 1) (b + 2) _ _ [some (.raw (.ref z.a)), some (lsD ks), some d, some (lsD (ks.filter fun k => decide (k ≠ Kd.del))), Option.none] _
    generalize ks.filter (fun k => decide (k ≠ Kd.del)) = rs at hnd hnl hno
    refine ms_cons (b1 := b + 1) (ms_if (k := false) (PTM.of (mt_cmp (x := .tup [.str "kinds", .int (rs.length : Int)]) (op_neD u) (me_caught (C := C) (a := z) (b := b + 1) (fl := "index") (kd := "kinds") (k := 7) (d := .int (rs.length : Int)) T F hc TB rfl hmT hu hr (.inl ⟨rfl, rfl, rfl⟩) (fun A2 outer2 s2 H2 E2 f2 c2 hr2 => ?_) (LamX.lamS_by (sc := defScope s_L_refused_right) (by decide +kernel))) (d_tup (a_cons d_str (a_cons (PD.of (d_callB call_len (T.b _) (a_cons (dv 3) a_nil) rc_lenL) (congrArg (fun (n : Nat) => D.int (n : Int)) hnl)) a_nil)) (by show 2 ≤ 1000; decide)) (rd_neD rfl rfl (kinds_sh _) (kinds_sh _))) (by rw [kinds_eqv]; rfl)) (fun k => by cases k) fun _ => mss_of (js_nil ?_))
    · exact dw_call Fs (takes_of rfl rfl rfl rfl) hr2 (a_cons (dv 3) a_nil) (.inl ⟨false, rs, hnd, rfl, by rw [if_neg hno]⟩)
    refine ms_cons (b1 := b + 1) (ms_if (k := false) (PTM.of (mt_cmp (x := .tup [.str "kinds", .int (rs.length : Int)]) (op_neD u) (me_caught (C := C) (a := z) (b := b + 1) (fl := "index") (kd := "kinds") (k := 7) (d := .int (rs.length : Int)) T F hc TB rfl hmT hu hr (.inl ⟨rfl, rfl, rfl⟩) (fun A2 outer2 s2 H2 E2 f2 c2 hr2 => ?_) (LamX.lamS_by (sc := defScope s_L_refused_right) (by decide +kernel))) (d_tup (a_cons d_str (a_cons (PD.of (d_callB call_len (T.b _) (a_cons (dv 3) a_nil) rc_lenL) (congrArg (fun (n : Nat) => D.int (n : Int)) hnl)) a_nil)) (by show 2 ≤ 1000; decide)) (rd_neD rfl rfl (kinds_sh _) (kinds_sh _))) (by rw [kinds_eqv]; rfl)) (fun k => by cases k) fun _ => mss_of (js_nil ?_))
    · exact dw_call Fn (takes_of rfl rfl rfl rfl) hr2 (a_cons (dv 3) (a_cons d_non a_nil)) ⟨false, rs, .non, "NoneType", hnd, rfl, rfl, .inl ⟨hno, rfl⟩⟩
    have hpow : CPow 10 30 := ⟨by decide, by decide, by decide⟩
    refine ms_cons (b1 := b + 1 + 1) (ms_of (js_set 2 sc_L_refused_right.nd (je_call F2 (hr.mono (by decide)) (a_cons (dv 0) (a_cons (d_lst (ds := odds2) (a_cons (d_neg d_int) (a_cons d_int (a_cons d_non (a_cons d_bl (a_cons d_str (a_cons (PD.of (d_op op_pow d_int d_int (rd_powI hpow)) (by rfl)) a_nil)))))) (by show 6 ≤ 1000; decide)) a_nil)) ⟨odds2, rfl, by unfold odds2; simp, by show 6 ≤ 1000; decide⟩ (by omega)) ?_))
    rintro d2 ⟨xs2, e2, hm2⟩
    cases e2
    obtain ⟨o1, ⟨t, o2⟩, o3, o4, o5⟩ := odd2_ok hm2
    have o3' : isPd (.tup [.str "size", d2]) = true := by
      show (true && (isPd d2 && true)) = true
      rw [o3]
      rfl
    refine ms_one (ms_ret (me_cmp (x := .tup [.str "size", d2]) (op_eqD u) (me_caught (C := C) (a := z) (b := b + 2) (fl := "number") (kd := "size") (k := 7) (d := d2) T F hc TB rfl hmT hu hr (.inr ⟨rfl, rfl, rfl⟩) (fun A2 outer2 s2 H2 E2 f2 c2 hr2 => ?_) (LamX.lamS_by (sc := defScope s_L_refused_right) (by decide +kernel))) (d_tup (a_cons d_str (a_cons (dv 2) a_nil)) (by show 2 ≤ 1000; decide)) (rd_eqD o3' o3' o4 o4)) fun d3 e3 => by rw [e3, o5])
    exact dw_callK FnK (takes_of rfl rfl rfl rfl) hr2 (k_cons (dv 2) (k_cons (dv 1) k_nil)) rfl (fun G vs r => by
      obtain ⟨v1, r1, rfl, h1, h2⟩ := r.inv
      obtain ⟨v2, r2, rfl, h3, h4⟩ := h2.inv
      rw [h4.inv0]
      exact .cons h3 (.cons h1 .nil)) ⟨false, ks, d2, t, nd, rfl, o2, .inr (.inl ⟨hd, o1, rfl⟩)⟩
  refine ⟨_, main.nox, G, sm, sl_start r, j, fun _ _ _ _ _ _ _ z => z.elim, fun d v G' H' s1 j1 a1 e => ?_, fun _ _ _ _ _ _ _ z => z.elim, fun _ _ _ _ _ _ _ z => z.elim⟩
  rw [e] at a1
  rw [a1.bl']
  exact q H' j1.forget
end
end Kp

/-! # _law_begin -/
namespace Kp
open PySem PySem.Spec PyProof.Rows L2
section
variable {P : Program} {w : World} {K : PySem.W.Frag} {mg : Str → Option Value} {base : Heap} {C : Addr}
theorem At.sq' {G : Hp} {ns : List Int} {v : V} (h : At K C G (.sq ns) v) : ∃ a, v = .ref a ∧ SqL K G a (ns.map .int) := by simp only [At] at h; exact h
theorem rs_sq {ns : List Int} {lo hi : Option Int} : RSD K C (rSlL K) (.sq ns) lo hi (.lst (cutD (ns.map .int) lo hi)) := fun G H v s a1 Q k => by
  obtain ⟨a, rfl, g⟩ := a1.sq'
  exact ⟨a, _, rfl, same_l s g, fun p hp => k _ _ _ (Nx.new s hp) (At.lst upd_same (((atL_ints (ns := ns)).cut lo hi)))⟩
theorem rc_lenQ {ns : List Int} : RCD K C (fun xs H Q => ∃ x n, xs = [x] ∧ LenV K x H n ∧ Q (.int n) H) [.sq ns] (.int (ns.length : Int)) := fun G H vs s a Q k => by
  obtain ⟨v, r, rfl, h1, h2⟩ := a.inv
  rw [h2.inv0]
  obtain ⟨p, rfl, g⟩ := h1.sq'
  exact ⟨_, ns.length, rfl, .inl ⟨_, same_l s g, (List.length_map ..).symm⟩, k _ G H (Nx.refl s) (At.int _)⟩
theorem rc_abs {i : Int} : RCD K C (fun xs H Q => ∃ i, xs = [.int i] ∧ Q (.int (if i < 0 then -i else i)) H) [.int i] (.int (if i < 0 then -i else i)) := fun G H vs s a Q k => by
  obtain ⟨v, r, rfl, h1, h2⟩ := a.inv
  rw [h2.inv0, h1.int']
  exact ⟨i, rfl, k _ G H (Nx.refl s) (At.int _)⟩
abbrev FdBegin : List D → D → Prop := fun ds d => ∃ ns ms ls : List Int, ds = [.sq ns] ∧ ms = (ns.take 63).map (fun i => if i < 0 then -i else i) ∧ ls = ms.filter (fun i => decide (10 ^ 18 ≤ i)) ∧ d = drD ls ms 0 0
theorem df_L_begin (T : Tp K mg) (h : Has K mg "_law_begin" s_L_begin ["_law_script"]) : Df P w K mg base C 1 "_law_begin" FdBegin := by
  refine df_mk h sc_L_begin (fun ds d ⟨ns, ms, ls, e, _⟩ => by rw [e] <;> rfl) fun f cdv A outer s H E ds d hr ⟨ns, ms, ls, e, em, el, ed⟩ => ?_
  subst e ed el
  have hlm : ms.length ≤ 63 := by
    rw [em, List.length_map, List.length_take]
    omega
  have e1 : cutD (ns.map .int) Option.none (some 63) = (ns.take 63).map D.int := by
    rw [cutD_to (i := 63) 63 rfl, List.map_take]
  refine s_cons (s_setLc1 1 "_law_item" 2 (ns.take 63) D.int (fun _ => true) (fun i => .int (if i < 0 then -i else i)) rfl sc_L_begin.nd (PID.of (i_list (d_sl sl_list (dv 0) o_none (o_some d_int) rs_sq)) e1) (blkOk_by (N := n_L_begin) (sc := defScope s_L_begin) (by decide +kernel)) (fun i hi s H Ca cl fp => ts_nil) (fun i hi _ s H Ca cl fp => d_callB call_abs (T.b _) (a_cons (dv 2) a_nil) rc_abs) (by rw [List.length_take]; omega) ?_ rfl)
  have eg : D.lst (((ns.take 63).filter (fun _ => true)).map fun i => D.int (if i < 0 then -i else i)) = .lst (ms.map .int) := by
    rw [filter_tt, em, List.map_map]
    rfl
  show PSsD _ _ _ [some (.sq ns), some (D.lst (((ns.take 63).filter (fun _ => true)).map fun i => D.int (if i < 0 then -i else i))), Option.none] _
  rw [eg]
  refine s_one (s_ret (d_disp [("large", .lst ((ms.filter (fun i => decide (10 ^ 18 ≤ i))).map .int)), ("items", .lst (ms.map .int)), ("left", .int 0), ("turn", .int 0)] (pps_cons d_str (d_lc1 "_law_item" 2 ms D.int (fun i => decide (10 ^ 18 ≤ i)) D.int rfl sc_L_begin.nd (i_list (dv 1)) (blkOk_by (N := n_L_begin) (sc := defScope s_L_begin) (by decide +kernel)) (fun i hi s H Ca cl fp => ts_one (PTD.of (t_cmp op_ge (dv 2) (d_op op_pow d_int d_int (rd_powI (i := 10) (j := 18) ⟨by decide, by decide, by decide⟩)) rd_ge) rfl)) (fun i hi _ s H Ca cl fp => dv 2) (by omega))
    (pps_cons d_str (dv 1) (pps_cons d_str d_int (pps_cons d_str d_int pps_nil)))) (by show (["large", "items", "left", "turn"] : List Str).Nodup; decide +kernel) (by show 4 ≤ 15; decide)) rfl)
end
end Kp

/-! # law: one turn -/
namespace Kp
open PySem PySem.Spec PyProof.Rows L2
theorem fl_rev (ks : List Kd) : flOf ks.reverse = flOf ks := by
  unfold flOf
  simp only [List.contains_eq_mem, List.mem_reverse]
theorem fm_rev (ks : List Kd) : fmOf ks.reverse = fmOf ks := by unfold fmOf; rw [fl_rev]
theorem fm_eqv (F : Fm) : PyData.eqv (pd (fmD F)) (pd (fmD F)) = true := by cases F <;> decide +kernel
theorem fm_pd (F : Fm) : isPd (fmD F) = true := isPd_strs _
theorem fm_sh (F : Fm) : SeqAt.shaped (pd (fmD F)) = true := by cases F <;> decide +kernel
theorem all_eqv (F : Fm) : PyData.eqv (pd (fmD F)) (pd (.tup [.str "all"])) = F.any := by cases F <;> decide +kernel
def REqF (C : Addr) (a b : Addr) (H : Hp) : Prop := ∃ (G : Hp) (L : Fm), Same G H ∧ LangAt C G L.lg (.ref a) ∧ LangAt C G L.lg (.ref b)
structure EqF (P : Program) (w : World) (K : PySem.W.Frag) (mg : Str → Option Value) (base : Heap) (C : Addr) (k : Nat) : Prop where
  ex : ∃ (f : Addr) (fd : FuncData) (ps : List Str), FnOk P w K mg base CX0 k f fd ps (spEq (REqF C)) ∧ Meth K C "__eq__" f ∧ Binds K fd ps []
theorem eqf_of {P : Program} {w : World} {K : PySem.W.Frag} {mg : Str → Option Value} {base : Heap} {C : Addr} {k : Nat} (h : DfM P w K mg base C k "__eq__" (fun ds d => ∃ F : Fm, ds = [.lang F.lg, .lang F.lg] ∧ d = .bl true)) : EqF P w K mg base C k := by
  obtain ⟨f, fd, ps, F, hm, hb⟩ := h.ex
  refine ⟨f, fd, ps, F.imp fun vs H Q E ⟨a, b, e, ⟨G, L, s, l1, l2⟩, q⟩ => ⟨G, [.lang L.lg, .lang L.lg], .bl true, s, ?_, ⟨L, rfl, rfl⟩, fun v G' H' n a' => ?_⟩, hm, hb⟩
  · rw [e]
    exact .cons (At.lang l1) (.cons (At.lang l2) .nil)
  · rw [a'.bl']
    exact q H' n.h
section
variable {C : Addr} {X : Cx} {a b : Expr} {γ : DSt} {pos : Pos}
theorem t_eqL {k : Nat} {L : Fm} (F : EqF X.prog X.w X.K X.mg X.base C k) (hr : Room k X.A) (ha : PD C X a γ (.lang L.lg)) (hb : PD C X b γ (.lang L.lg)) (hm : behindInMarks .Eq b = false := by first | exact nomark _ | rfl) : PTD C X (.Compare a [.Eq] [b] pos) γ true := by
  obtain ⟨f, fd, ps, F, hme, hbn⟩ := F.ex
  refine t_cmp (op_eqG (rcG_ins F hme.at_ hme.fn hbn pass0) hr) ha hb (fun G H v u s a1 a2 Q q => ?_) hm
  obtain ⟨c, dx, f1, f4, rfl, g1, g2, g3⟩ := a1.lang'
  obtain ⟨c', dx', f1', f4', rfl, g1', g2', g3'⟩ := a2.lang'
  refine ⟨⟨c, c', dx, dx', _, _, rfl, rfl, s _ _ g1, s _ _ g1', G, L, s, ⟨_, _, _, _, rfl, g1, g2, g3⟩, ⟨_, _, _, _, rfl, g1', g2', g3'⟩⟩, fun H' e => q _ G H' ⟨Same.refl _, e, fun b o h => e _ _ (s _ _ h), fun _ h _ => h⟩ (At.bl _)⟩
end
abbrev FdOA : List D → D → Prop := fun ds d => ∃ F tp ks, ds = [.lang (Fm.lg F), kD tp (kds ks)] ∧ ks.Nodup ∧ ks.length ≤ 90 ∧ (F ≠ .all → ∀ k ∈ ks, F.bears k = true) ∧ d = .non
abbrev FdLMany : List D → D → Prop := fun ds d => ∃ (F : Fm) (n : Nat), ds = [fmD F, .int n] ∧ n ≤ 60 ∧ d = .int (lawMany F n)
abbrev FdTongue : List D → D → Prop := fun ds d => ∃ F : Fm, ds = [fmD F] ∧ d = .lang F.lg
abbrev FdCount : List D → D → Prop := fun ds d => ∃ (F : Fm) (n : Nat), ds = [.lang F.lg, .int n] ∧ n ≤ 60 ∧ d = .int (manyM F n)
/-- the defs that the law calls -/
structure Defs (P : Program) (w : World) (K : PySem.W.Frag) (mg : Str → Option Value) (base : Heap) (C Ck Cz : Addr) (TT : List (Addr × Str)) : Prop where
  tp : Tp K mg
  lc : LC K C
  begin : Df P w K mg base C 1 "_law_begin" FdBegin
  sorts : DfJ P w K mg base C 4 "_law_sorts" 6 okSorts FdLSorts
  take : DfJ P w K mg base C 2 "_law_take" 1 okTake FdTake
  due : Df P w K mg base C 2 "_law_due" FdDue
  smE : DfE P w K mg base C 7 "smallest" (FdSm Ck)
  smK : DfK P w K mg base C 7 "smallest" ["kinds"] 1 (fun vs => vs) (FdSm Ck)
  forms : PrO P w K mg base C 1 "forms" FdForms
  eq : EqF P w K mg base C 1
  tongue : Df P w K mg base C 6 "_law_tongue" FdTongue
  closed : Df P w K mg base C 4 "_law_is_closed" FdClosed
  openAt : Df P w K mg base C 10 "open_at" FdOA
  need : DfE P w K mg base C 7 "needed" (FdNe Ck Cz)
  many : Df P w K mg base C 1 "_law_many" FdLMany
  count : DfM P w K mg base C 4 "count" FdCount
  refused : DfR P w K mg base C 10 "_law_refused_right" TT
section
variable {P : Program} {w : World} {K : PySem.W.Frag} {mg : Str → Option Value} {base : Heap} {C Ck Cz : Addr} {TT : List (Addr × Str)}
def sTurn : List Stmt := match (defBody s_law).getD 1 (.Pass ⟨0, 0, 0, 0⟩) with
  | .For _ _ body _ _ => body
  | _ => []
abbrev γ0 (z : Dz) (i : Option D) : DSt := [Option.none, some (.raw (.ref z.a)), i, Option.none, Option.none, Option.none, Option.none]
theorem ms_refused {X : Cx} {z : Dz} {b k : Nat} {γ : DSt} {E : DE} {e : Expr} {es : List Expr} {ks : List Kd} {body : List Stmt} {p pos pos2 pos3 : Pos} (F : DfR X.prog X.w X.K X.mg X.base C k "_law_refused_right" TT) (hT : z.T = TT) (hr : Room k X.A) (ha : PAD C X (e :: es) γ [.raw (.ref z.a), lsD ks]) (nd : ks.Nodup) (hd : Kd.del ∈ ks) (hcap : b + 2 ≤ cap)
    (h1 : γ[1]? = some (some (.raw (.ref z.a)))) (h7 : γ.length = 7) (kx : E.nx (γ0 z Option.none)) (hg : Gl X "_law_refused_right" := by rfl) (hst : starEach (e :: es) X.env = (false, eval e X.env) :: starEach es X.env := by rfl) (hpl : (backTo pos2 (starEach es X.env)).any (·.1) = false := by rfl)
    (hv : ∀ whole, isTrue (.Call (.Name "_law_refused_right" p) (e :: es) [] pos2) X.env whole = (do let v ← whole; standAt (Expr.Call (.Name "_law_refused_right" p) (e :: es) [] pos2).pos; holding [v] (truthy v)) := by intro _; rfl) : PSM C z b (b + 2) X (.If (.UnaryOp .Not (.Call (.Name "_law_refused_right" p) (e :: es) [] pos2) pos3) body [] pos) γ E := by
  obtain ⟨f, fd, ps, F, hm, hk, hb⟩ := F.ex
  refine PS.weak (ps_if (pt_not (pt_val (pe_call F hr hg hm hk hb .nil pass0 ha (by decide) hst hpl) hv)) pss_never pss_nil) fun Dn σ H ⟨G, s, sl, j, kn, _⟩ => ⟨G, s, sl, fun vs G1 H1 n1 a1 => ⟨G1, z, b, ks, hT, n1.s, j.nx n1, hcap, by rw [List.append_nil]; exact a1, nd, hd, fun H' j' => ⟨true, rfl, iteF (kn σ _ (fun _ => Option.none) H' (fun _ _ e => by cases e) j' ⟨by rw [sl.len, h7]; rfl, fun i d hi => ?_⟩ kx)⟩⟩⟩
  obtain ⟨v, e1, e2⟩ := sl.at_ 1 _ h1
  rw [e2.raw'] at e1
  match i, hi with
  | 0, hi => cases hi
  | 1, hi => cases hi; exact ⟨_, e1, At.raw _⟩
  | 2, hi => cases hi
  | 3, hi => cases hi
  | 4, hi => cases hi
  | 5, hi => cases hi
  | 6, hi => cases hi
  | i + 7, hi => cases hi
theorem law_turn (B : Defs P w K mg base C Ck Cz TT) {f : Addr} {cdv : Value} {A : Around} {outer : List Env} {s : Shared} {H : Hp} {E : XK} (hr : Room 10 (A.deeper (envOfC "law" (defScope s_law) s.heap.objs.size f cdv))) (z : Dz) (hz : z.T = TT) (q : Nat) (i : Option D) (hq : q + 9 ≤ cap) :
    PSsM C z q (q + 9) (cxOf CX0 P w K mg base n_law "law" (defScope s_law) f cdv A outer s H E).nox sTurn (γ0 z i) { nx := fun γ => γ = γ0 z Option.none, rt := fun _ => False } := by
  have T := B.tp
  have u : (cxOf CX0 P w K mg base n_law "law" (defScope s_law) f cdv A outer s H E).nox.A.units + 64 < cLine := room_un hr
  refine ms_cons (b1 := q + 6) (ms_of (js_set 3 sc_law.nd (je_call B.sorts (hr.mono (by decide)) (a_cons (dv 1) (a_cons d_int a_nil)) rfl (by omega)) ?_))
  rintro d ⟨ks, rfl, nd, hd⟩
  have hl := kd_len nd
  have hkl : (kds ks).length = ks.length := by unfold kds; rw [List.length_map]
  have hbe : fmOf ks ≠ .all → ∀ k ∈ ks, (fmOf ks).bears k = true := fun _ k hk => fm_bears hk
  refine ms_cons (b1 := q + 6) (ms_of (js_of (Nat.le_refl _) (s_set 4 sc_law.nd (d_call B.due (hr.mono (by decide)) (a_cons (dv 3) a_nil) ⟨ks, rfl, rfl⟩) ?_)))
  refine ms_cons (b1 := q + 6) (ms_of (js_of (Nat.le_refl _) (s_set 5 sc_law.nd (d_callK B.smK (hr.mono (by decide)) (k_cons (d_callTy call_tuple_of (T.b _) (a_cons (dv 3) a_nil) rc_tupL) k_nil) rfl (fun G vs r => r) (.inl ⟨true, ks, nd, rfl, by rw [if_pos hd]⟩)) ?_)))
  have hrev : [D.lst (kds ks).reverse] = [kD false (kds ks.reverse)] := by
    show [D.lst (kds ks).reverse] = [.lst (kds ks.reverse)]
    unfold kds
    rw [List.map_reverse]
  have hany : ∀ {F : Fm}, (!F.any) = true → F ≠ .all := fun {F} h e => by
    rw [e] at h
    cases h
  have hok61 : okTake [.int 61] := ⟨61, rfl, by decide, by decide⟩
  generalize hF : fmOf ks = F at hbe
  refine ms_cons (b1 := q + 6) (ms_of (js_of (Nat.le_refl _) (s_if (k := false) (t_of (PW.of0 (w_or (k := false) (PTD.of (t_cmp (op_neD u) (d_prop B.lc B.forms (hr.mono (by decide)) (dv 5) ⟨F, rfl, rfl⟩) (dv 4) (rd_neD (fm_pd F) (fm_pd F) (fm_sh F) (fm_sh F))) (by rw [fm_eqv]; rfl)) fun _ => w_or (k := false) (t_not (t_eqL B.eq (hr.mono (by decide)) (dv 5) (d_call B.tongue (hr.mono (by decide)) (a_cons (dv 4) a_nil) ⟨F, rfl, rfl⟩))) fun _ => w_or1 (t_not (t_eqL B.eq (hr.mono (by decide)) (d_callE B.smE (hr.mono (by decide)) (a_cons (d_revL (dv 3)) a_nil) (.inl ⟨false, ks.reverse, (List.reverse_perm ks).nodup_iff.mpr nd, hrev, by rw [if_pos (List.mem_reverse.mpr hd), fm_rev, hF]⟩)) (dv 5)))) (by rfl))) (fun k => by cases k) fun _ => s_nil ?_)))
  refine ms_cons (b1 := q + 6) (ms_of (js_of (Nat.le_refl _) (s_if (k := false) (t_of (PW.of0 (w_or (k := false) (t_of (PW.of0 (w_and (k := !F.any) (l := false) (PTD.of (t_cmp (op_neD u) (dv 4) (d_tup (a_cons d_str a_nil) (by show 1 ≤ 1000; decide)) (rd_neD (fm_pd F) rfl (fm_sh F) (by decide +kernel))) (by rw [all_eqv])) fun hk => w_and1 (t_not (t_val (k := true) (d_call B.closed (hr.mono (by decide)) (a_cons (dv 4) (a_cons (dv 3) a_nil)) ⟨F, ks, rfl, hany hk, hbe (hany hk), by omega, rfl⟩)))) (by simp))) fun _ => w_or1 (t_cmp op_notN (d_call B.openAt (hr.mono (by decide)) (a_cons (dv 5) (a_cons (dv 3) a_nil)) ⟨F, false, ks, rfl, nd, by omega, hbe, rfl⟩) d_non (rd_notN (b := false) fun G v a => by rw [a.non']; rfl))) (by rfl))) (fun k => by cases k) fun _ => s_nil ?_)))
  have arg : ∀ d, d ∈ ([.int 0, .int 1, .int 2, .int 3] : List D) → ∃ n : Nat, n ≤ 60 ∧ d = .int n := fun d h => by
    simp only [List.mem_cons, List.not_mem_nil, or_false] at h
    rcases h with e | e | e | e
    · exact ⟨0, by decide, e⟩
    · exact ⟨1, by decide, e⟩
    · exact ⟨2, by decide, e⟩
    · exact ⟨3, by decide, e⟩
  refine ms_cons (b1 := q + 7) (ms_of (js_for 6 0 (b1 := q + 6 + 1) PassesOwn.never rfl (ji_tup (ja_cons (je_of d_int) (ja_cons (je_of d_int) (ja_cons (je_of d_int) (ja_cons (je_of d_int) (ja_cons (je_call B.take (hr.mono (by decide)) (a_cons (dv 1) (a_cons d_int a_nil)) hok61 (by omega)) (ja_cons (je_of d_int) ja_nil)))))) ?_) ?_ (g_name 6 sc_law.nd) (fun γ => ∃ o2 o6, γ = [Option.none, some (.raw (.ref z.a)), o2, some (lsD ks), some (fmD F), some (.lang F.lg), o6]) ⟨_, _, rfl⟩ ?_ ?_))
  · rintro ds ⟨d1, r1, rfl, -, d2, r2, rfl, -, d3, r3, rfl, -, d4, r4, rfl, -, d5, r5, rfl, -, d6, r6, rfl, -, rfl⟩
    show 6 ≤ 1000
    decide
  · rintro ds ⟨d1, r1, rfl, -, d2, r2, rfl, -, d3, r3, rfl, -, d4, r4, rfl, -, d5, r5, rfl, -, d6, r6, rfl, -, rfl⟩
    exact Nat.le_refl _
  · rintro xs j d γ' q' hq1 hq2 hx hj ⟨o2, o6, rfl⟩
    obtain ⟨n, hn, rfl⟩ : ∃ n : Nat, n ≤ 60 ∧ d = .int n := by
      obtain ⟨d1, r1, rfl, e1, d2, r2, rfl, e2, d3, r3, rfl, e3, d4, r4, rfl, e4, d5, r5, rfl, ⟨wide, m, e5, e6, m0, m1⟩, d6, r6, rfl, e7, rfl⟩ := hx
      subst e1 e2 e3 e4 e7 e6
      cases e5
      have hm := List.mem_of_getElem? hj
      simp only [List.mem_cons, List.not_mem_nil, or_false] at hm
      rcases hm with e | e | e | e | e | e
      · exact ⟨0, by decide, e⟩
      · exact ⟨1, by decide, e⟩
      · exact ⟨2, by decide, e⟩
      · exact ⟨3, by decide, e⟩
      · exact ⟨m.toNat, by omega, by rw [e, Int.toNat_of_nonneg m0]⟩
      · exact ⟨60, by decide, e⟩
    have fact := many_fact F hn
    refine ⟨_, rfl, jss_of (by omega) (s_cons (s_if (k := false) (t_of (PW.of0 (w_or (k := false) (PTD.of (t_cmp op_ne (d_callE B.need (hr.mono (by decide)) (a_cons (dv 3) (a_cons (dv 6) a_nil)) ⟨false, ks, _, "int", nd, rfl, rfl, .inr (.inr ⟨hd, n, hn, rfl, rfl⟩)⟩) (d_call B.many (hr.mono (by decide)) (a_cons (dv 4) (a_cons (dv 6) a_nil)) ⟨F, n, rfl, hn, rfl⟩) rd_neI) ?_) fun _ => w_or1 (k := false) (PTD.of (t_cmp op_ne (d_meth B.lc B.count (hr.mono (by decide)) (dv 5) (a_cons (dv 6) a_nil) ⟨F, n, rfl, hn, rfl⟩) (d_call B.many (hr.mono (by decide)) (a_cons (dv 4) (a_cons (dv 6) a_nil)) ⟨F, n, rfl, hn, rfl⟩) rd_neI) ?_)) (by rfl))) (fun k => by cases k) fun _ => s_nil ?_))⟩
    · rw [hF, fact]
      simp
    · rw [fact]
      simp
    · exact s_one (s_if (k := false) (PTD.of (t_cmp op_ne (d_callE B.need (hr.mono (by decide)) (a_cons (d_callTy call_tuple_of (T.b _) (a_cons (dv 3) a_nil) rc_tupL) (a_cons (dv 6) a_nil)) ⟨true, ks, _, "int", nd, rfl, rfl, .inr (.inr ⟨hd, n, hn, rfl, rfl⟩)⟩) (d_callE B.need (hr.mono (by decide)) (a_cons (dv 3) (a_cons (dv 6) a_nil)) ⟨false, ks, _, "int", nd, rfl, rfl, .inr (.inr ⟨hd, n, hn, rfl, rfl⟩)⟩) rd_neI) (by simp)) (fun k => by cases k) fun _ => s_nil ⟨_, _, rfl⟩)
  · rintro γ' ⟨o2, o6, rfl⟩
    exact ms_one (ms_refused B.refused hz hr (a_cons (dv 1) (a_cons (dv 3) a_nil)) nd hd (by omega) rfl rfl rfl)
end
end Kp

/-! # law -/
namespace Kp
open PySem PySem.Spec PyProof.Rows L2
section
variable {P : Program} {w : World} {K : PySem.W.Frag} {mg : Str → Option Value} {base : Heap} {C Ck Cz : Addr} {TT : List (Addr × Str)}
def spL (K : PySem.W.Frag) (TT : List (Addr × Str)) : Sp := fun vs H Q _ => ∃ (a : Addr) (ns : List Int), vs = [.ref a] ∧ SqL K H a (ns.map .int) ∧ LamX.Tabs TT H ∧ ∀ H', Q (.bl true) H'
theorem rc_min2 {i j : Int} : RCD K C (fun xs H Q => ∃ i j, xs = [.int i, .int j] ∧ Q (.int (if j < i then j else i)) H) [.int i, .int j] (.int (if j < i then j else i)) := fun G H vs s a Q k => by
  obtain ⟨v, r, rfl, h1, h2⟩ := a.inv
  obtain ⟨v2, r2, rfl, h3, h4⟩ := h2.inv
  rw [h4.inv0, h1.int', h3.int']
  exact ⟨i, j, rfl, k _ G H (Nx.refl s) (At.int _)⟩
theorem fn_law (B : Defs P w K mg base C Ck Cz TT) {f : Addr} {fd : FuncData} (F : Fun K "law" "law" s_law f fd) : FnOk P w K mg base CX0 11 f fd ["_law_script"] (spL K TT) := by
  refine F.ok sc_law (fun vs H Q E ⟨a, ns, e, _⟩ => by rw [e]; rfl) fun cdv A outer s H vs Q E hr ⟨a, ns, e, hs, hT, q⟩ => ?_
  subst e
  have T := B.tp
  have pad : ∀ {tg : Expr} {e : Expr} {p1 p2 p3 : Pos} {body els : List Stmt}, (defBody s_law).getD 1 (.Pass ⟨0, 0, 0, 0⟩) = .For tg (.Call (.Name "range" p1) [e] [] p2) body els p3 → ∀ q : List Int × List Int × List Int, PAD C (cxOf CX0 P w K mg base n_law "law" (defScope s_law) f cdv A outer s H E).nox [e] [some (.sq q.1), some (drD q.2.1 q.2.2 0 0), Option.none, Option.none, Option.none, Option.none, Option.none] [.int (2 + (if (4 : Int) < (q.1.length : Int) then (4 : Int) else (q.1.length : Int)))] := fun he q => by
    cases he
    exact a_cons (d_op op_add d_int (d_callB (call_min2 rfl) (T.b _) (a_cons (d_callB call_len (T.b _) (a_cons (dv 0) a_nil) rc_lenQ) (a_cons d_int a_nil)) rc_min2) rd_add) a_nil
  have turn : PSs (cxOf CX0 P w K mg base n_law "law" (defScope s_law) f cdv A outer s H E).nox sTurn (fun Dn σ H => ∃ (z : Dz) (q : Nat) (i : Option D) (_ : z.T = TT) (_ : q + 9 ≤ cap), mS K C z q (q + 9) (γ0 z i) { nx := fun γ => γ = γ0 z Option.none, rt := fun _ => False } Dn σ H) := ⟨fun pins s' σ H' Dn I ⟨z, q, i, hz, hq, h⟩ => (law_turn B hr z hz q i hq).run pins s' σ H' Dn I h⟩
  refine ⟨_, pss_cons (s_set 1 sc_law.nd (d_call (C := C) (γ := [some (.sq ns), Option.none, Option.none, Option.none, Option.none, Option.none, Option.none]) B.begin (hr.mono (by decide)) (a_cons (dv 0) a_nil) ⟨ns, _, _, rfl, rfl, rfl, rfl⟩) (E := { nx := fun γ => γ = [some (.sq ns), some (drD (((ns.take 63).map (fun i => if i < 0 then -i else i)).filter (fun i => decide (10 ^ 18 ≤ i))) ((ns.take 63).map (fun i => if i < 0 then -i else i)) 0 0), Option.none, Option.none, Option.none, Option.none, Option.none], rt := fun _ => False }) rfl)
    (pss_cons (ps_for PassesOwn.never rfl (pi_range1 rfl (T.b _) (pad rfl (ns, ((ns.take 63).map (fun i => if i < 0 then -i else i)).filter (fun i => decide (10 ^ 18 ≤ i)), (ns.take 63).map (fun i => if i < 0 then -i else i))) rfl) (pg_name (i := 2) sc_law.nd rfl (.inl rfl)) turn) (pss_one (ps_ret pe_bl))), ?_⟩
  have sl0 : Sl K C H (L2.start n_law [V.ref a]) [some (.sq ns), Option.none, Option.none, Option.none, Option.none, Option.none, Option.none] := ⟨rfl, fun i d hi => by
    match i, hi with
    | 0, hi =>
      cases hi
      exact ⟨.ref a, rfl, by simp only [At]; exact ⟨a, rfl, hs⟩⟩
    | 1, hi => cases hi
    | 2, hi => cases hi
    | 3, hi => cases hi
    | 4, hi => cases hi
    | 5, hi => cases hi
    | 6, hi => cases hi
    | i + 7, hi => cases hi⟩
  refine ⟨H, Same.refl _, sl0, fun σ1 γ1 G1 H1 n1 sl1 eγ => ?_, fun _ _ _ _ _ _ z => z.elim, fun _ _ _ _ _ _ z => z.elim, fun _ _ _ _ _ _ z => z.elim⟩
  subst eγ
  refine ⟨G1, n1.s, sl1, fun vs G2 H2 n2 a2 => ?_⟩
  obtain ⟨v, r, rfl, b1, b2⟩ := a2.inv
  rw [b2.inv0, b1.int']
  obtain ⟨v1, e1, ad⟩ := sl1.at_ 1 _ rfl
  obtain ⟨dr, kvs, rfl, gd, rk⟩ := ad.dic'
  simp only [AtK] at rk
  obtain ⟨u1, r1, rfl, k1, u2, r2, rfl, k2, u3, r3, rfl, k3, u4, r4, rfl, k4, rfl⟩ := rk
  obtain ⟨al, us1, rfl, ga, ra⟩ := k1.lst'
  obtain ⟨ai, us2, rfl, gb, rb⟩ := k2.lst'
  have eu1 := ra.ints
  have eu2 := rb.ints
  subst eu1 eu2
  rw [k3.int', k4.int'] at gd
  have hH : ∀ {b : Addr} {o : HO}, G1 b = some o → H2 b = some o := fun h => n2.s _ _ (n2.g _ _ h)
  have j0 : J ⟨dr, TT⟩ (9 * 0) (fun _ => Option.none) H2 := ⟨al, ai, 0, 0, _, _, hH gd, hH ga, hH gb, rfl, rfl, rfl, Int.le_refl _, by omega, hT.ext fun b o h => n2.h _ _ (n1.h _ _ h)⟩
  generalize hn : (2 + (if (4 : Int) < (ns.length : Int) then (4 : Int) else (ns.length : Int))) = n
  have hn2 : n.toNat ≤ 6 := by split at hn <;> omega
  have hn3 : 0 ≤ n ∧ n ≤ 6 := by split at hn <;> omega
  refine ⟨n, rfl, by omega, by omega, fun i m σ H => m = n.toNat - i ∧ i ≤ n.toNat ∧ σ.length = 7 ∧ σ[1]? = some (some (.ref dr)) ∧ J ⟨dr, TT⟩ (9 * i) (fun _ => Option.none) H, ⟨_, rfl, Nat.zero_le _, sl1.len, e1, j0⟩, ?_⟩
  rintro i m σ' H' ⟨rfl, hi, hlen, own, jj⟩
  have wk := wk_range (K := K) (C := C) (G := fun _ => Option.none) (lo := 0) (n := n.toNat)
  have nos : ∀ H' : Hp, Same (fun _ => Option.none) H' := fun H' _ _ e => by cases e
  by_cases hlt : i < n.toNat
  · refine .inr ⟨wk.goes i H' (by rw [rgD_len]; exact hlt) (nos _), fun σ2 H2 => σ2.length = 7 ∧ σ2[1]? = some (some (.ref dr)) ∧ J ⟨dr, TT⟩ (9 * (i + 1)) (fun _ => Option.none) H2, fun σ2 H2 ⟨q1, q2, q3⟩ => ⟨n.toNat - (i + 1), by omega, rfl, by omega, q1, q2, q3⟩, fun x H3 y => ?_⟩
    obtain ⟨d, G3, hd, n3, a3⟩ := wk.yields i H' x H3 (fun _ => Option.none) (by rw [rgD_len]; exact hlt) (nos _) (nos _) y
    have j3 := (jj.nx n3).forget
    have slz : ∀ {σ : L2.St} {H : Hp}, σ.length = 7 → σ[1]? = some (some (V.ref dr)) → Sl K C (fun _ => Option.none) σ (γ0 ⟨dr, TT⟩ Option.none) := fun {σ H} hl h1 => ⟨by rw [hl]; rfl, fun i d hi => by
      match i, hi with
      | 0, hi => cases hi
      | 1, hi => cases hi; exact ⟨_, h1, At.raw _⟩
      | 2, hi => cases hi
      | 3, hi => cases hi
      | 4, hi => cases hi
      | 5, hi => cases hi
      | 6, hi => cases hi
      | i + 7, hi => cases hi⟩
    refine ⟨⟨dr, TT⟩, 9 * i, Option.none, rfl, by show 9 * i + 9 ≤ 1000000; omega, fun _ => Option.none, nos _, slz (H := H3) (by rw [List.length_set]; exact hlen) (by rw [List.getElem?_set_ne (by decide)]; exact own), j3, fun σ4 γ4 G4 H4 s4 j4 sl4 e4 => ?_, fun _ _ _ _ _ _ _ z => z.elim, fun _ _ _ _ _ _ _ z => z.elim, fun _ _ _ _ _ _ _ z => z.elim⟩
    subst e4
    obtain ⟨v4, e5, a5⟩ := sl4.at_ 1 _ rfl
    rw [a5.raw'] at e5
    exact ⟨sl4.len, e5, j4.forget⟩
  · have ei : i = n.toNat := by omega
    subst ei
    refine .inl ⟨by have zz := wk.stops H' (nos _); rw [rgD_len] at zz; exact zz, q H'⟩
end
end Kp

/-! # the bundle of defs from what the top has written -/
namespace Kp
open PySem PySem.Spec PyProof.Rows L2
/-- what the top has written -/
structure Facts (K : PySem.W.Frag) (mg : Str → Option Value) (C Ck Cz CE c : Addr) (mc mc2 : Value) : Prop where
  tp : Tp K mg
  lc : LC K C
  ca : CaF K mg Ck Cz CE
  gL : mg "Language" = some (.ref C)
  is_integer : Has K mg "is_integer" s_is_integer ["value"]
  is_place : Has K mg "is_place" s_is_place ["value", "size"]
  is_word : Has K mg "is_word" s_is_word ["value"]
  runs_of : Has K mg "runs_of" s_runs_of ["word"]
  is_form : Has K mg "is_form" s_is_form ["value"]
  chosen : Has K mg "chosen" s_chosen ["many", "few"]
  need_size : Has K mg "need_size" s_need_size ["size"]
  applied : Has K mg "applied" s_applied ["items", "change", "item"]
  led : Has K mg "led" s_led ["word", "step"]
  leads_out : Has K mg "leads_out" s_leads_out ["language", "word", "step"]
  places_of : Has K mg "places_of" s_places_of ["kind", "size"]
  steps_of : Has K mg "steps_of" s_steps_of ["kind", "size"]
  need_kinds : Has K mg "need_kinds" s_need_kinds ["kinds"]
  need_deletes : Has K mg "need_deletes" s_need_deletes ["kinds"]
  sorts_at : Has K mg "sorts_at" s_sorts_at ["kinds", "end"]
  smallest_of : Has K mg "smallest_of" s_smallest_of ["kinds"]
  first_open : Has K mg "first_open" s_first_open ["language", "kinds"]
  open_at : Has K mg "open_at" s_open_at ["language", "kinds"]
  smallest : HasK K mg "smallest" s_smallest ["kinds"] ["kinds"] 1 (fun vs => vs)
  needed : HasK K mg "needed" s_needed ["kinds", "size"] ["size", "kinds"] 2 swap2
  lets : MHas K C "lets" "Language.lets" s_Language_lets ["self", "word"]
  contains : MHas K C "__contains__" "Language.__contains__" s_Language_contains ["self", "word"]
  eq : MHas K C "__eq__" "Language.__eq__" s_Language_eq ["self", "other"]
  many : MHas K C "many" "Language.many" s_Language_many ["self", "size"]
  ends : MHas K C "ends" "Language.ends" s_Language_ends ["self", "begun", "left"]
  count : MHas K C "count" "Language.count" s_Language_count ["self", "size"]
  made : MHas K C "made" "Language.made" s_Language_made ["self", "size", "number"]
  words : MHas K C "words" "Language.words" s_Language_words ["self", "size"]
  forms : ∃ (p g : Addr) (fd : FuncData), Fun K "forms" "Language.forms" s_Language_forms g fd ∧ PropOf K C "forms" p g ∧ Binds K fd ["self"] []
  init : ∃ (f : Addr) (fd : FuncData), Fun K "__init__" "Language.__init__" s_Language_init f fd ∧ Mk K C f
  ek : EHas K mg "InvalidKinds" "InvalidKinds.__init__" "index" s_InvalidKinds_init Ck CE mc
  ez : EHas K mg "InvalidSize" "InvalidSize.__init__" "number" s_InvalidSize_init Cz CE mc2
  l_begin : Has K mg "_law_begin" s_L_begin ["_law_script"]
  l_mixed : Has K mg "_law_mixed" s_L_mixed ["_law_draw"]
  l_take : Has K mg "_law_take" s_L_take ["_law_draw", "_law_wide"]
  l_pick : Has K mg "_law_pick" s_L_pick ["_law_draw", "_law_some"]
  l_sorts : Has K mg "_law_sorts" s_L_sorts ["_law_draw", "_law_least"]
  l_all_words : Has K mg "_law_all_words" s_L_all_words ["_law_many_here"]
  l_fits : Has K mg "_law_fits" s_L_fits ["_law_form", "_law_page"]
  l_has : Has K mg "_law_has" s_L_has ["_law_forms_here", "_law_page"]
  l_letters : Has K mg "_law_letters" s_L_letters ["_law_how"]
  l_led : Has K mg "_law_led" s_L_led ["_law_page", "_law_deed"]
  l_deeds_of : Has K mg "_law_deeds_of" s_L_deeds_of ["_law_sort", "_law_many_here"]
  l_deeds : Has K mg "_law_deeds" s_L_deeds ["_law_sorts_here", "_law_page"]
  l_is_left : Has K mg "_law_is_left" s_L_is_left ["_law_forms_here", "_law_page", "_law_deed"]
  l_ends : Has K mg "_law_ends" s_L_ends ["_law_sorts_here"]
  l_due : Has K mg "_law_due" s_L_due ["_law_sorts_here"]
  l_many : Has K mg "_law_many" s_L_many ["_law_forms_here", "_law_many_here"]
  l_tongue : Has K mg "_law_tongue" s_L_tongue ["_law_forms_here"]
  l_caught : Has K mg "_law_caught" s_L_caught ["_law_work"]
  l_is_closed : Has K mg "_law_is_closed" s_L_is_closed ["_law_forms_here", "_law_sorts_here"]
  l_refused : HasC K mg "_law_refused_right" s_L_refused_right ["_law_draw", "_law_sorts_here"] c
section
variable {P : Program} {w : World} {K : PySem.W.Frag} {mg : Str → Option Value} {base : Heap} {C Ck Cz CE c Pt : Addr} {mc mc2 : Value}
theorem defs_of (F : Facts K mg C Ck Cz CE c mc mc2) (TB : LamX.TabB base mg c Pt) : Defs P w K mg base C Ck Cz [(Pt, ("_law_refused_right.<locals>.<lambda>" : Str))] := by
  have T := F.tp
  have lc := F.lc
  have Zk := ek_kinds (P := P) (w := w) (base := base) F.ek
  have Zz := ek_size (P := P) (w := w) (base := base) F.ez
  have d1 := df_is_integer (P := P) (w := w) (base := base) (C := C) T F.is_integer
  have d2 := df_is_place d1 F.is_place
  have d3 := df_is_word (P := P) (w := w) (base := base) (C := C) T F.is_word
  have d4 := df_runs_of (P := P) (w := w) (base := base) (C := C) T F.runs_of
  have d5 := df_is_form T d3 d4 F.is_form
  have d6 := df_chosen (P := P) (w := w) (base := base) (C := C) T F.chosen
  have m1 := dfm_lets lc d4 F.lets
  have m2 := dfm_contains d3 lc m1 F.contains
  have m3 := dfm_eq (P := P) (w := w) (base := base) T lc F.gL F.eq
  have e1 := dfe_need_size T d2 Zz F.need_size
  have m4 := dfm_many T lc d6 F.many
  have m5 := dfm_ends T lc d6 d4 m4 F.ends
  have m6 := dfm_count lc e1 m4 F.count
  have m7 := dfm_made T lc m5 F.made
  have g1 := gw_words T lc e1 m4 m7 F.words
  have M : MkL P w K mg base C 4 := ⟨F.gL, fnr_init T lc d5 F.init⟩
  have d7 := df_applied (P := P) (w := w) (base := base) (C := C) T F.applied
  have d8 := df_led T d7 F.led
  have d9 := df_leads_out T lc d8 m1 F.leads_out
  have d10 := df_places_of (P := P) (w := w) (base := base) (C := C) T F.places_of
  have d11 := df_steps_of T d10 F.steps_of
  have e2 := dfe_need_kinds (C := C) T Zk F.need_kinds
  have e3 := dfe_need_deletes T e2 Zk F.need_deletes
  have d12 := df_sorts_at (P := P) (w := w) (base := base) (C := C) T F.sorts_at
  have d13 := df_smallest_of T d12 M F.smallest_of
  have e4 := dfe_smallest e3 d13 F.smallest
  have e5 := dfe_needed lc e3 d13 e1 m4 F.needed
  have d14 := df_first_open T lc m2 d11 g1 d9 F.first_open
  have d15 := df_open_at e2 d14 F.open_at
  have j1 := df_L_mixed (P := P) (w := w) (base := base) (C := C) T F.l_mixed
  have j2 := df_L_take T j1 F.l_take
  have j3 := df_L_pick T j2 F.l_pick
  have j4 := df_L_sorts T j2 j3 F.l_sorts
  have l1 := df_L_all_words (P := P) (w := w) (base := base) (C := C) T F.l_all_words
  have l2 := df_L_fits (P := P) (w := w) (base := base) (C := C) T F.l_fits
  have l3 := df_L_has T l2 F.l_has
  have l4 := df_L_letters (P := P) (w := w) (base := base) (C := C) F.l_letters
  have l5 := df_L_led T l4 F.l_led
  have l6 := df_L_deeds_of (P := P) (w := w) (base := base) (C := C) T F.l_deeds_of
  have l7 := df_L_deeds T l6 F.l_deeds
  have l8 := df_L_is_left T l5 l3 F.l_is_left
  have l9 := df_L_ends (P := P) (w := w) (base := base) (C := C) T F.l_ends
  have l10 := df_L_due T l9 F.l_due
  have l11 := df_L_many (P := P) (w := w) (base := base) (C := C) T F.l_many
  have l12 := df_L_tongue T M F.l_tongue
  have l13 := df_L_is_closed T l1 l3 l7 l8 F.l_is_closed
  have l14 := df_L_begin (P := P) (w := w) (base := base) (C := C) T F.l_begin
  have l15 := df_L_refused T F.ca F.l_caught j3 e4.1 e5.1 e5.2 F.l_refused TB rfl
  exact ⟨T, lc, l14, j4, j2, l10, e4.1, e4.2, dfm_forms T lc F.forms, eqf_of m3, l12, l13, d15, e5.1, l11, m6, l15⟩
end
end Kp

/-! # facts of the head, one lemma a kind -/
namespace Kp
open PySem PySem.Spec PyProof.Rows L2
section
variable {K : PySem.W.Frag} {h : Heap} {mg : Str → Option Value} {C : Addr}
/-- a def of the top -/
theorem has_mk {x : Str} {st : Stmt} {ps : List Str} {f : Addr} {oc : Value} {od an : Option Addr} {osl : Array (Option Value)} {kV doc pm cdv ct : Value} (X : K.In h) (G : h.Ns mainGlobals mg)
    (hb : ∀ (kV doc pm : Value) (an : Option Addr) (cdv ct : Value) (us : List Value), us.length = ps.length → bindArgs (PySem.W.fnOf x x (defArgs st) (defBody st) (defScope st) .none kV doc pm an cdv ct) ⟨us, []⟩ = pure (ps.zip us))
    (a : PySem.W.nsIn K mainGlobals x = some (some (.ref f))) (l : K.lookup f = some ⟨oc, od, .func (PySem.W.fnOf x x (defArgs st) (defBody st) (defScope st) .none kV doc pm an cdv ct), osl⟩) (c : PySem.W.codeIn K cdv x = true) (k : PySem.W.keepIn K (.ref f) = true) : Has K mg x st ps :=
  ⟨f, _, fun_mk l c k, PySem.W.mg_of X G a, (fun_mk l c k).binds hb⟩
theorem mhas_mk {m q : Str} {st : Stmt} {ps : List Str} {f : Addr} {oc : Value} {od an : Option Addr} {osl : Array (Option Value)} {kV doc pm cdv ct : Value}
    (hb : ∀ (kV doc pm : Value) (an : Option Addr) (cdv ct : Value) (us : List Value), us.length = ps.length → bindArgs (PySem.W.fnOf m q (defArgs st) (defBody st) (defScope st) .none kV doc pm an cdv ct) ⟨us, []⟩ = pure (ps.zip us))
    (a : PySem.W.findIn K (.ref C) m = some (some (.ref f))) (i : PySem.W.isFn K (.ref f) = true) (l : K.lookup f = some ⟨oc, od, .func (PySem.W.fnOf m q (defArgs st) (defBody st) (defScope st) .none kV doc pm an cdv ct), osl⟩) (c : PySem.W.codeIn K cdv q = true) (k : PySem.W.keepIn K (.ref f) = true) : MHas K C m q st ps :=
  ⟨f, _, fun_mk l c k, ⟨a, i, k⟩, (fun_mk l c k).binds hb⟩
theorem hasc_mk {x : Str} {st : Stmt} {ps : List Str} {f c0 : Addr} {oc : Value} {od an : Option Addr} {osl : Array (Option Value)} {kV doc pm ct : Value} (X : K.In h) (G : h.Ns mainGlobals mg)
    (hb : ∀ (kV doc pm : Value) (an : Option Addr) (cdv ct : Value) (us : List Value), us.length = ps.length → bindArgs (PySem.W.fnOf x x (defArgs st) (defBody st) (defScope st) .none kV doc pm an cdv ct) ⟨us, []⟩ = pure (ps.zip us))
    (a : PySem.W.nsIn K mainGlobals x = some (some (.ref f))) (l : K.lookup f = some ⟨oc, od, .func (PySem.W.fnOf x x (defArgs st) (defBody st) (defScope st) .none kV doc pm an (.ref c0) ct), osl⟩) (c : PySem.W.codeIn K (.ref c0) x = true) (k : PySem.W.keepIn K (.ref f) = true) : HasC K mg x st ps c0 :=
  ⟨f, oc, od, kV, doc, pm, an, ct, osl, l, c, k, PySem.W.mg_of X G a, (fun_mk l c k).binds hb⟩
/-! ### keyword calls -/
def g1 {α : Type} : List α → List α → List α
  | [], [a] => [a]
  | _, _ => []
def g2 {α : Type} : List α → List α → List α
  | [], [a, b] => [b, a]
  | _, _ => []
theorem g1_rel {vs : List V} {us : List Value} {zs : List V} {ws : List Value} (r : Vals vs us) (r2 : Vals zs ws) : Vals (g1 vs zs) (g1 us ws) := by
  cases r with
  | nil =>
    cases r2 with
    | nil => exact .nil
    | cons a b =>
      cases b with
      | nil => exact .cons a .nil
      | cons c d => exact .nil
  | cons a b =>
    unfold g1
    exact .nil
theorem g2_rel {vs : List V} {us : List Value} {zs : List V} {ws : List Value} (r : Vals vs us) (r2 : Vals zs ws) : Vals (g2 vs zs) (g2 us ws) := by
  cases r with
  | nil =>
    cases r2 with
    | nil => exact .nil
    | cons a b =>
      cases b with
      | nil => exact .nil
      | cons c d =>
        cases d with
        | nil => exact .cons c (.cons a .nil)
        | cons e f => exact .nil
  | cons a b =>
    unfold g2
    exact .nil
theorem hask1 {x y : Str} {st : Stmt} (F : Has K mg x st [y]) (hb : ∀ (f : Addr) (fd : FuncData), Fun K x x st f fd → ∀ (s : Shared) (v : Value), BindsTo s fd ⟨[], [(y, v)]⟩ [(y, v)]) : HasK K mg x st [y] [y] 1 (fun vs => vs) := by
  obtain ⟨f, fd, Fu, hm, hbn⟩ := F.ex
  refine ⟨f, fd, g1, g1, Fu, hm, hbn, ⟨fun s us ws _ hl => ?_, g1_rel⟩, fun vs hv => ?_⟩
  · match us, ws, hl with
    | [], [a], _ => exact hb f fd Fu s a
    | [], [], hl => cases hl
    | [], _ :: _ :: _, hl => cases hl
    | _ :: _, _, hl =>
      unfold g1 at hl
      cases hl
  · match vs, hv with
    | [a], _ => rfl
theorem hask2 {x y z : Str} {st : Stmt} (F : Has K mg x st [y, z]) (hb : ∀ (f : Addr) (fd : FuncData), Fun K x x st f fd → ∀ (s : Shared) (v u : Value), BindsTo s fd ⟨[], [(z, v), (y, u)]⟩ [(y, u), (z, v)]) : HasK K mg x st [y, z] [z, y] 2 swap2 := by
  obtain ⟨f, fd, Fu, hm, hbn⟩ := F.ex
  refine ⟨f, fd, g2, g2, Fu, hm, hbn, ⟨fun s us ws _ hl => ?_, g2_rel⟩, fun vs hv => ?_⟩
  · match us, ws, hl with
    | [], [a, b], _ => exact hb f fd Fu s a b
    | [], [], hl => cases hl
    | [], [_], hl => cases hl
    | [], _ :: _ :: _ :: _, hl => cases hl
    | _ :: _, _, hl =>
      unfold g2 at hl
      cases hl
  · match vs, hv with
    | [a, b], _ => rfl
theorem kb_smallest (f : Addr) (fd : FuncData) (F : Fun K "smallest" "smallest" s_smallest f fd) (s : Shared) (v : Value) : BindsTo s fd ⟨[], [("kinds", v)]⟩ [("kinds", v)] := by
  obtain ⟨oc, od, kV, doc, pm, an, cdv, ct, osl, rfl, lk, hcd⟩ := F.ex
  exact .of_eq rfl
theorem kb_needed (f : Addr) (fd : FuncData) (F : Fun K "needed" "needed" s_needed f fd) (s : Shared) (v u : Value) : BindsTo s fd ⟨[], [("size", v), ("kinds", u)]⟩ [("kinds", u), ("size", v)] := by
  obtain ⟨oc, od, kV, doc, pm, an, cdv, ct, osl, rfl, lk, hcd⟩ := F.ex
  exact .of_eq rfl
/-! ### the class, the errors, the names -/
theorem forms_mk {p f : Addr} {oc : Value} {od an : Option Addr} {osl : Array (Option Value)} {kV doc pm cdv ct : Value} {rest : List Value}
    (a : PySem.W.findIn K (.ref C) "forms" = some (some (.ref p))) (g : PySem.W.specialIn K (.ref p) "__get__" = some (some (.builtin "property.__get__"))) (t : PySem.W.takesIn K (.ref p) = some true) (r : PySem.W.recIn K p "property" = some (.ref f :: rest))
    (l : K.lookup f = some ⟨oc, od, .func (PySem.W.fnOf "forms" "Language.forms" (defArgs s_Language_forms) (defBody s_Language_forms) (defScope s_Language_forms) .none kV doc pm an cdv ct), osl⟩) (c : PySem.W.codeIn K cdv "Language.forms" = true) (k : PySem.W.keepIn K (.ref f) = true) :
    ∃ (p g : Addr) (fd : FuncData), Fun K "forms" "Language.forms" s_Language_forms g fd ∧ PropOf K C "forms" p g ∧ Binds K fd ["self"] [] :=
  ⟨p, f, _, fun_mk l c k, ⟨a, g, t, rest, r⟩, (fun_mk l c k).binds fun _ _ _ _ _ _ us hl => match us, hl with | [_], _ => rfl⟩
theorem init_mk {f : Addr} {oc : Value} {od an : Option Addr} {osl : Array (Option Value)} {kV doc pm cdv ct : Value}
    (m : PySem.W.makesIn K C = true) (a : PySem.W.findIn K (.ref C) "__init__" = some (some (.ref f))) (i : PySem.W.isFn K (.ref f) = true) (kc : PySem.W.keepIn K (.ref C) = true)
    (l : K.lookup f = some ⟨oc, od, .func (PySem.W.fnOf "__init__" "Language.__init__" (defArgs s_Language_init) (defBody s_Language_init) (defScope s_Language_init) .none kV doc pm an cdv ct), osl⟩) (c : PySem.W.codeIn K cdv "Language.__init__" = true) (k : PySem.W.keepIn K (.ref f) = true) :
    ∃ (f : Addr) (fd : FuncData), Fun K "__init__" "Language.__init__" s_Language_init f fd ∧ Mk K C f := ⟨f, _, fun_mk l c k, ⟨m, a, i, kc⟩⟩
theorem ehas_mk {x q fn : Str} {st : Stmt} {Ce CK : Addr} {mc : Value} {f : Addr} {oc : Value} {od an : Option Addr} {osl : Array (Option Value)} {kV doc pm cdv ct : Value} (X : K.In h) (G : h.Ns mainGlobals mg)
    (hb : ∀ (kV doc pm : Value) (an : Option Addr) (cdv ct : Value) (us : List Value), us.length = (["self", fn] : List Str).length → bindArgs (PySem.W.fnOf "__init__" q (defArgs st) (defBody st) (defScope st) .none kV doc pm an cdv ct) ⟨us, []⟩ = pure ((["self", fn] : List Str).zip us))
    (ox : OexC K Ce) (no : PySem.W.findIn K (.ref Ce) fn = some none) (gm : PySem.W.nsIn K mainGlobals x = some (some (.ref Ce))) (ke : PySem.W.nsIn K mainGlobals "KeepError" = some (some (.ref CK))) (rd : PySem.W.readsIn K CK mc = true) (ga : PySem.W.specialIn K (.ref CK) "__getattribute__" = some (some (.builtin "type.__getattribute__")))
    (at_ : PySem.W.findCls K (.ref CK) mc "__init__" = some (.val (.builtin "ValueError.__init__"))) (fi : PySem.W.findIn K (.ref Ce) "__init__" = some (some (.ref f))) (ty : PySem.W.typeIn K (.ref f) = some (.type "function"))
    (l : K.lookup f = some ⟨oc, od, .func (PySem.W.fnOf "__init__" q (defArgs st) (defBody st) (defScope st) .none kV doc pm an cdv ct), osl⟩) (c : PySem.W.codeIn K cdv q = true) (k : PySem.W.keepIn K (.ref f) = true) : EHas K mg x q fn st Ce CK mc :=
  ⟨ox, no, PySem.W.mg_of X G gm, PySem.W.mg_of X G ke, ⟨rd, ga⟩, at_, f, _, fun_mk l c k, fi, ty, (fun_mk l c k).binds hb⟩
end
end Kp

/-! # the steps of the end -/
namespace Kp
open PySem PySem.Spec PyProof.Rows L2
section
variable {K : PySem.W.Frag} {h : Heap} {mg : Str → Option Value} {C : Addr} {R : Prop}
theorem k_has {x : Str} {st : Stmt} {ps : List Str} {f : Addr} {oc : Value} {od an : Option Addr} {osl : Array (Option Value)} {kV doc pm cdv ct : Value} (X : K.In h) (G : h.Ns mainGlobals mg)
    (hb : ∀ (kV doc pm : Value) (an : Option Addr) (cdv ct : Value) (us : List Value), us.length = ps.length → bindArgs (PySem.W.fnOf x x (defArgs st) (defBody st) (defScope st) .none kV doc pm an cdv ct) ⟨us, []⟩ = pure (ps.zip us))
    (a : PySem.W.nsIn K mainGlobals x = some (some (.ref f))) (l : K.lookup f = some ⟨oc, od, .func (PySem.W.fnOf x x (defArgs st) (defBody st) (defScope st) .none kV doc pm an cdv ct), osl⟩) (c : PySem.W.codeIn K cdv x = true) (k : PySem.W.keepIn K (.ref f) = true)
    (N : Has K mg x st ps → R) : R := N (has_mk X G hb a l c k)
theorem k_mhas {m q : Str} {st : Stmt} {ps : List Str} {f : Addr} {oc : Value} {od an : Option Addr} {osl : Array (Option Value)} {kV doc pm cdv ct : Value} {cn : Str} (_X : K.In h) (_g : mg cn = some (.ref C))
    (hb : ∀ (kV doc pm : Value) (an : Option Addr) (cdv ct : Value) (us : List Value), us.length = ps.length → bindArgs (PySem.W.fnOf m q (defArgs st) (defBody st) (defScope st) .none kV doc pm an cdv ct) ⟨us, []⟩ = pure (ps.zip us))
    (a : PySem.W.findIn K (.ref C) m = some (some (.ref f))) (i : PySem.W.isFn K (.ref f) = true) (l : K.lookup f = some ⟨oc, od, .func (PySem.W.fnOf m q (defArgs st) (defBody st) (defScope st) .none kV doc pm an cdv ct), osl⟩) (c : PySem.W.codeIn K cdv q = true) (k : PySem.W.keepIn K (.ref f) = true)
    (N : MHas K C m q st ps → R) : R := N (mhas_mk hb a i l c k)
theorem k_hasc {x : Str} {st : Stmt} {ps : List Str} {f c0 : Addr} {oc : Value} {od an : Option Addr} {osl : Array (Option Value)} {kV doc pm ct : Value} (X : K.In h) (G : h.Ns mainGlobals mg)
    (hb : ∀ (kV doc pm : Value) (an : Option Addr) (cdv ct : Value) (us : List Value), us.length = ps.length → bindArgs (PySem.W.fnOf x x (defArgs st) (defBody st) (defScope st) .none kV doc pm an cdv ct) ⟨us, []⟩ = pure (ps.zip us))
    (a : PySem.W.nsIn K mainGlobals x = some (some (.ref f))) (l : K.lookup f = some ⟨oc, od, .func (PySem.W.fnOf x x (defArgs st) (defBody st) (defScope st) .none kV doc pm an (.ref c0) ct), osl⟩) (c : PySem.W.codeIn K (.ref c0) x = true) (k : PySem.W.keepIn K (.ref f) = true)
    (N : HasC K mg x st ps c0 → R) : R := N (hasc_mk X G hb a l c k)
/-- a class of the top by its name -/
theorem k_cls {x : Str} {C : Addr} (X : K.In h) (G : h.Ns mainGlobals mg) (a : PySem.W.nsIn K mainGlobals x = some (some (.ref C))) (N : mg x = some (.ref C) → R) : R := N (PySem.W.mg_of X G a)
/-- a constant of the top -/
theorem k_con {x : Str} {u : Value} {v : V} (X : K.In h) (G : h.Ns mainGlobals mg) (a : PySem.W.nsIn K mainGlobals x = some (some u)) (r : RelV v u) (N : (∃ u, mg x = some u ∧ RelV v u) → R) : R := N ⟨u, PySem.W.mg_of X G a, r⟩
theorem k_tup {x : Str} {t : Addr} {xs : List V} {od : Option Addr} {osl : Array (Option Value)} {its : Array Value} {n : Nat} (X : K.In h) (G : h.Ns mainGlobals mg) (a : PySem.W.nsIn K mainGlobals x = some (some (.ref t))) (l : K.lookup t = some ⟨.type "tuple", od, .seq its n, osl⟩) (z : its.size ≤ sizeLine) (r : Vals xs its.toList)
    (N : (∃ t, mg x = some (.ref t) ∧ ∀ G, SqT K G t xs) → R) : R := N ⟨t, PySem.W.mg_of X G a, fun _ => .inr ⟨_, its, n, l, rfl, rfl, z, r⟩⟩
theorem vals_kinds {t1 t2 t3 t4 t5 t6 t7 t8 t9 t10 t11 t12 t13 t14 : Tok} : Vals (Kd.all.map fun k => V.str k.s) (#[.str "delete" t1, .str "reverse" t2, .str "turn" t3, .str "swap" t4, .str "move" t5, .str "front free" t6, .str "front must" t7, .str "front not" t8, .str "back free" t9, .str "back must" t10, .str "back not" t11, .str "any free" t12, .str "any must" t13, .str "any not" t14] : Array Value).toList :=
  .cons ⟨_, rfl⟩ (.cons ⟨_, rfl⟩ (.cons ⟨_, rfl⟩ (.cons ⟨_, rfl⟩ (.cons ⟨_, rfl⟩ (.cons ⟨_, rfl⟩ (.cons ⟨_, rfl⟩ (.cons ⟨_, rfl⟩ (.cons ⟨_, rfl⟩ (.cons ⟨_, rfl⟩ (.cons ⟨_, rfl⟩ (.cons ⟨_, rfl⟩ (.cons ⟨_, rfl⟩ (.cons ⟨_, rfl⟩ .nil)))))))))))))
theorem k_blt (X : K.In h) (G : h.Ns mainGlobals mg)
    (z1 : PySem.W.nsIn K mainGlobals "isinstance" = some none) (z2 : PySem.W.nsIn K mainGlobals "int" = some none) (z3 : PySem.W.nsIn K mainGlobals "bool" = some none) (z4 : PySem.W.nsIn K mainGlobals "str" = some none)
    (z5 : PySem.W.nsIn K mainGlobals "list" = some none) (z6 : PySem.W.nsIn K mainGlobals "tuple" = some none) (z7 : PySem.W.nsIn K mainGlobals "all" = some none) (z8 : PySem.W.nsIn K mainGlobals "any" = some none)
    (z9 : PySem.W.nsIn K mainGlobals "len" = some none) (z10 : PySem.W.nsIn K mainGlobals "range" = some none) (z11 : PySem.W.nsIn K mainGlobals "zip" = some none) (z12 : PySem.W.nsIn K mainGlobals "enumerate" = some none)
    (z13 : PySem.W.nsIn K mainGlobals "sorted" = some none) (z14 : PySem.W.nsIn K mainGlobals "max" = some none) (z15 : PySem.W.nsIn K mainGlobals "sum" = some none) (z16 : PySem.W.nsIn K mainGlobals "min" = some none) (z17 : PySem.W.nsIn K mainGlobals "abs" = some none)
    (N : (∀ x ∈ bltNames, mg x = none) → R) : R := N fun x hx => by
  simp only [bltNames, List.mem_cons, List.not_mem_nil, or_false] at hx
  rcases hx with e | e | e | e | e | e | e | e | e | e | e | e | e | e | e | e | e <;> subst e <;> exact PySem.W.mg_none_of X G (by assumption)
/-- Language, the class -/
theorem k_lc {cn : Str} (_X : K.In h) (_g : mg cn = some (.ref C)) (pg : PySem.W.plainGet K C Str.empty = true) (hd : PySem.W.hasDictIn K C = true) (po : PySem.W.plainOver K C = true) (sa : PySem.W.findIn K (.ref C) "__setattr__" = some (some (.builtin "object.__setattr__")))
    (n1 : PySem.W.findIn K (.ref C) "kept_forms" = some none) (n2 : PySem.W.findIn K (.ref C) "is_all" = some none) (n3 : PySem.W.findIn K (.ref C) "runs" = some none) (n4 : PySem.W.findIn K (.ref C) "firsts" = some none)
    (ha : PySem.W.findIn K (.ref C) "__class__" = some (some (.builtin "object.__class__"))) (hn : PySem.W.specialIn K (.builtin "object.__class__") "__get__" = some (some (.builtin "getset_descriptor.__get__"))) (ht : PySem.W.takesIn K (.builtin "object.__class__") = some true) (hm : PySem.W.mroIn K C (.type "object") = some true)
    (N : LC K C → R) : R := N ⟨⟨pg, hd, po, sa⟩, n1, n2, n3, n4, ha, hn, ht, hm, by
      have e : ((PySem.Value.ref C) == (PySem.Value.ref C)) = true := by simp
      show (if ((PySem.Value.ref C) == (PySem.Value.ref C)) = true then some true else _) = some true
      rw [if_pos e]⟩
theorem kit_self (C : Addr) : PySem.W.kitOne K (.ref C) (.ref C) = some true := by
  have e : ((PySem.Value.ref C) == (PySem.Value.ref C)) = true := by simp
  show (if ((PySem.Value.ref C) == (PySem.Value.ref C)) = true then some true else _) = some true
  rw [if_pos e]
theorem kit_cls_of {D : Addr} {t : Value} {b : Bool} (ic : PySem.W.isClsIn K D = true) (ty : PySem.W.typeIn K (.ref D) = some (.type "type")) (sb : PySem.W.subIn K t (.ref D) = some b) : PySem.W.kitCls K t (.ref D) = some b := by
  have h2' : (PySem.W.clsIn K D).isSome = true := ic
  have e2 : ((PySem.W.clsIn K D).isSome && PySem.W.typeIn K (.ref D) == some (.type "type")) = true := by rw [h2', ty] <;> rfl
  show (if ((PySem.W.clsIn K D).isSome && PySem.W.typeIn K (.ref D) == some (.type "type")) = true then PySem.W.subIn K t (.ref D) else none) = some b
  rw [if_pos e2]
  exact sb
theorem kit_of {D : Addr} {E : Addr} {b : Bool} (ne : E ≠ D) (ic : PySem.W.isClsIn K D = true) (ty : PySem.W.typeIn K (.ref D) = some (.type "type")) (sb : PySem.W.subIn K (.ref E) (.ref D) = some b) : PySem.W.kitOne K (.ref E) (.ref D) = some b := by
  have e : ¬ ((PySem.Value.ref E) == (PySem.Value.ref D)) = true := by simpa using ne
  show (if ((PySem.Value.ref E) == (PySem.Value.ref D)) = true then some true else PySem.W.kitCls K (.ref E) (.ref D)) = some b
  rw [if_neg e]
  exact kit_cls_of ic ty sb
theorem exm_of {D : Addr} {t : Value} {b : Bool} (ex : PySem.W.subIn K (.ref D) (.type "BaseException") = some true) (ic : PySem.W.isClsIn K D = true) (ty : PySem.W.typeIn K (.ref D) = some (.type "type")) (sb : PySem.W.subIn K t (.ref D) = some b) : PySem.W.exmOne K t (.ref D) = some b := by
  have e1 : (PySem.W.subIn K (.ref D) (.type "BaseException") == some true) = true := by rw [ex] <;> rfl
  show (if (PySem.W.subIn K (.ref D) (.type "BaseException") == some true) = true then PySem.W.kitCls K t (.ref D) else none) = some b
  rw [if_pos e1]
  exact kit_cls_of ic ty sb
/-- an own exception class of the top: all that is asked of it -/
structure EFull (K : PySem.W.Frag) (D : Addr) (fn : Str) : Prop where
  ox : OexC K D
  ex : ExcC K D
  xf : XfC K D
  no : PySem.W.findIn K (.ref D) fn = some none
theorem k_efull {D : Addr} {fn nm q : Str} {N0 : Addr} {bs bm : List Value} {sn : List Str} {sub : List Value} {ab : Bool} {col : Option Bool} {dd : Option Addr} {m0 m1 m2 m3 m5 : Option Value} {cn : Str} (_X : K.In h) (_g : mg cn = some (.ref D))
    (xL : K.lookup D = some (excClassObj nm q D N0 bs bm true sn sub ab col dd m0 m1 m2 m3 m5 "ValueError.__new__")) (rv : PySem.HandSPX.refsVE bm = true)
    (sa : PySem.W.findIn K (.ref D) "__setattr__" = some (some (.builtin "object.__setattr__"))) (eC : PySem.W.subIn K (.ref D) (.type "BaseException") = some true) (tC : PySem.W.typeIn K (.ref D) = some (.type "type")) (kC : PySem.W.keepIn K (.ref D) = true)
    (hg : PySem.W.findIn K (.ref D) "__getattribute__" = some (some (.builtin "BaseException.__getattribute__"))) (hk : PySem.W.findIn K (.ref D) "__getattr__" = some none) (hd : PySem.W.hasDictIn K D = true)
    (ha : PySem.W.findIn K (.ref D) "__class__" = some (some (.builtin "object.__class__"))) (hn : PySem.W.specialIn K (.builtin "object.__class__") "__get__" = some (some (.builtin "getset_descriptor.__get__"))) (ht : PySem.W.takesIn K (.builtin "object.__class__") = some true) (hm : PySem.W.mroIn K D (.type "object") = some true)
    (no : PySem.W.findIn K (.ref D) fn = some none) (N : EFull K D fn → R) : R :=
  N ⟨⟨⟨nm, q, N0, bs, bm, sn, sub, ab, col, dd, m0, m1, m2, m3, m5, xL, rv⟩, sa, eC, tC, kC⟩, ⟨hg, hk, eC, hd, ha, hn, ht, hm⟩, ⟨hg, hk, eC, hd⟩, no⟩
/-- its maker -/
theorem k_ehas {x q fn : Str} {st : Stmt} {Ce CK : Addr} {f : Addr} {oc : Value} {od an : Option Addr} {osl : Array (Option Value)} {kV doc pm cdv ct : Value} (EF : EFull K Ce fn) (gm : mg x = some (.ref Ce)) (ke : mg "KeepError" = some (.ref CK))
    (hb : ∀ (kV doc pm : Value) (an : Option Addr) (cdv ct : Value) (us : List Value), us.length = (["self", fn] : List Str).length → bindArgs (PySem.W.fnOf "__init__" q (defArgs st) (defBody st) (defScope st) .none kV doc pm an cdv ct) ⟨us, []⟩ = pure ((["self", fn] : List Str).zip us))
    (rd : PySem.W.readsIn K CK (.type "type") = true) (ga : PySem.W.specialIn K (.ref CK) "__getattribute__" = some (some (.builtin "type.__getattribute__")))
    (at_ : PySem.W.findCls K (.ref CK) (.type "type") "__init__" = some (.val (.builtin "ValueError.__init__"))) (fi : PySem.W.findIn K (.ref Ce) "__init__" = some (some (.ref f))) (ty : PySem.W.typeIn K (.ref f) = some (.type "function"))
    (l : K.lookup f = some ⟨oc, od, .func (PySem.W.fnOf "__init__" q (defArgs st) (defBody st) (defScope st) .none kV doc pm an cdv ct), osl⟩) (c : PySem.W.codeIn K cdv q = true) (k : PySem.W.keepIn K (.ref f) = true)
    (N : EHas K mg x q fn st Ce CK (.type "type") → R) : R :=
  N ⟨EF.ox, EF.no, gm, ke, ⟨rd, ga⟩, at_, f, _, fun_mk l c k, fi, ty, (fun_mk l c k).binds hb⟩
theorem k_caf {Ck Cz CE : Addr} (gk : mg "InvalidKinds" = some (.ref Ck)) (gz : mg "InvalidSize" = some (.ref Cz)) (gE : mg "KeepError" = some (.ref CE)) (Ek : EFull K Ck "index") (Ez : EFull K Cz "number") (ne : Cz ≠ Ck)
    (icK : PySem.W.isClsIn K Ck = true) (zk : PySem.W.subIn K (.ref Cz) (.ref Ck) = some false)
    (icE : PySem.W.isClsIn K CE = true) (tyE : PySem.W.typeIn K (.ref CE) = some (.type "type")) (exE : PySem.W.subIn K (.ref CE) (.type "BaseException") = some true) (ck : PySem.W.subIn K (.ref Ck) (.ref CE) = some true) (cz : PySem.W.subIn K (.ref Cz) (.ref CE) = some true)
    (N : CaF K mg Ck Cz CE → R) : R :=
  N ⟨gk, gz, gE, Ek.ex, Ez.ex, Ek.xf, Ez.xf, Ek.no, Ez.no, kit_self Ck, kit_of ne icK Ek.ox.tyC zk, kit_self Cz, exm_of exE icE tyE ck, exm_of exE icE tyE cz⟩
theorem k_forms {p f : Addr} {oc : Value} {od an : Option Addr} {osl : Array (Option Value)} {kV doc pm cdv ct : Value} {rest : List Value} {cn : Str} (_X : K.In h) (_g : mg cn = some (.ref C))
    (a : PySem.W.findIn K (.ref C) "forms" = some (some (.ref p))) (g : PySem.W.specialIn K (.ref p) "__get__" = some (some (.builtin "property.__get__"))) (t : PySem.W.takesIn K (.ref p) = some true) (r : PySem.W.recIn K p "property" = some (.ref f :: rest))
    (l : K.lookup f = some ⟨oc, od, .func (PySem.W.fnOf "forms" "Language.forms" (defArgs s_Language_forms) (defBody s_Language_forms) (defScope s_Language_forms) .none kV doc pm an cdv ct), osl⟩) (c : PySem.W.codeIn K cdv "Language.forms" = true) (k : PySem.W.keepIn K (.ref f) = true)
    (N : (∃ (p g : Addr) (fd : FuncData), Fun K "forms" "Language.forms" s_Language_forms g fd ∧ PropOf K C "forms" p g ∧ Binds K fd ["self"] []) → R) : R := N (forms_mk a g t r l c k)
theorem k_init {f : Addr} {oc : Value} {od an : Option Addr} {osl : Array (Option Value)} {kV doc pm cdv ct : Value} {cn : Str} (_X : K.In h) (_g : mg cn = some (.ref C))
    (m : PySem.W.makesIn K C = true) (a : PySem.W.findIn K (.ref C) "__init__" = some (some (.ref f))) (i : PySem.W.isFn K (.ref f) = true) (kc : PySem.W.keepIn K (.ref C) = true)
    (l : K.lookup f = some ⟨oc, od, .func (PySem.W.fnOf "__init__" "Language.__init__" (defArgs s_Language_init) (defBody s_Language_init) (defScope s_Language_init) .none kV doc pm an cdv ct), osl⟩) (c : PySem.W.codeIn K cdv "Language.__init__" = true) (k : PySem.W.keepIn K (.ref f) = true)
    (N : (∃ (f : Addr) (fd : FuncData), Fun K "__init__" "Language.__init__" s_Language_init f fd ∧ Mk K C f) → R) : R := N (init_mk m a i kc l c k)
/-- law itself -/
theorem k_law {f : Addr} {oc : Value} {od an : Option Addr} {osl : Array (Option Value)} {kV doc pm cdv ct : Value} (X : K.In h) (G : h.Ns mainGlobals mg)
    (a : PySem.W.nsIn K mainGlobals "law" = some (some (.ref f))) (l : K.lookup f = some ⟨oc, od, .func (PySem.W.fnOf "law" "law" (defArgs s_law) (defBody s_law) (defScope s_law) .none kV doc pm an cdv ct), osl⟩) (c : PySem.W.codeIn K cdv "law" = true) (k : PySem.W.keepIn K (.ref f) = true)
    (N : (∃ (f : Addr) (fd : FuncData), mg "law" = some (.ref f) ∧ Fun K "law" "law" s_law f fd ∧ ∀ (s : Shared) (u : Value), BindsTo s fd ⟨[u], []⟩ [("_law_script", u)]) → R) : R :=
  N ⟨f, _, PySem.W.mg_of X G a, fun_mk l c k, fun _ _ => .of_eq rfl⟩
/-- the end -/
theorem law_at {l : PySem.W.OpenLaw} {w : World} {fa Ck Cz CE c Pt : Addr} {mc mc2 : Value} (X : K.In h) (hfa : mg "law" = some (.ref fa)) (F : Facts K mg C Ck Cz CE c mc mc2)
    (L : ∃ (f : Addr) (fd : FuncData), mg "law" = some (.ref f) ∧ Fun K "law" "law" s_law f fd ∧ ∀ (s : Shared) (u : Value), BindsTo s fd ⟨[u], []⟩ [("_law_script", u)])
    (hT : h.get? Pt = some { cls := .none, data := .fields #[] }) (nT : K.lookup Pt = none) (hd : PySem.W.codeHdIn K c Pt = true) : LamX.LawAtS l w K CX0 11 63 "_law_script" mg fa h := by
  obtain ⟨f, fd, hf, FL, hb⟩ := L
  have e := hfa.symm.trans hf
  cases e
  have m0 : ((c, Pt) : Addr × Addr) ∈ [(c, Pt)] := List.mem_singleton.mpr rfl
  refine ⟨fd, [(c, Pt)], spL K [(Pt, ("_law_refused_right.<locals>.<lambda>" : Str))], fun p hp => ?_, fun p hp => ?_, fun p hp => ?_, hb, fun H a ns _ _ hH hS => ⟨a, ns, rfl, hS, fun p hp => ?_, fun _ => rfl⟩, fun base _ _ hTB => fn_law (defs_of F (hTB _ m0)) FL⟩
  · rw [List.mem_singleton.mp hp]
    exact hT
  · rw [List.mem_singleton.mp hp]
    exact nT
  · rw [List.mem_singleton.mp hp]
    exact PySem.W.codeHd_of_K X hd
  · rw [List.mem_singleton.mp hp]
    exact LamX.TabS.nil (hH _ m0)
end
end Kp

open Kp PySem L2 in
theorem Kp.walk {l : PySem.W.OpenLaw} {q : Program} {loose : List Str} {XP : (Str → Option Value) → Heap → Prop} {YP : World → Heap → Prop} {d : DefRec} {K : Params → PySem.W.Frag} (hn : l.most = some 63) (hdf : d.params.defaults = [])
    (hY : ∀ (w : World) (h : Heap), YP w h → (K w.params).In h)
    (F : ∀ (w : World) (mg : Str → Option Value) (fa : Addr) (h : Heap), YP w h → (K w.params).In h → h.Ns mainGlobals mg → mg d.name = some (.ref fa) → LamX.LawAtS l w (K w.params) CX0 11 63 "_law_script" mg fa h) :
    PySem.W.WalkO q loose XP YP l.row.toRowW d [] (fun f vs => PySem.call f vs) :=
  LamX.walk_ofTs (n := 63) (k := 11) (x := "_law_script") (CX := fun _ => CX0) hn (by decide) hdf ⟨rfl, by decide, by decide⟩ hY F fun _ _ _ _ _ z => z

open PySem PySem.W PyProof.Rows in
set_option maxRecDepth 100000 in
set_option maxHeartbeats 0 in
theorem PySem.Challenge.cw_keepplace_k30_whole_smallest_languages_holds : PySem.Challenge.rw_keepplace_k30_whole_smallest_languages.Holds := by
  w_on; o_law; k_head; (case hw => w_witness2)
  k_fill
  refine Kp.walk (l := PySem.Challenge.rw_keepplace_k30_whole_smallest_languages) rfl rfl (fun w h Y => PySem.W.km_in_of Y) ?F
  case F =>
    intro w mg fa h Y KX G hmg
    refine' Kp.k_blt KX G ?z1_1 ?z2_1 ?z3_1 ?z4_1 ?z5_1 ?z6_1 ?z7_1 ?z8_1 ?z9_1 ?z10_1 ?z11_1 ?z12_1 ?z13_1 ?z14_1 ?z15_1 ?z16_1 ?z17_1 (fun blt => ?R1)
    (case z1_1 => k_is)
    (case z2_1 => k_is)
    (case z3_1 => k_is)
    (case z4_1 => k_is)
    (case z5_1 => k_is)
    (case z6_1 => k_is)
    (case z7_1 => k_is)
    (case z8_1 => k_is)
    (case z9_1 => k_is)
    (case z10_1 => k_is)
    (case z11_1 => k_is)
    (case z12_1 => k_is)
    (case z13_1 => k_is)
    (case z14_1 => k_is)
    (case z15_1 => k_is)
    (case z16_1 => k_is)
    (case z17_1 => k_is)
    refine' Kp.k_con (x := "ALL") (v := .str "all") KX G ?a_2 ?r_2 (fun cAll => ?R2)
    (case a_2 => k_is)
    (case r_2 => exact ⟨_, rfl⟩)
    refine' Kp.k_con (x := "MOST_RUNS") (v := .int 5) KX G ?a_3 ?r_3 (fun cRuns => ?R3)
    (case a_3 => k_is)
    (case r_3 => exact ⟨_, rfl⟩)
    refine' Kp.k_con (x := "MOST_SIZE") (v := .int 60) KX G ?a_4 ?r_4 (fun cSize => ?R4)
    (case a_4 => k_is)
    (case r_4 => exact ⟨_, rfl⟩)
    refine' Kp.k_tup (x := "KINDS") (xs := Kp.Kd.all.map fun k => L2.V.str k.s) KX G ?a_5 ?l_5 ?z_5 ?r_5 (fun cKinds => ?R5)
    (case a_5 => k_is)
    (case l_5 => k_is)
    (case z_5 => decide +kernel)
    (case r_5 => exact Kp.vals_kinds)
    refine' Kp.k_cls (x := "Language") KX G ?a_6 (fun gL => ?R6)
    (case a_6 => k_is)
    refine' Kp.k_cls (x := "InvalidKinds") KX G ?a_7 (fun gk => ?R7)
    (case a_7 => k_is)
    refine' Kp.k_cls (x := "InvalidSize") KX G ?a_8 (fun gz => ?R8)
    (case a_8 => k_is)
    refine' Kp.k_cls (x := "KeepError") KX G ?a_9 (fun gE => ?R9)
    (case a_9 => k_is)
    refine' Kp.k_lc KX gL ?pg_10 ?hd_10 ?po_10 ?sa_10 ?n1_10 ?n2_10 ?n3_10 ?n4_10 ?ha_10 ?hn_10 ?ht_10 ?hm_10 (fun lc => ?R10)
    (case pg_10 => k_is)
    (case hd_10 => k_is)
    (case po_10 => k_is)
    (case sa_10 => k_is)
    (case n1_10 => k_is)
    (case n2_10 => k_is)
    (case n3_10 => k_is)
    (case n4_10 => k_is)
    (case ha_10 => k_is)
    (case hn_10 => k_is)
    (case ht_10 => k_is)
    (case hm_10 => k_is)
    refine' Kp.k_efull (fn := "index") KX gk ?xL_11 ?rv_11 ?sa_11 ?eC_11 ?tC_11 ?kC_11 ?hg_11 ?hk_11 ?hd_11 ?ha_11 ?hn_11 ?ht_11 ?hm_11 ?no_11 (fun Egk => ?R11)
    (case xL_11 => k_is)
    (case rv_11 => decide +kernel)
    (case sa_11 => k_is)
    (case eC_11 => k_is)
    (case tC_11 => k_is)
    (case kC_11 => k_is)
    (case hg_11 => k_is)
    (case hk_11 => k_is)
    (case hd_11 => k_is)
    (case ha_11 => k_is)
    (case hn_11 => k_is)
    (case ht_11 => k_is)
    (case hm_11 => k_is)
    (case no_11 => k_is)
    refine' Kp.k_efull (fn := "number") KX gz ?xL_12 ?rv_12 ?sa_12 ?eC_12 ?tC_12 ?kC_12 ?hg_12 ?hk_12 ?hd_12 ?ha_12 ?hn_12 ?ht_12 ?hm_12 ?no_12 (fun Egz => ?R12)
    (case xL_12 => k_is)
    (case rv_12 => decide +kernel)
    (case sa_12 => k_is)
    (case eC_12 => k_is)
    (case tC_12 => k_is)
    (case kC_12 => k_is)
    (case hg_12 => k_is)
    (case hk_12 => k_is)
    (case hd_12 => k_is)
    (case ha_12 => k_is)
    (case hn_12 => k_is)
    (case ht_12 => k_is)
    (case hm_12 => k_is)
    (case no_12 => k_is)
    refine' Kp.k_caf gk gz gE Egk Egz ?ne_13 ?icK_13 ?zk_13 ?icE_13 ?tyE_13 ?exE_13 ?ck_13 ?cz_13 (fun ca => ?R13)
    (case ne_13 => decide)
    (case icK_13 => k_is)
    (case zk_13 => k_is)
    (case icE_13 => k_is)
    (case tyE_13 => k_is)
    (case exE_13 => k_is)
    (case ck_13 => k_is)
    (case cz_13 => k_is)
    refine' Kp.k_ehas (q := "InvalidKinds.__init__") (st := Kp.s_InvalidKinds_init) Egk gk gE (fun _ _ _ _ _ _ us hl => match us, hl with | [_, _], _ => rfl) ?rd_14 ?ga_14 ?at__14 ?fi_14 ?ty_14 ?l_14 ?c_14 ?k_14 (fun ek => ?R14)
    (case rd_14 => k_is)
    (case ga_14 => k_is)
    (case at__14 => k_is)
    (case fi_14 => k_is)
    (case ty_14 => k_is)
    (case l_14 => k_is)
    (case c_14 => k_is)
    (case k_14 => k_is)
    refine' Kp.k_ehas (q := "InvalidSize.__init__") (st := Kp.s_InvalidSize_init) Egz gz gE (fun _ _ _ _ _ _ us hl => match us, hl with | [_, _], _ => rfl) ?rd_15 ?ga_15 ?at__15 ?fi_15 ?ty_15 ?l_15 ?c_15 ?k_15 (fun ez => ?R15)
    (case rd_15 => k_is)
    (case ga_15 => k_is)
    (case at__15 => k_is)
    (case fi_15 => k_is)
    (case ty_15 => k_is)
    (case l_15 => k_is)
    (case c_15 => k_is)
    (case k_15 => k_is)
    refine' Kp.k_has (x := "is_integer") (st := Kp.s_is_integer) (ps := ["value"]) KX G (fun _ _ _ _ _ _ us hl => match us, hl with | [_], _ => rfl) ?a_16 ?l_16 ?c_16 ?k_16 (fun f_is_integer => ?R16)
    (case a_16 => k_is)
    (case l_16 => k_is)
    (case c_16 => k_is)
    (case k_16 => k_is)
    refine' Kp.k_has (x := "is_place") (st := Kp.s_is_place) (ps := ["value", "size"]) KX G (fun _ _ _ _ _ _ us hl => match us, hl with | [_, _], _ => rfl) ?a_17 ?l_17 ?c_17 ?k_17 (fun f_is_place => ?R17)
    (case a_17 => k_is)
    (case l_17 => k_is)
    (case c_17 => k_is)
    (case k_17 => k_is)
    refine' Kp.k_has (x := "is_word") (st := Kp.s_is_word) (ps := ["value"]) KX G (fun _ _ _ _ _ _ us hl => match us, hl with | [_], _ => rfl) ?a_18 ?l_18 ?c_18 ?k_18 (fun f_is_word => ?R18)
    (case a_18 => k_is)
    (case l_18 => k_is)
    (case c_18 => k_is)
    (case k_18 => k_is)
    refine' Kp.k_has (x := "runs_of") (st := Kp.s_runs_of) (ps := ["word"]) KX G (fun _ _ _ _ _ _ us hl => match us, hl with | [_], _ => rfl) ?a_19 ?l_19 ?c_19 ?k_19 (fun f_runs_of => ?R19)
    (case a_19 => k_is)
    (case l_19 => k_is)
    (case c_19 => k_is)
    (case k_19 => k_is)
    refine' Kp.k_has (x := "is_form") (st := Kp.s_is_form) (ps := ["value"]) KX G (fun _ _ _ _ _ _ us hl => match us, hl with | [_], _ => rfl) ?a_20 ?l_20 ?c_20 ?k_20 (fun f_is_form => ?R20)
    (case a_20 => k_is)
    (case l_20 => k_is)
    (case c_20 => k_is)
    (case k_20 => k_is)
    refine' Kp.k_has (x := "chosen") (st := Kp.s_chosen) (ps := ["many", "few"]) KX G (fun _ _ _ _ _ _ us hl => match us, hl with | [_, _], _ => rfl) ?a_21 ?l_21 ?c_21 ?k_21 (fun f_chosen => ?R21)
    (case a_21 => k_is)
    (case l_21 => k_is)
    (case c_21 => k_is)
    (case k_21 => k_is)
    refine' Kp.k_has (x := "need_size") (st := Kp.s_need_size) (ps := ["size"]) KX G (fun _ _ _ _ _ _ us hl => match us, hl with | [_], _ => rfl) ?a_22 ?l_22 ?c_22 ?k_22 (fun f_need_size => ?R22)
    (case a_22 => k_is)
    (case l_22 => k_is)
    (case c_22 => k_is)
    (case k_22 => k_is)
    refine' Kp.k_has (x := "applied") (st := Kp.s_applied) (ps := ["items", "change", "item"]) KX G (fun _ _ _ _ _ _ us hl => match us, hl with | [_, _, _], _ => rfl) ?a_23 ?l_23 ?c_23 ?k_23 (fun f_applied => ?R23)
    (case a_23 => k_is)
    (case l_23 => k_is)
    (case c_23 => k_is)
    (case k_23 => k_is)
    refine' Kp.k_has (x := "led") (st := Kp.s_led) (ps := ["word", "step"]) KX G (fun _ _ _ _ _ _ us hl => match us, hl with | [_, _], _ => rfl) ?a_24 ?l_24 ?c_24 ?k_24 (fun f_led => ?R24)
    (case a_24 => k_is)
    (case l_24 => k_is)
    (case c_24 => k_is)
    (case k_24 => k_is)
    refine' Kp.k_has (x := "leads_out") (st := Kp.s_leads_out) (ps := ["language", "word", "step"]) KX G (fun _ _ _ _ _ _ us hl => match us, hl with | [_, _, _], _ => rfl) ?a_25 ?l_25 ?c_25 ?k_25 (fun f_leads_out => ?R25)
    (case a_25 => k_is)
    (case l_25 => k_is)
    (case c_25 => k_is)
    (case k_25 => k_is)
    refine' Kp.k_has (x := "places_of") (st := Kp.s_places_of) (ps := ["kind", "size"]) KX G (fun _ _ _ _ _ _ us hl => match us, hl with | [_, _], _ => rfl) ?a_26 ?l_26 ?c_26 ?k_26 (fun f_places_of => ?R26)
    (case a_26 => k_is)
    (case l_26 => k_is)
    (case c_26 => k_is)
    (case k_26 => k_is)
    refine' Kp.k_has (x := "steps_of") (st := Kp.s_steps_of) (ps := ["kind", "size"]) KX G (fun _ _ _ _ _ _ us hl => match us, hl with | [_, _], _ => rfl) ?a_27 ?l_27 ?c_27 ?k_27 (fun f_steps_of => ?R27)
    (case a_27 => k_is)
    (case l_27 => k_is)
    (case c_27 => k_is)
    (case k_27 => k_is)
    refine' Kp.k_has (x := "need_kinds") (st := Kp.s_need_kinds) (ps := ["kinds"]) KX G (fun _ _ _ _ _ _ us hl => match us, hl with | [_], _ => rfl) ?a_28 ?l_28 ?c_28 ?k_28 (fun f_need_kinds => ?R28)
    (case a_28 => k_is)
    (case l_28 => k_is)
    (case c_28 => k_is)
    (case k_28 => k_is)
    refine' Kp.k_has (x := "need_deletes") (st := Kp.s_need_deletes) (ps := ["kinds"]) KX G (fun _ _ _ _ _ _ us hl => match us, hl with | [_], _ => rfl) ?a_29 ?l_29 ?c_29 ?k_29 (fun f_need_deletes => ?R29)
    (case a_29 => k_is)
    (case l_29 => k_is)
    (case c_29 => k_is)
    (case k_29 => k_is)
    refine' Kp.k_has (x := "sorts_at") (st := Kp.s_sorts_at) (ps := ["kinds", "end"]) KX G (fun _ _ _ _ _ _ us hl => match us, hl with | [_, _], _ => rfl) ?a_30 ?l_30 ?c_30 ?k_30 (fun f_sorts_at => ?R30)
    (case a_30 => k_is)
    (case l_30 => k_is)
    (case c_30 => k_is)
    (case k_30 => k_is)
    refine' Kp.k_has (x := "smallest_of") (st := Kp.s_smallest_of) (ps := ["kinds"]) KX G (fun _ _ _ _ _ _ us hl => match us, hl with | [_], _ => rfl) ?a_31 ?l_31 ?c_31 ?k_31 (fun f_smallest_of => ?R31)
    (case a_31 => k_is)
    (case l_31 => k_is)
    (case c_31 => k_is)
    (case k_31 => k_is)
    refine' Kp.k_has (x := "first_open") (st := Kp.s_first_open) (ps := ["language", "kinds"]) KX G (fun _ _ _ _ _ _ us hl => match us, hl with | [_, _], _ => rfl) ?a_32 ?l_32 ?c_32 ?k_32 (fun f_first_open => ?R32)
    (case a_32 => k_is)
    (case l_32 => k_is)
    (case c_32 => k_is)
    (case k_32 => k_is)
    refine' Kp.k_has (x := "open_at") (st := Kp.s_open_at) (ps := ["language", "kinds"]) KX G (fun _ _ _ _ _ _ us hl => match us, hl with | [_, _], _ => rfl) ?a_33 ?l_33 ?c_33 ?k_33 (fun f_open_at => ?R33)
    (case a_33 => k_is)
    (case l_33 => k_is)
    (case c_33 => k_is)
    (case k_33 => k_is)
    refine' Kp.k_has (x := "smallest") (st := Kp.s_smallest) (ps := ["kinds"]) KX G (fun _ _ _ _ _ _ us hl => match us, hl with | [_], _ => rfl) ?a_34 ?l_34 ?c_34 ?k_34 (fun f_smallest => ?R34)
    (case a_34 => k_is)
    (case l_34 => k_is)
    (case c_34 => k_is)
    (case k_34 => k_is)
    refine' Kp.k_has (x := "needed") (st := Kp.s_needed) (ps := ["kinds", "size"]) KX G (fun _ _ _ _ _ _ us hl => match us, hl with | [_, _], _ => rfl) ?a_35 ?l_35 ?c_35 ?k_35 (fun f_needed => ?R35)
    (case a_35 => k_is)
    (case l_35 => k_is)
    (case c_35 => k_is)
    (case k_35 => k_is)
    refine' Kp.k_mhas (m := "lets") (q := "Language.lets") (st := Kp.s_Language_lets) (ps := ["self", "word"]) KX gL (fun _ _ _ _ _ _ us hl => match us, hl with | [_, _], _ => rfl) ?a_36 ?i_36 ?l_36 ?c_36 ?k_36 (fun f_lets => ?R36)
    (case a_36 => k_is)
    (case i_36 => k_is)
    (case l_36 => k_is)
    (case c_36 => k_is)
    (case k_36 => k_is)
    refine' Kp.k_mhas (m := "__contains__") (q := "Language.__contains__") (st := Kp.s_Language_contains) (ps := ["self", "word"]) KX gL (fun _ _ _ _ _ _ us hl => match us, hl with | [_, _], _ => rfl) ?a_37 ?i_37 ?l_37 ?c_37 ?k_37 (fun f_contains => ?R37)
    (case a_37 => k_is)
    (case i_37 => k_is)
    (case l_37 => k_is)
    (case c_37 => k_is)
    (case k_37 => k_is)
    refine' Kp.k_mhas (m := "__eq__") (q := "Language.__eq__") (st := Kp.s_Language_eq) (ps := ["self", "other"]) KX gL (fun _ _ _ _ _ _ us hl => match us, hl with | [_, _], _ => rfl) ?a_38 ?i_38 ?l_38 ?c_38 ?k_38 (fun f_eq => ?R38)
    (case a_38 => k_is)
    (case i_38 => k_is)
    (case l_38 => k_is)
    (case c_38 => k_is)
    (case k_38 => k_is)
    refine' Kp.k_mhas (m := "many") (q := "Language.many") (st := Kp.s_Language_many) (ps := ["self", "size"]) KX gL (fun _ _ _ _ _ _ us hl => match us, hl with | [_, _], _ => rfl) ?a_39 ?i_39 ?l_39 ?c_39 ?k_39 (fun f_many => ?R39)
    (case a_39 => k_is)
    (case i_39 => k_is)
    (case l_39 => k_is)
    (case c_39 => k_is)
    (case k_39 => k_is)
    refine' Kp.k_mhas (m := "ends") (q := "Language.ends") (st := Kp.s_Language_ends) (ps := ["self", "begun", "left"]) KX gL (fun _ _ _ _ _ _ us hl => match us, hl with | [_, _, _], _ => rfl) ?a_40 ?i_40 ?l_40 ?c_40 ?k_40 (fun f_ends => ?R40)
    (case a_40 => k_is)
    (case i_40 => k_is)
    (case l_40 => k_is)
    (case c_40 => k_is)
    (case k_40 => k_is)
    refine' Kp.k_mhas (m := "count") (q := "Language.count") (st := Kp.s_Language_count) (ps := ["self", "size"]) KX gL (fun _ _ _ _ _ _ us hl => match us, hl with | [_, _], _ => rfl) ?a_41 ?i_41 ?l_41 ?c_41 ?k_41 (fun f_count => ?R41)
    (case a_41 => k_is)
    (case i_41 => k_is)
    (case l_41 => k_is)
    (case c_41 => k_is)
    (case k_41 => k_is)
    refine' Kp.k_mhas (m := "made") (q := "Language.made") (st := Kp.s_Language_made) (ps := ["self", "size", "number"]) KX gL (fun _ _ _ _ _ _ us hl => match us, hl with | [_, _, _], _ => rfl) ?a_42 ?i_42 ?l_42 ?c_42 ?k_42 (fun f_made => ?R42)
    (case a_42 => k_is)
    (case i_42 => k_is)
    (case l_42 => k_is)
    (case c_42 => k_is)
    (case k_42 => k_is)
    refine' Kp.k_mhas (m := "words") (q := "Language.words") (st := Kp.s_Language_words) (ps := ["self", "size"]) KX gL (fun _ _ _ _ _ _ us hl => match us, hl with | [_, _], _ => rfl) ?a_43 ?i_43 ?l_43 ?c_43 ?k_43 (fun f_words => ?R43)
    (case a_43 => k_is)
    (case i_43 => k_is)
    (case l_43 => k_is)
    (case c_43 => k_is)
    (case k_43 => k_is)
    refine' Kp.k_forms KX gL ?a_44 ?g_44 ?t_44 ?r_44 ?l_44 ?c_44 ?k_44 (fun f_forms => ?R44)
    (case a_44 => k_is)
    (case g_44 => k_is)
    (case t_44 => k_is)
    (case r_44 => k_is)
    (case l_44 => k_is)
    (case c_44 => k_is)
    (case k_44 => k_is)
    refine' Kp.k_init KX gL ?m_45 ?a_45 ?i_45 ?kc_45 ?l_45 ?c_45 ?k_45 (fun f_init => ?R45)
    (case m_45 => k_is)
    (case a_45 => k_is)
    (case i_45 => k_is)
    (case kc_45 => k_is)
    (case l_45 => k_is)
    (case c_45 => k_is)
    (case k_45 => k_is)
    refine' Kp.k_has (x := "_law_begin") (st := Kp.s_L_begin) (ps := ["_law_script"]) KX G (fun _ _ _ _ _ _ us hl => match us, hl with | [_], _ => rfl) ?a_46 ?l_46 ?c_46 ?k_46 (fun f_l_begin => ?R46)
    (case a_46 => k_is)
    (case l_46 => k_is)
    (case c_46 => k_is)
    (case k_46 => k_is)
    refine' Kp.k_has (x := "_law_mixed") (st := Kp.s_L_mixed) (ps := ["_law_draw"]) KX G (fun _ _ _ _ _ _ us hl => match us, hl with | [_], _ => rfl) ?a_47 ?l_47 ?c_47 ?k_47 (fun f_l_mixed => ?R47)
    (case a_47 => k_is)
    (case l_47 => k_is)
    (case c_47 => k_is)
    (case k_47 => k_is)
    refine' Kp.k_has (x := "_law_take") (st := Kp.s_L_take) (ps := ["_law_draw", "_law_wide"]) KX G (fun _ _ _ _ _ _ us hl => match us, hl with | [_, _], _ => rfl) ?a_48 ?l_48 ?c_48 ?k_48 (fun f_l_take => ?R48)
    (case a_48 => k_is)
    (case l_48 => k_is)
    (case c_48 => k_is)
    (case k_48 => k_is)
    refine' Kp.k_has (x := "_law_pick") (st := Kp.s_L_pick) (ps := ["_law_draw", "_law_some"]) KX G (fun _ _ _ _ _ _ us hl => match us, hl with | [_, _], _ => rfl) ?a_49 ?l_49 ?c_49 ?k_49 (fun f_l_pick => ?R49)
    (case a_49 => k_is)
    (case l_49 => k_is)
    (case c_49 => k_is)
    (case k_49 => k_is)
    refine' Kp.k_has (x := "_law_sorts") (st := Kp.s_L_sorts) (ps := ["_law_draw", "_law_least"]) KX G (fun _ _ _ _ _ _ us hl => match us, hl with | [_, _], _ => rfl) ?a_50 ?l_50 ?c_50 ?k_50 (fun f_l_sorts => ?R50)
    (case a_50 => k_is)
    (case l_50 => k_is)
    (case c_50 => k_is)
    (case k_50 => k_is)
    refine' Kp.k_has (x := "_law_all_words") (st := Kp.s_L_all_words) (ps := ["_law_many_here"]) KX G (fun _ _ _ _ _ _ us hl => match us, hl with | [_], _ => rfl) ?a_51 ?l_51 ?c_51 ?k_51 (fun f_l_all_words => ?R51)
    (case a_51 => k_is)
    (case l_51 => k_is)
    (case c_51 => k_is)
    (case k_51 => k_is)
    refine' Kp.k_has (x := "_law_fits") (st := Kp.s_L_fits) (ps := ["_law_form", "_law_page"]) KX G (fun _ _ _ _ _ _ us hl => match us, hl with | [_, _], _ => rfl) ?a_52 ?l_52 ?c_52 ?k_52 (fun f_l_fits => ?R52)
    (case a_52 => k_is)
    (case l_52 => k_is)
    (case c_52 => k_is)
    (case k_52 => k_is)
    refine' Kp.k_has (x := "_law_has") (st := Kp.s_L_has) (ps := ["_law_forms_here", "_law_page"]) KX G (fun _ _ _ _ _ _ us hl => match us, hl with | [_, _], _ => rfl) ?a_53 ?l_53 ?c_53 ?k_53 (fun f_l_has => ?R53)
    (case a_53 => k_is)
    (case l_53 => k_is)
    (case c_53 => k_is)
    (case k_53 => k_is)
    refine' Kp.k_has (x := "_law_letters") (st := Kp.s_L_letters) (ps := ["_law_how"]) KX G (fun _ _ _ _ _ _ us hl => match us, hl with | [_], _ => rfl) ?a_54 ?l_54 ?c_54 ?k_54 (fun f_l_letters => ?R54)
    (case a_54 => k_is)
    (case l_54 => k_is)
    (case c_54 => k_is)
    (case k_54 => k_is)
    refine' Kp.k_has (x := "_law_led") (st := Kp.s_L_led) (ps := ["_law_page", "_law_deed"]) KX G (fun _ _ _ _ _ _ us hl => match us, hl with | [_, _], _ => rfl) ?a_55 ?l_55 ?c_55 ?k_55 (fun f_l_led => ?R55)
    (case a_55 => k_is)
    (case l_55 => k_is)
    (case c_55 => k_is)
    (case k_55 => k_is)
    refine' Kp.k_has (x := "_law_deeds_of") (st := Kp.s_L_deeds_of) (ps := ["_law_sort", "_law_many_here"]) KX G (fun _ _ _ _ _ _ us hl => match us, hl with | [_, _], _ => rfl) ?a_56 ?l_56 ?c_56 ?k_56 (fun f_l_deeds_of => ?R56)
    (case a_56 => k_is)
    (case l_56 => k_is)
    (case c_56 => k_is)
    (case k_56 => k_is)
    refine' Kp.k_has (x := "_law_deeds") (st := Kp.s_L_deeds) (ps := ["_law_sorts_here", "_law_page"]) KX G (fun _ _ _ _ _ _ us hl => match us, hl with | [_, _], _ => rfl) ?a_57 ?l_57 ?c_57 ?k_57 (fun f_l_deeds => ?R57)
    (case a_57 => k_is)
    (case l_57 => k_is)
    (case c_57 => k_is)
    (case k_57 => k_is)
    refine' Kp.k_has (x := "_law_is_left") (st := Kp.s_L_is_left) (ps := ["_law_forms_here", "_law_page", "_law_deed"]) KX G (fun _ _ _ _ _ _ us hl => match us, hl with | [_, _, _], _ => rfl) ?a_58 ?l_58 ?c_58 ?k_58 (fun f_l_is_left => ?R58)
    (case a_58 => k_is)
    (case l_58 => k_is)
    (case c_58 => k_is)
    (case k_58 => k_is)
    refine' Kp.k_has (x := "_law_ends") (st := Kp.s_L_ends) (ps := ["_law_sorts_here"]) KX G (fun _ _ _ _ _ _ us hl => match us, hl with | [_], _ => rfl) ?a_59 ?l_59 ?c_59 ?k_59 (fun f_l_ends => ?R59)
    (case a_59 => k_is)
    (case l_59 => k_is)
    (case c_59 => k_is)
    (case k_59 => k_is)
    refine' Kp.k_has (x := "_law_due") (st := Kp.s_L_due) (ps := ["_law_sorts_here"]) KX G (fun _ _ _ _ _ _ us hl => match us, hl with | [_], _ => rfl) ?a_60 ?l_60 ?c_60 ?k_60 (fun f_l_due => ?R60)
    (case a_60 => k_is)
    (case l_60 => k_is)
    (case c_60 => k_is)
    (case k_60 => k_is)
    refine' Kp.k_has (x := "_law_many") (st := Kp.s_L_many) (ps := ["_law_forms_here", "_law_many_here"]) KX G (fun _ _ _ _ _ _ us hl => match us, hl with | [_, _], _ => rfl) ?a_61 ?l_61 ?c_61 ?k_61 (fun f_l_many => ?R61)
    (case a_61 => k_is)
    (case l_61 => k_is)
    (case c_61 => k_is)
    (case k_61 => k_is)
    refine' Kp.k_has (x := "_law_tongue") (st := Kp.s_L_tongue) (ps := ["_law_forms_here"]) KX G (fun _ _ _ _ _ _ us hl => match us, hl with | [_], _ => rfl) ?a_62 ?l_62 ?c_62 ?k_62 (fun f_l_tongue => ?R62)
    (case a_62 => k_is)
    (case l_62 => k_is)
    (case c_62 => k_is)
    (case k_62 => k_is)
    refine' Kp.k_has (x := "_law_caught") (st := Kp.s_L_caught) (ps := ["_law_work"]) KX G (fun _ _ _ _ _ _ us hl => match us, hl with | [_], _ => rfl) ?a_63 ?l_63 ?c_63 ?k_63 (fun f_l_caught => ?R63)
    (case a_63 => k_is)
    (case l_63 => k_is)
    (case c_63 => k_is)
    (case k_63 => k_is)
    refine' Kp.k_has (x := "_law_is_closed") (st := Kp.s_L_is_closed) (ps := ["_law_forms_here", "_law_sorts_here"]) KX G (fun _ _ _ _ _ _ us hl => match us, hl with | [_, _], _ => rfl) ?a_64 ?l_64 ?c_64 ?k_64 (fun f_l_is_closed => ?R64)
    (case a_64 => k_is)
    (case l_64 => k_is)
    (case c_64 => k_is)
    (case k_64 => k_is)
    refine' Kp.k_hasc (x := "_law_refused_right") (st := Kp.s_L_refused_right) (ps := ["_law_draw", "_law_sorts_here"]) KX G (fun _ _ _ _ _ _ us hl => match us, hl with | [_, _], _ => rfl) ?a_65 ?l_65 ?c_65 ?k_65 (fun f_l_refused => ?R65)
    (case a_65 => k_is)
    (case l_65 => k_is)
    (case c_65 => k_is)
    (case k_65 => k_is)
    refine' Kp.k_law KX G ?a_66 ?l_66 ?c_66 ?k_66 (fun f_law => ?R66)
    (case a_66 => k_is)
    (case l_66 => k_is)
    (case c_66 => k_is)
    (case k_66 => k_is)
    refine' Kp.law_at KX hmg ⟨⟨blt, cAll, cRuns, cSize, cKinds⟩, lc, ca, gL, f_is_integer, f_is_place, f_is_word, f_runs_of, f_is_form, f_chosen, f_need_size, f_applied, f_led, f_leads_out, f_places_of, f_steps_of, f_need_kinds, f_need_deletes, f_sorts_at, f_smallest_of, f_first_open, f_open_at, (Kp.hask1 f_smallest Kp.kb_smallest), (Kp.hask2 f_needed Kp.kb_needed), f_lets, f_contains, f_eq, f_many, f_ends, f_count, f_made, f_words, f_forms, f_init, ek, ez, f_l_begin, f_l_mixed, f_l_take, f_l_pick, f_l_sorts, f_l_all_words, f_l_fits, f_l_has, f_l_letters, f_l_led, f_l_deeds_of, f_l_deeds, f_l_is_left, f_l_ends, f_l_due, f_l_many, f_l_tongue, f_l_caught, f_l_is_closed, f_l_refused⟩ f_law ?hT_67 ?nT_67 ?hd_67
    (case hT_67 => exact PySem.W.km_tabs_of Y 435 (List.mem_cons_self ..))
    (case nT_67 => kernel_rfl)
    (case hd_67 => kernel_rfl)

