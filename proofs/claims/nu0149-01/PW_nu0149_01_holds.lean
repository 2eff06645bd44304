import PyProof.Rows.All
import Wide.All
import OpenK.AllK
import Wide.FinOn
import PySem.Challenge.RW_nu0149_01
open PySem PySem.W PyProof.Rows PySem.Calls
set_option Elab.async false
set_option maxRecDepth 100000
set_option maxHeartbeats 8000000

namespace Mine
open_top hd for PySem.Challenge.rw_nu0149_01
end Mine

namespace Mine

/-- a bound that the walk does not see -/
def Bnd (n : Nat) : Prop := n ≤ 7
abbrev Led := List (Addr × Obj)
/-- the entry at d becomes o -/
def updL (d : Addr) (o : Obj) (news : Led) : Led := news.map fun p => if p.1 = d then (d, o) else p
theorem mem_updL_self {d : Addr} {o o' : Obj} {news : Led} (h : (d, o) ∈ news) : (d, o') ∈ updL d o' news :=
  List.mem_map.mpr ⟨(d, o), h, by simp⟩
theorem mem_updL_ne {p : Addr × Obj} {d : Addr} {o' : Obj} {news : Led} (h : p ∈ news) (hn : p.1 ≠ d) : p ∈ updL d o' news :=
  List.mem_map.mpr ⟨p, h, by simp [hn]⟩
theorem news_updL {h₀ h h' : Heap} {L d : Addr} {o o' : Obj} {news : Led} (N : News h₀ L h news) (hd : (d, o) ∈ news) (hs : Heap.SameBut d h h') (ho : h'.get? d = some o') :
    News h₀ L h' (updL d o' news) := by
  intro p hp
  obtain ⟨q, hq, rfl⟩ := List.mem_map.mp hp
  by_cases e : q.1 = d
  · simp only [e, if_true]
    exact ⟨ho, (N _ hd).2⟩
  · simp only [e, if_false]
    exact ⟨(hs.2 _ e).trans (N q hq).1, (N q hq).2⟩
theorem fr_updL {h₀ h h' : Heap} {L d : Addr} {o : Obj} {m : Str → Option Value} {news : Led} (F : Fr h₀ L h m) (N : News h₀ L h news) (hd : (d, o) ∈ news) (hs : Heap.SameBut d h h') : Fr h₀ L h' m :=
  F.change hs (N _ hd).2.1 (N _ hd).2.2
theorem news_sub {h₀ h : Heap} {L : Addr} {l l' : Led} (N : News h₀ L h l) (hs : ∀ p ∈ l', p ∈ l) : News h₀ L h l' := fun p hp => N p (hs p hp)
theorem news_uniq {h₀ h : Heap} {L a : Addr} {l : Led} {o o' : Obj} (N : News h₀ L h l) (h1 : (a, o) ∈ l) (h2 : (a, o') ∈ l) : o = o' :=
  Option.some.inj ((N _ h1).1.symm.trans (N _ h2).1)

/-- all entries but those of dicts stay -/
def Nd (o : Obj) : Prop := o.cls ≠ .type "dict" ∨ ∃ v, o.data = .cell v
def KeepND (l l' : Led) : Prop := ∀ p ∈ l, Nd p.2 → p ∈ l'
theorem KeepND.refl {l : Led} : KeepND l l := fun _ h _ => h
theorem KeepND.trans {a b c : Led} (h : KeepND a b) (k : KeepND b c) : KeepND a c := fun p hp hc => k p (h p hp hc) hc
theorem KeepND.of_sub {a b : Led} (h : ∀ p ∈ a, p ∈ b) : KeepND a b := fun p hp _ => h p hp

abbrev dat3 (t : Nat × Int × Int) : Dat := .tuple [.int t.1, .int t.2.1, .int t.2.2]
structure Cel where
  par : Int
  bond : Str
  y : Int

theorem isStr_iff {v : Value} {n : Str} : v.isStr n = true ↔ ∃ t, v = .str n t := by
  cases v with
  | str x t =>
    show (x == n) = true ↔ _
    constructor
    · intro h; exact ⟨t, by rw [eq_of_beq h]⟩
    · rintro ⟨u, h⟩; cases h; simp
  | _ =>
    constructor
    · intro h; cases h
    · rintro ⟨u, h⟩; cases h

theorem putL_len (name : Str) (hsh : Int) (key v : Value) : ∀ es : List DictEntry, (∃ w, getL name es = some (some w)) → (putL name hsh key v es).length = es.length
  | [], ⟨w, h⟩ => by simp [getL] at h
  | e :: r, ⟨w, h⟩ => by
    unfold putL
    by_cases q : e.key.isStr name = true
    · rw [if_pos q]; rfl
    · rw [if_neg q, List.length_cons, List.length_cons]
      congr 1
      refine putL_len name hsh key v r ?_
      unfold getL at h ⊢
      rw [List.find?_cons] at h
      simp only [Bool.not_eq_true] at q
      rw [q] at h
      simp only at h
      split at h
      · exact ⟨_, rfl⟩
      · split at h <;> cases h

theorem putL_any (name : Str) : ∀ es : List DictEntry, (∃ w, getL name es = some (some w)) → es.any (·.key.isStr name) = true
  | es, ⟨w, h⟩ => by
    unfold getL at h
    split at h
    · rename_i e he
      exact List.any_eq_true.mpr ⟨e, List.mem_of_find?_eq_some he, by simpa using List.find?_some he⟩
    · split at h <;> cases h

theorem getL_some {name : Str} {es : List DictEntry} {w : Value} : getL name es = some (some w) ↔ ∃ e, es.find? (·.key.isStr name) = some e ∧ e.val = w := by
  unfold getL
  cases he : es.find? (·.key.isStr name) with
  | some e =>
    constructor
    · intro h; exact ⟨e, rfl, by simpa using h⟩
    · rintro ⟨e', h, rfl⟩; cases h; rfl
  | none =>
    constructor
    · intro h; simp only at h; split at h <;> cases h
    · rintro ⟨e', h, _⟩; cases h

theorem getL_put_same (name : Str) (hsh : Int) (key v : Value) : ∀ es : List DictEntry, (∃ w, getL name es = some (some w)) → getL name (putL name hsh key v es) = some (some v)
  | [], ⟨w, h⟩ => by simp [getL] at h
  | e :: r, ⟨w, h⟩ => by
    rw [getL_some]
    unfold putL
    by_cases q : e.key.isStr name = true
    · rw [if_pos q, List.find?_cons]; simp [q]
    · rw [if_neg q, List.find?_cons]
      simp only [Bool.not_eq_true] at q
      rw [q]
      simp only
      refine getL_some.mp (getL_put_same name hsh key v r ?_)
      obtain ⟨e', he', hv⟩ := getL_some.mp h
      rw [List.find?_cons, q] at he'
      exact ⟨w, getL_some.mpr ⟨e', he', hv⟩⟩

theorem getL_put_ne {name name' : Str} (hne : name' ≠ name) (hsh : Int) (key v : Value) : ∀ es : List DictEntry, (∃ w, getL name es = some (some w)) → ∀ w', getL name' es = some (some w') → getL name' (putL name hsh key v es) = some (some w')
  | [], ⟨w, h⟩, _, _ => by simp [getL] at h
  | e :: r, ⟨w, h⟩, w', h' => by
    rw [getL_some] at h' ⊢
    obtain ⟨e', he', hv⟩ := h'
    unfold putL
    by_cases q : e.key.isStr name = true
    · rw [if_pos q, List.find?_cons]
      have q' : e.key.isStr name' = false := by
        obtain ⟨t, ht⟩ := isStr_iff.mp q
        cases hh : e.key.isStr name' with
        | false => rfl
        | true =>
          obtain ⟨t', ht'⟩ := isStr_iff.mp hh
          rw [ht] at ht'
          cases ht'
          exact absurd rfl hne
      rw [List.find?_cons, q'] at he'
      simp only [q']
      exact ⟨e', he', hv⟩
    · rw [if_neg q]
      rw [List.find?_cons] at he' ⊢
      simp only [Bool.not_eq_true] at q
      cases q' : e.key.isStr name' with
      | true => rw [q'] at he'; exact ⟨e', he', hv⟩
      | false =>
        rw [q'] at he'
        simp only at he' ⊢
        refine getL_some.mp (getL_put_ne hne hsh key v r ?_ w' (getL_some.mpr ⟨e', he', hv⟩))
        obtain ⟨e₂, he₂, hv₂⟩ := getL_some.mp h
        rw [List.find?_cons, q] at he₂
        exact ⟨w, getL_some.mpr ⟨e₂, he₂, hv₂⟩⟩

/-- the dict of an Info: its three fields of ours -/
structure EsIs (es : List DictEntry) (c : Cel) : Prop where
  par : ∃ t, getL (Str.ofString "parent") es = some (some (.int c.par t))
  bond : ∃ t, getL (Str.ofString "bond") es = some (some (.str c.bond t))
  y : ∃ t, getL (Str.ofString "y_offset") es = some (some (.int c.y t))
  len : es.length ≤ 1000

theorem EsIs.setPar {es : List DictEntry} {c : Cel} (h : EsIs es c) (hsh : Int) (key : Value) (p : Int) (t : Tok) : EsIs (putL (Str.ofString "parent") hsh key (.int p t) es) { c with par := p } := by
  obtain ⟨⟨t1, h1⟩, ⟨t2, h2⟩, ⟨t3, h3⟩, h4⟩ := h
  exact ⟨⟨t, getL_put_same _ _ _ _ _ ⟨_, h1⟩⟩, ⟨t2, getL_put_ne (by decide) _ _ _ _ ⟨_, h1⟩ _ h2⟩, ⟨t3, getL_put_ne (by decide) _ _ _ _ ⟨_, h1⟩ _ h3⟩, by rw [putL_len _ _ _ _ _ ⟨_, h1⟩]; exact h4⟩
theorem EsIs.setBond {es : List DictEntry} {c : Cel} (h : EsIs es c) (hsh : Int) (key : Value) (p : Str) (t : Tok) : EsIs (putL (Str.ofString "bond") hsh key (.str p t) es) { c with bond := p } := by
  obtain ⟨⟨t1, h1⟩, ⟨t2, h2⟩, ⟨t3, h3⟩, h4⟩ := h
  exact ⟨⟨t1, getL_put_ne (by decide) _ _ _ _ ⟨_, h2⟩ _ h1⟩, ⟨t, getL_put_same _ _ _ _ _ ⟨_, h2⟩⟩, ⟨t3, getL_put_ne (by decide) _ _ _ _ ⟨_, h2⟩ _ h3⟩, by rw [putL_len _ _ _ _ _ ⟨_, h2⟩]; exact h4⟩
theorem EsIs.setY {es : List DictEntry} {c : Cel} (h : EsIs es c) (hsh : Int) (key : Value) (p : Int) (t : Tok) : EsIs (putL (Str.ofString "y_offset") hsh key (.int p t) es) { c with y := p } := by
  obtain ⟨⟨t1, h1⟩, ⟨t2, h2⟩, ⟨t3, h3⟩, h4⟩ := h
  exact ⟨⟨t1, getL_put_ne (by decide) _ _ _ _ ⟨_, h3⟩ _ h1⟩, ⟨t2, getL_put_ne (by decide) _ _ _ _ ⟨_, h3⟩ _ h2⟩, ⟨t, getL_put_same _ _ _ _ _ ⟨_, h3⟩⟩, by rw [putL_len _ _ _ _ _ ⟨_, h3⟩]; exact h4⟩

/-- the row: the list object r, its Infos (object, dict) in ax, their fields in cs -/
structure RowIn (r : Addr) (ax : List (Addr × Addr)) (cs : List Cel) (news : Led) : Prop where
  lst : ∃ e, (r, listOf (ax.map fun p => Value.ref p.1).toArray e) ∈ news
  len : cs.length = ax.length
  small : ax.length ≤ 7
  nodup : (ax.map (·.2)).Nodup
  obj : ∀ (i : Nat) (p : Addr × Addr), ax[i]? = some p → (p.1, instObj 92 p.2) ∈ news
  dic : ∀ (i : Nat) (p : Addr × Addr) (c : Cel), ax[i]? = some p → cs[i]? = some c → ∃ es n, (p.2, dictOf es n) ∈ news ∧ EsIs es c

theorem RowIn.sub {r : Addr} {ax : List (Addr × Addr)} {cs : List Cel} {l l' : Led} (R : RowIn r ax cs l) (h : ∀ p ∈ l, p ∈ l') : RowIn r ax cs l' := by
  obtain ⟨⟨e, he⟩, h2, h3, h4, h5, h6⟩ := R
  exact ⟨⟨e, h _ he⟩, h2, h3, h4, fun i p hp => h _ (h5 i p hp), fun i p c hp hc => let ⟨es, n, a, b⟩ := h6 i p c hp hc; ⟨es, n, h _ a, b⟩⟩
/-- entries at another address may change -/
theorem RowIn.but {r d : Addr} {ax : List (Addr × Addr)} {cs : List Cel} {h₀ h : Heap} {L : Addr} {l l' : Led} {o : Obj} (R : RowIn r ax cs l) (N : News h₀ L h l) (hd : (d, o) ∈ l) (hdc : o.cls ≠ .type "dict") (hdi : o.cls ≠ .ref 92) (hr : r ≠ d)
    (k : ∀ p ∈ l, p.1 ≠ d → p ∈ l') : RowIn r ax cs l' := by
  obtain ⟨⟨e, he⟩, h2, h3, h4, h5, h6⟩ := R
  refine ⟨⟨e, k _ he hr⟩, h2, h3, h4, fun i p hp => k _ (h5 i p hp) fun q => ?_, fun i p c hp hc => ?_⟩
  · have := h5 i p hp
    rw [show (p.1, instObj 92 p.2) = (d, instObj 92 p.2) from by rw [← q]] at this
    exact hdi (by rw [news_uniq N hd this])
  · obtain ⟨es, n, a, b⟩ := h6 i p c hp hc
    refine ⟨es, n, k _ a fun q => ?_, b⟩
    have q' : p.2 = d := q
    rw [q'] at a
    exact hdc (by rw [news_uniq N hd a])

/-- the address a is none of the row's -/
structure RowAddr (r : Addr) (ax : List (Addr × Addr)) (a : Addr) : Prop where
  r : r ≠ a
  x : ∀ (i : Nat) (p : Addr × Addr), ax[i]? = some p → p.1 ≠ a ∧ p.2 ≠ a
theorem RowIn.cell {r : Addr} {ax : List (Addr × Addr)} {cs : List Cel} {l : Led} (R : RowIn r ax cs l) {i : Nat} {p : Addr × Addr} (hp : ax[i]? = some p) : ∃ c, cs[i]? = some c := by
  have h1 := (List.getElem?_eq_some_iff.mp hp).1
  exact ⟨_, List.getElem?_eq_getElem (R.len ▸ h1)⟩
theorem RowIn.addr {r a : Addr} {ax : List (Addr × Addr)} {cs : List Cel} {l : Led} (R : RowIn r ax cs l) (h : ∀ p ∈ l, p.1 ≠ a) : RowAddr r ax a := by
  obtain ⟨e, he⟩ := R.lst
  refine ⟨h _ he, fun i p hp => ?_⟩
  obtain ⟨c, hc⟩ := R.cell hp
  obtain ⟨es, n, a', _⟩ := R.dic i p c hp hc
  exact ⟨h _ (R.obj i p hp), h _ a'⟩
theorem RowIn.away {r a : Addr} {ax : List (Addr × Addr)} {cs : List Cel} {l l' : Led} (R : RowIn r ax cs l) (A : RowAddr r ax a) (k : ∀ p ∈ l, p.1 ≠ a → p ∈ l') : RowIn r ax cs l' := by
  obtain ⟨⟨e, he⟩, h2, h3, h4, h5, h6⟩ := R
  exact ⟨⟨e, k _ he A.r⟩, h2, h3, h4, fun i p hp => k _ (h5 i p hp) (A.x i p hp).1, fun i p c hp hc => let ⟨es, n, x, y⟩ := h6 i p c hp hc; ⟨es, n, k _ x (A.x i p hp).2, y⟩⟩
/-- the ledger without the entry at a -/
def dropL (a : Addr) (l : Led) : Led := l.filter fun p => decide (p.1 ≠ a)
theorem mem_dropL {a : Addr} {l : Led} {p : Addr × Obj} (h : p ∈ l) (hn : p.1 ≠ a) : p ∈ dropL a l := List.mem_filter.mpr ⟨h, by simpa using hn⟩
theorem of_dropL {a : Addr} {l : Led} {p : Addr × Obj} (h : p ∈ dropL a l) : p ∈ l ∧ p.1 ≠ a := ⟨(List.mem_filter.mp h).1, by simpa using (List.mem_filter.mp h).2⟩

theorem dat3_inv {tl : Led} {v : Value} {t : Nat × Int × Int} (h : DatIn tl v (dat3 t)) : ∃ a n t1 t2 t3, v = .ref a ∧ (a, ({ cls := .type "tuple", data := .seq #[.int t.1 t1, .int t.2.1 t2, .int t.2.2 t3] n } : Obj)) ∈ tl := by
  cases h with
  | @tuple a vs n ds hm hd =>
    cases hd with
    | cons h1 hd =>
      cases hd with
      | cons h2 hd =>
        cases hd with
        | cons h3 hd =>
          cases hd
          cases h1; cases h2; cases h3
          exact ⟨a, n, _, _, _, rfl, hm⟩
theorem k92_ga (P : Params) : findIn (hd.heap_39 P) (.ref 92) "__getattribute__" = some (some (.builtin "object.__getattribute__")) := by k_is
theorem k92_gg (P : Params) : findIn (hd.heap_39 P) (.ref 92) "__getattr__" = some none := by k_is
theorem k92_sa (P : Params) : findIn (hd.heap_39 P) (.ref 92) "__setattr__" = some (some (.builtin "object.__setattr__")) := by k_is
theorem k92_po (P : Params) : plainOver (hd.heap_39 P) 92 = true := by k_is
theorem k92_hd (P : Params) : hasDictIn (hd.heap_39 P) 92 = true := by k_is
theorem k92_tp (P : Params) : takerIn (hd.heap_39 P) 92 (Str.ofString "parent") = some none := by k_is
theorem k92_tb (P : Params) : takerIn (hd.heap_39 P) 92 (Str.ofString "bond") = some none := by k_is
theorem k92_ty (P : Params) : takerIn (hd.heap_39 P) 92 (Str.ofString "y_offset") = some none := by k_is
theorem k92_fp (P : Params) : findIn (hd.heap_39 P) (.ref 92) (Str.ofString "parent") = some none := by k_is
theorem k92_fb (P : Params) : findIn (hd.heap_39 P) (.ref 92) (Str.ofString "bond") = some none := by k_is
theorem k92_fy (P : Params) : findIn (hd.heap_39 P) (.ref 92) (Str.ofString "y_offset") = some none := by k_is
theorem k92_gp (P : Params) : plainGet (hd.heap_39 P) 92 (Str.ofString "parent") = true := by k_is

end Mine

namespace Mine

abbrev BONDS : Str := Str.ofString "cursive"
/-- a forest: bonds, bounds, no ring -/
structure Wf (cs : List Cel) : Prop where
  bond : ∀ (i : Nat) c, cs[i]? = some c → c.par ≠ 0 → c.bond = BONDS
  inb : ∀ (i : Nat) c, cs[i]? = some c → c.par ≠ 0 → 0 ≤ (i : Int) + c.par ∧ (i : Int) + c.par < cs.length
  rank : ∃ rk : Nat → Nat, ∀ (i : Nat) c, cs[i]? = some c → c.par ≠ 0 → rk ((i : Int) + c.par).toNat < rk i

/-- j hangs above i -/
inductive Up (cs : List Cel) (i : Nat) : Nat → Prop
  | refl : Up cs i i
  | snoc {j k : Nat} {c : Cel} : Up cs i j → cs[j]? = some c → c.par ≠ 0 → (k : Int) = (j : Int) + c.par → Up cs i k

def loose (c : Cel) : Cel := { c with par := 0, bond := Str.ofString "" }
def cutc (cs : List Cel) (i : Nat) : List Cel := match cs[i]? with
  | some c => if c.par ≠ 0 then cs.set i (loose c) else cs
  | none => cs
def applyL (cs : List Cel) (l : List (Nat × Int × Int)) : List Cel := l.foldl (fun cs t => cs.set t.1 ⟨t.2.1, BONDS, t.2.2⟩) cs
/-- what break_ring leaves when it ends at j -/
def brkAt (cs : List Cel) (j : Nat) : List Cel := match cs[j]? with
  | some c => if c.par ≠ 0 then cs.set j ⟨0, Str.ofString "", 0⟩ else cs
  | none => cs

theorem brkAt_ne {cs : List Cel} {j : Nat} {c : Cel} (hc : cs[j]? = some c) (hp : c.par ≠ 0) : brkAt cs j = cs.set j ⟨0, Str.ofString "", 0⟩ := by
  unfold brkAt; rw [hc]; simp only [ne_eq, hp, not_false_eq_true, if_true]
theorem brkAt_eq {cs : List Cel} {j : Nat} {c : Cel} (hc : cs[j]? = some c) (hp : c.par = 0) : brkAt cs j = cs := by
  unfold brkAt; rw [hc]; simp [hp]
theorem cutc_ne {cs : List Cel} {j : Nat} {c : Cel} (hc : cs[j]? = some c) (hp : c.par ≠ 0) : cutc cs j = cs.set j (loose c) := by
  unfold cutc; rw [hc]; simp only [ne_eq, hp, not_false_eq_true, if_true]
theorem cutc_eq {cs : List Cel} {j : Nat} {c : Cel} (hc : cs[j]? = some c) (hp : c.par = 0) : cutc cs j = cs := by
  unfold cutc; rw [hc]; simp [hp]
theorem Up.lt {cs : List Cel} (W : Wf cs) {i j : Nat} (h : Up cs i j) (hi : i < cs.length) : j < cs.length := by
  induction h with
  | refl => exact hi
  | snoc _ hc hp hk _ =>
    have := W.inb _ _ hc hp
    omega

/-- the trace of turn_chain's first loop -/
inductive TS (cs : List Cel) (ci pi : Nat) : Nat → List Cel → List (Nat × Int × Int) → Prop
  | start : TS cs ci pi ci cs []
  | step {here k : Nat} {ck : List Cel} {lk : List (Nat × Int × Int)} {c : Cel} : TS cs ci pi here ck lk → ck[here]? = some c → c.par ≠ 0 → (here : Int) + c.par ≠ pi → (k : Int) = (here : Int) + c.par →
      TS cs ci pi k (ck.set here (loose c)) (lk ++ [(k, -c.par, -c.y)])

structure TSF (cs : List Cel) (rk : Nat → Nat) (ci here : Nat) (ck : List Cel) (lk : List (Nat × Int × Int)) : Prop where
  len : ck.length = cs.length
  lt : here < cs.length
  low : ∀ i, rk i ≤ rk here → ck[i]? = cs[i]?
  places : ∀ t ∈ lk, t.1 < cs.length ∧ rk here ≤ rk t.1
  nodup : (lk.map (·.1)).Nodup
  up : Up cs ci here
theorem TS.facts {cs : List Cel} {ci pi here : Nat} {ck : List Cel} {lk : List (Nat × Int × Int)} (W : Wf cs) {rk : Nat → Nat} (hrk : ∀ (i : Nat) c, cs[i]? = some c → c.par ≠ 0 → rk ((i : Int) + c.par).toNat < rk i)
    (hci : ci < cs.length) (h : TS cs ci pi here ck lk) : TSF cs rk ci here ck lk := by
  induction h with
  | start => exact ⟨rfl, hci, fun _ _ => rfl, fun _ h => (nomatch h), List.nodup_nil, .refl⟩
  | @step here k ck lk c _ hc hp hn hk ih =>
    obtain ⟨h1, h2, h3, h4, h5, h6⟩ := ih
    have hc' : cs[here]? = some c := by rw [← h3 here (Nat.le_refl _)]; exact hc
    have hb := W.inb _ _ hc' hp
    have hr := hrk _ _ hc' hp
    rw [← hk, Int.toNat_natCast] at hr
    have hklt : k < cs.length := by omega
    refine ⟨by simpa using h1, hklt, fun i hi => ?_, fun t ht => ?_, ?_, h6.snoc hc' hp hk⟩
    · have hne : here ≠ i := fun q => by subst q; omega
      rw [List.getElem?_set_ne hne]
      exact h3 i (by omega)
    · rcases List.mem_append.mp ht with q | q
      · have := h4 t q
        exact ⟨this.1, by omega⟩
      · rw [List.mem_singleton.mp q]
        exact ⟨hklt, Nat.le_refl _⟩
    · rw [List.map_append]
      refine List.nodup_append.mpr ⟨h5, by simp, ?_⟩
      intro x hx y hy
      obtain ⟨t, ht, rfl⟩ := List.mem_map.mp hx
      have := h4 t ht
      have e : y = k := by simpa using hy
      rw [e]
      intro q
      rw [q] at this
      omega
theorem nodup_len : ∀ (n : Nat) (l : List Nat), l.Nodup → (∀ x ∈ l, x < n) → l.length ≤ n
  | 0, [], _, _ => Nat.le_refl _
  | 0, x :: _, _, h => absurd (h x (.head _)) (Nat.not_lt_zero _)
  | n + 1, l, hd, h => by
    have h1 := nodup_len n (l.erase n) (hd.erase n) (fun x hx => by
      have := h x (List.mem_of_mem_erase hx)
      have hne : x ≠ n := fun q => by
        rw [q] at hx
        exact (List.Nodup.mem_erase_iff hd).mp hx |>.1 rfl
      omega)
    by_cases q : n ∈ l
    · rw [List.length_erase_of_mem q] at h1; omega
    · rw [List.erase_of_not_mem q] at h1; omega
theorem TSF.small {cs : List Cel} {rk : Nat → Nat} {ci here : Nat} {ck : List Cel} {lk : List (Nat × Int × Int)} (h : TSF cs rk ci here ck lk) : lk.length ≤ cs.length := by
  have := nodup_len cs.length (lk.map (·.1)) h.nodup (fun x hx => by
    obtain ⟨t, ht, rfl⟩ := List.mem_map.mp hx
    exact (h.places t ht).1)
  simpa using this
end Mine

namespace Mine

abbrev Edge := Nat × Nat × Int
def normE (i : Nat) (c : Cel) : Edge := if ((i : Int) + c.par).toNat < i then (((i : Int) + c.par).toNat, i, c.y) else (i, ((i : Int) + c.par).toNat, -c.y)
def EdAt (cs : List Cel) (i : Nat) (e : Edge) : Prop := ∃ c, cs[i]? = some c ∧ c.par ≠ 0 ∧ e = normE i c
def Ed (cs : List Cel) (e : Edge) : Prop := ∃ i, EdAt cs i e
def nb (cs : List Cel) : Nat := cs.countP fun c => decide (c.par ≠ 0)

inductive Conn (E : Edge → Prop) (a : Nat) : Nat → Prop
  | refl : Conn E a a
  | fwd {b : Nat} {e : Edge} : Conn E a b → E e → e.1 = b → Conn E a e.2.1
  | bwd {b : Nat} {e : Edge} : Conn E a b → E e → e.2.1 = b → Conn E a e.1

theorem Up.trans {cs : List Cel} {i j k : Nat} (h : Up cs i j) (g : Up cs j k) : Up cs i k := by
  induction g with
  | refl => exact h
  | snoc _ hc hp hk ih => exact ih.snoc hc hp hk
theorem Up.one {cs : List Cel} {i k : Nat} {c : Cel} (hc : cs[i]? = some c) (hp : c.par ≠ 0) (hk : (k : Int) = (i : Int) + c.par) : Up cs i k := Up.snoc .refl hc hp hk
theorem Up.head {cs : List Cel} {i j : Nat} (h : Up cs i j) : i = j ∨ ∃ (c : Cel) (k : Nat), cs[i]? = some c ∧ c.par ≠ 0 ∧ (k : Int) = (i : Int) + c.par ∧ Up cs k j := by
  induction h with
  | refl => exact .inl rfl
  | @snoc j k c h hc hp hk ih =>
    rcases ih with rfl | ⟨c', k', a, b, d, u⟩
    · exact .inr ⟨c, k, hc, hp, hk, .refl⟩
    · exact .inr ⟨c', k', a, b, d, u.snoc hc hp hk⟩
theorem Up.rank {cs : List Cel} {rk : Nat → Nat} (hrk : ∀ (i : Nat) c, cs[i]? = some c → c.par ≠ 0 → rk ((i : Int) + c.par).toNat < rk i) {i j : Nat} (h : Up cs i j) : i = j ∨ rk j < rk i := by
  induction h with
  | refl => exact .inl rfl
  | @snoc j k c _ hc hp hk ih =>
    have := hrk j c hc hp
    rw [← hk, Int.toNat_natCast] at this
    rcases ih with rfl | ih
    · exact .inr this
    · exact .inr (by omega)
theorem Up.acyc {cs : List Cel} (W : Wf cs) {i k : Nat} {c : Cel} (hc : cs[i]? = some c) (hp : c.par ≠ 0) (hk : (k : Int) = (i : Int) + c.par) (h : Up cs k i) : False := by
  obtain ⟨rk, hrk⟩ := W.rank
  have := hrk i c hc hp
  rw [← hk, Int.toNat_natCast] at this
  rcases h.rank hrk with rfl | q <;> omega
/-- where x does not reach k, a change at k is not seen -/
theorem Up.set_of {cs : List Cel} {k : Nat} {v : Cel} {x y : Nat} (h : Up cs x y) (hn : ¬ Up cs x k) : Up (cs.set k v) x y := by
  induction h with
  | refl => exact .refl
  | @snoc j l c hj hc hp hk ih =>
    refine ih.snoc (c := c) ?_ hp hk
    rw [List.getElem?_set_ne]
    · exact hc
    · rintro rfl; exact hn hj
theorem Up.of_set {cs : List Cel} {k : Nat} {v : Cel} {x y : Nat} (h : Up (cs.set k v) x y) : Up cs x y ∨ Up cs x k := by
  induction h with
  | refl => exact .inl .refl
  | @snoc j l c hj hc hp hk ih =>
    rcases ih with ih | ih
    · by_cases q : k = j
      · exact .inr (q ▸ ih)
      · rw [List.getElem?_set_ne q] at hc
        exact .inl (ih.snoc hc hp hk)
    · exact .inr ih
/-- the path up to k is kept whatever stands at k -/
theorem Up.set_to {cs : List Cel} {k : Nat} {v : Cel} {x y : Nat} (h : Up cs x y) (hy : y = k) (W : Wf cs) : Up (cs.set k v) x k := by
  subst hy
  obtain ⟨rk, hrk⟩ := W.rank
  have gen : ∀ {z}, Up cs x z → rk y < rk z ∨ z = y → Up (cs.set y v) x z := by
    intro z hz
    induction hz with
    | refl => intro _; exact .refl
    | @snoc j l c hj hc hp hk ih =>
      intro hlt
      have h1 := hrk j c hc hp
      rw [← hk, Int.toNat_natCast] at h1
      have h2 : rk y < rk j := by rcases hlt with q | q; omega; rw [q] at h1; exact h1
      refine (ih (.inl h2)).snoc (c := c) ?_ hp hk
      rw [List.getElem?_set_ne]
      · exact hc
      · rintro rfl; omega
  exact gen h (.inr rfl)

open Classical in
/-- k is hung on y, that does not hang on k -/
theorem wf_link {cs : List Cel} (W : Wf cs) {k y : Nat} {v : Cel} (hk : k < cs.length) (hy : y < cs.length) (hv : v.par = (y : Int) - (k : Int)) (hb : v.bond = BONDS) (hn : ¬ Up cs y k) : Wf (cs.set k v) := by
  obtain ⟨rk, hrk⟩ := W.rank
  refine ⟨fun i c hc hp => ?_, fun i c hc hp => ?_, fun z => if Up cs z k then rk z + rk y + 1 else rk z, fun i c hc hp => ?_⟩
  · by_cases q : k = i
    · subst q; rw [List.getElem?_set_self hk] at hc; cases hc; exact hb
    · rw [List.getElem?_set_ne q] at hc; exact W.bond i c hc hp
  · rw [List.length_set]
    by_cases q : k = i
    · subst q; rw [List.getElem?_set_self hk] at hc; cases hc; omega
    · rw [List.getElem?_set_ne q] at hc; exact W.inb i c hc hp
  · by_cases q : k = i
    · subst q
      rw [List.getElem?_set_self hk] at hc; cases hc
      have e : ((k : Int) + v.par).toNat = y := by omega
      simp only [e]
      rw [if_neg hn, if_pos Up.refl]
      omega
    · rw [List.getElem?_set_ne q] at hc
      have hb := W.inb i c hc hp
      have e : ((((i : Int) + c.par).toNat : Nat) : Int) = (i : Int) + c.par := by omega
      have h1 := hrk i c hc hp
      have iff : Up cs i k ↔ Up cs ((i : Int) + c.par).toNat k := by
        constructor
        · intro h
          rcases h.head with r | ⟨c', k', a, _, d, u⟩
          · exact absurd r.symm q
          · rw [hc] at a; cases a
            have : k' = ((i : Int) + c.par).toNat := by omega
            exact this ▸ u
        · intro h; exact (Up.one hc hp e).trans h
      show (if Up cs ((i : Int) + c.par).toNat k then rk ((i : Int) + c.par).toNat + rk y + 1 else rk ((i : Int) + c.par).toNat) < (if Up cs i k then rk i + rk y + 1 else rk i)
      by_cases u : Up cs i k
      · rw [if_pos u, if_pos (iff.mp u)]; omega
      · rw [if_neg u, if_neg fun w => u (iff.mpr w)]; exact h1
/-- k is let go -/
theorem wf_cut {cs : List Cel} (W : Wf cs) {k : Nat} {v : Cel} (hv : v.par = 0) : Wf (cs.set k v) := by
  have key : ∀ (i : Nat) c, (cs.set k v)[i]? = some c → c.par ≠ 0 → cs[i]? = some c := by
    intro i c hc hp
    by_cases q : k = i
    · subst q
      have hk : k < cs.length := by
        have := (List.getElem?_eq_some_iff.mp hc).1
        simpa using this
      rw [List.getElem?_set_self hk] at hc; cases hc
      exact absurd hv hp
    · rw [List.getElem?_set_ne q] at hc; exact hc
  obtain ⟨rk, hrk⟩ := W.rank
  exact ⟨fun i c hc hp => W.bond i c (key i c hc hp) hp, fun i c hc hp => by rw [List.length_set]; exact W.inb i c (key i c hc hp) hp, rk, fun i c hc hp => hrk i c (key i c hc hp) hp⟩

theorem EdAt.set_ne {cs : List Cel} {k i : Nat} {v : Cel} {e : Edge} (h : k ≠ i) : EdAt (cs.set k v) i e ↔ EdAt cs i e := by
  unfold EdAt
  rw [List.getElem?_set_ne h]
theorem EdAt.set_self {cs : List Cel} {k : Nat} {v : Cel} {e : Edge} (h : k < cs.length) : EdAt (cs.set k v) k e ↔ v.par ≠ 0 ∧ e = normE k v := by
  unfold EdAt
  rw [List.getElem?_set_self h]
  constructor
  · rintro ⟨c, hc, hp, he⟩; cases hc; exact ⟨hp, he⟩
  · rintro ⟨hp, he⟩; exact ⟨v, rfl, hp, he⟩
theorem EdAt.uniq {cs : List Cel} (W : Wf cs) {i j : Nat} {e : Edge} (h : EdAt cs i e) (g : EdAt cs j e) : i = j := by
  obtain ⟨c, hc, hp, rfl⟩ := h
  obtain ⟨c', hc', hp', he⟩ := g
  by_cases q : i = j
  · exact q
  · exfalso
    have b1 := W.inb _ _ hc hp
    have b2 := W.inb _ _ hc' hp'
    obtain ⟨rk, hrk⟩ := W.rank
    have r1 := hrk _ _ hc hp
    have r2 := hrk _ _ hc' hp'
    have e2 : ((i : Int) + c.par).toNat = j ∧ ((j : Int) + c'.par).toNat = i := by
      unfold normE at he
      split at he <;> split at he
      · have h1 := congrArg (·.2.1) he; simp only at h1; exact absurd h1 q
      · have h1 := congrArg (·.1) he; have h2 := congrArg (·.2.1) he; simp only at h1 h2; omega
      · have h1 := congrArg (·.1) he; have h2 := congrArg (·.2.1) he; simp only at h1 h2; omega
      · have h1 := congrArg (·.1) he; simp only at h1; exact absurd h1 q
    rw [e2.1] at r1
    rw [e2.2] at r2
    omega
theorem nb_set {cs : List Cel} {k : Nat} {c v : Cel} (hc : cs[k]? = some c) : nb (cs.set k v) + (if c.par ≠ 0 then 1 else 0) = nb cs + (if v.par ≠ 0 then 1 else 0) := by
  unfold nb
  obtain ⟨hk, rfl⟩ := List.getElem?_eq_some_iff.mp hc
  rw [List.countP_set hk]
  have hle : (if decide (cs[k].par ≠ 0) = true then 1 else 0) ≤ cs.countP fun c => decide (c.par ≠ 0) := by
    by_cases q : cs[k].par = 0
    · simp [q]
    · simp only [ne_eq, q, not_false_eq_true, decide_true, if_true]
      exact List.countP_pos_iff.mpr ⟨cs[k], List.getElem_mem hk, by simp [q]⟩
  by_cases q : cs[k].par = 0 <;> by_cases q' : v.par = 0 <;> simp_all <;> omega

/-- what turn_chain leaves -/
structure GS (cs : List Cel) (ci here : Nat) (R : List Cel) : Prop where
  len : R.length = cs.length
  wf : Wf R
  root : ∀ c, R[ci]? = some c → c.par = 0
  reach : Up R here ci
  edges : ∀ e, Ed R e ↔ ∃ i, i ≠ here ∧ EdAt cs i e
  count : ∀ c, cs[here]? = some c → nb R + (if c.par ≠ 0 then 1 else 0) = nb cs
  apart : ∀ (c : Cel) (k : Nat), cs[here]? = some c → c.par ≠ 0 → (k : Int) = (here : Int) + c.par → ¬ Up R k ci ∧ R[k]? = cs[k]?
theorem applyL_len : ∀ (l : List (Nat × Int × Int)) (cs : List Cel), (applyL cs l).length = cs.length
  | [], _ => rfl
  | t :: l, cs => by
    show (applyL (cs.set t.1 _) l).length = _
    rw [applyL_len l]; simp
theorem applyL_off : ∀ (l : List (Nat × Int × Int)) (cs : List Cel) (k : Nat), (∀ t ∈ l, t.1 ≠ k) → (applyL cs l)[k]? = cs[k]?
  | [], _, _, _ => rfl
  | t :: l, cs, k, h => by
    show (applyL (cs.set t.1 _) l)[k]? = _
    rw [applyL_off l _ k fun u hu => h u (.tail _ hu), List.getElem?_set_ne (h t (.head _))]
theorem applyL_snoc (l : List (Nat × Int × Int)) (cs : List Cel) (t : Nat × Int × Int) : applyL cs (l ++ [t]) = (applyL cs l).set t.1 ⟨t.2.1, BONDS, t.2.2⟩ := by
  unfold applyL; rw [List.foldl_append]; rfl
theorem applyL_over : ∀ (l : List (Nat × Int × Int)) (cs : List Cel) (k : Nat) (v w : Cel), (applyL (cs.set k v) l).set k w = (applyL cs l).set k w
  | [], cs, k, v, w => by show (cs.set k v).set k w = cs.set k w; rw [List.set_set]
  | t :: l, cs, k, v, w => by
    show (applyL ((cs.set k v).set t.1 _) l).set k w = (applyL (cs.set t.1 _) l).set k w
    by_cases q : k = t.1
    · subst q; rw [List.set_set]
    · rw [List.set_comm _ _ q]
      exact applyL_over l _ k v w
theorem normE_back {here k : Nat} {c : Cel} (hk : (k : Int) = (here : Int) + c.par) (hp : c.par ≠ 0) : normE k ⟨-c.par, BONDS, -c.y⟩ = normE here c := by
  unfold normE
  have e1 : ((here : Int) + c.par).toNat = k := by omega
  have e2 : ((k : Int) + -c.par).toNat = here := by omega
  simp only [e1, e2]
  by_cases q : k < here
  · rw [if_pos q, if_neg (by omega)]; simp
  · rw [if_neg q, if_pos (by omega)]

theorem TS.good {cs : List Cel} {ci pi here : Nat} {ck : List Cel} {lk : List (Nat × Int × Int)} (W : Wf cs) (hci : ci < cs.length) (h : TS cs ci pi here ck lk) : GS cs ci here (applyL (cutc ck here) lk) := by
  obtain ⟨rk, hrk⟩ := W.rank
  induction h with
  | start =>
    obtain ⟨c, hc⟩ : ∃ c, cs[ci]? = some c := ⟨_, List.getElem?_eq_getElem hci⟩
    show GS cs ci ci (cutc cs ci)
    by_cases hp : c.par = 0
    · rw [cutc_eq hc hp]
      refine ⟨rfl, W, fun c' hc' => by rw [hc] at hc'; cases hc'; exact hp, .refl, fun e => ⟨fun ⟨i, hi⟩ => ⟨i, ?_, hi⟩, fun ⟨i, _, hi⟩ => ⟨i, hi⟩⟩, fun c' hc' => ?_, fun c' k hc' hp' => ?_⟩
      · rintro rfl
        obtain ⟨c', hc', hp', _⟩ := hi
        rw [hc] at hc'; cases hc'; exact hp' hp
      · rw [hc] at hc'; cases hc'; simp [hp]
      · rw [hc] at hc'; cases hc'; exact absurd hp hp'
    · rw [cutc_ne hc hp]
      have hl : (loose c).par = 0 := rfl
      refine ⟨by simp, wf_cut W hl, fun c' hc' => by rw [List.getElem?_set_self hci] at hc'; cases hc'; rfl, .refl, fun e => ⟨fun ⟨i, hi⟩ => ?_, fun ⟨i, hn, hi⟩ => ⟨i, (EdAt.set_ne (Ne.symm hn)).mpr hi⟩⟩, fun c' hc' => ?_, fun c' k hc' hp' hk => ⟨fun u => ?_, ?_⟩⟩
      · by_cases q : ci = i
        · subst q; exact absurd hl ((EdAt.set_self hci).mp hi).1
        · exact ⟨i, Ne.symm q, (EdAt.set_ne q).mp hi⟩
      · rw [hc] at hc'; cases hc'
        have := nb_set (v := loose c) hc
        rw [if_neg (show ¬ (loose c).par ≠ 0 from fun q => q hl)] at this
        exact this
      · rcases u.of_set with u | u <;> exact Up.acyc W hc' hp' hk u
      · rw [List.getElem?_set_ne]
        rintro rfl
        omega
  | @step here k ck lk c hT hc hp hn hk ih =>
    have fs := TS.facts W hrk hci hT
    have hc0 : cs[here]? = some c := by rw [← fs.low here (Nat.le_refl _)]; exact hc
    have hb := W.inb _ _ hc0 hp
    have hkl : k < cs.length := by omega
    have hrkk := hrk _ _ hc0 hp
    rw [← hk, Int.toNat_natCast] at hrkk
    have hne : here ≠ k := fun q => by rw [q] at hrkk; omega
    rw [applyL_snoc]
    have e0 : (applyL (cutc (ck.set here (loose c)) k) lk).set k ⟨-c.par, BONDS, -c.y⟩ = (applyL (cutc ck here) lk).set k ⟨-c.par, BONDS, -c.y⟩ := by
      rw [cutc_ne hc hp]
      unfold cutc
      split
      · split
        · exact applyL_over _ _ _ _ _
        · rfl
      · rfl
    show GS cs ci k ((applyL (cutc (ck.set here (loose c)) k) lk).set k ⟨-c.par, BONDS, -c.y⟩)
    rw [e0]
    have hlow : ∀ i, rk i < rk here → (applyL (cutc ck here) lk)[i]? = cs[i]? := by
      intro i hi
      rw [applyL_off _ _ _ fun t ht q => by have := (fs.places t ht).2; rw [q] at this; omega, cutc_ne hc hp, List.getElem?_set_ne (fun q => by rw [q] at hi; omega)]
      exact fs.low i (by omega)
    generalize applyL (cutc ck here) lk = R at ih hlow
    obtain ⟨g1, g2, g3, g4, g5, g6, g7⟩ := ih
    obtain ⟨hap, hRk⟩ := g7 c k hc0 hp hk
    have hkR : k < R.length := by rw [g1]; exact hkl
    have hci' : ci ≠ k := fun q => hap (q ▸ .refl)
    have hnk : ¬ Up R here k := by
      intro u
      -- here reaches ci, and k: one of the two lies above the other
      have lin : ∀ {z}, Up R here z → Up R z k ∨ Up R k z := by
        intro z hz
        induction hz with
        | refl => exact .inl u
        | @snoc j l c' hj hc' hp' hk' ih =>
          rcases ih with q | q
          · rcases q.head with rfl | ⟨c2, k2, a, b, d, v⟩
            · exact .inr (Up.one hc' hp' hk')
            · rw [hc'] at a; cases a
              have : k2 = l := by omega
              exact .inl (this ▸ v)
          · exact .inr (q.snoc hc' hp' hk')
      rcases lin g4 with q | q
      · rcases q.head with q | ⟨c2, k2, a, b, _, _⟩
        · exact hci' q
        · exact b (g3 _ a)
      · exact hap q
    obtain ⟨ck0, hck0⟩ : ∃ c, cs[k]? = some c := ⟨_, List.getElem?_eq_getElem hkl⟩
    have hvp : (⟨-c.par, BONDS, -c.y⟩ : Cel).par ≠ 0 := by show -c.par ≠ 0; omega
    have hh : here < cs.length := fs.lt
    refine ⟨by simpa using g1, wf_link g2 hkR (by rw [g1]; exact hh) (by show -c.par = _; omega) rfl hnk, fun c' hc' => ?_, ?_, fun e => ?_, fun c' hc' => ?_, fun c' k2 hc' hp' hk2 => ⟨fun u => ?_, ?_⟩⟩
    · rw [List.getElem?_set_ne (Ne.symm hci')] at hc'; exact g3 _ hc'
    · refine (Up.one (c := ⟨-c.par, BONDS, -c.y⟩) (List.getElem?_set_self hkR) hvp (k := here) (by show (here : Int) = (k : Int) + -c.par; omega)).trans (g4.set_of hnk)
    · constructor
      · rintro ⟨i, hi⟩
        by_cases q : k = i
        · subst q
          obtain ⟨_, he⟩ := (EdAt.set_self hkR).mp hi
          exact ⟨here, hne, c, hc0, hp, by rw [he, normE_back hk hp]⟩
        · have hi' := (EdAt.set_ne q).mp hi
          obtain ⟨j, hj, hje⟩ := (g5 e).mp ⟨i, hi'⟩
          refine ⟨j, ?_, hje⟩
          rintro rfl
          have : EdAt R j e := by
            obtain ⟨c2, a, b, d⟩ := hje
            exact ⟨c2, by rw [hRk]; exact a, b, d⟩
          exact q (EdAt.uniq g2 this hi')
      · rintro ⟨i, hi, hie⟩
        by_cases q : i = here
        · subst q
          obtain ⟨c2, a, b, d⟩ := hie
          rw [hc0] at a; cases a
          exact ⟨k, (EdAt.set_self hkR).mpr ⟨hvp, by rw [d, normE_back hk hp]⟩⟩
        · obtain ⟨j, hj⟩ := (g5 e).mpr ⟨i, q, hie⟩
          refine ⟨j, (EdAt.set_ne ?_).mpr hj⟩
          rintro rfl
          have : EdAt cs k e := by
            obtain ⟨c2, a, b, d⟩ := hj
            exact ⟨c2, by rw [← hRk]; exact a, b, d⟩
          exact hi (EdAt.uniq W hie this)
    · rw [hck0] at hc'; cases hc'
      have h1 := nb_set (v := ⟨-c.par, BONDS, -c.y⟩) (hRk.trans hck0)
      have h2 := g6 _ hc0
      rw [if_pos hvp] at h1
      rw [if_pos hp] at h2
      omega
    · rw [hck0] at hc'; cases hc'
      have hRc := hRk.trans hck0
      rcases u.of_set with u | u
      · exact hap ((Up.one hRc hp' hk2).trans u)
      · exact Up.acyc g2 hRc hp' hk2 u
    · rw [hck0] at hc'; cases hc'
      have r2 := hrk _ _ hck0 hp'
      rw [← hk2, Int.toNat_natCast] at r2
      rw [List.getElem?_set_ne (fun q => by rw [q] at r2; omega)]
      exact hlow _ (by omega)
end Mine

namespace Mine

theorem Up.lin {cs : List Cel} {x a b : Nat} (ha : Up cs x a) (hb : Up cs x b) : Up cs a b ∨ Up cs b a := by
  induction hb with
  | refl => exact .inr ha
  | @snoc j l c' hj hc' hp' hk' ih =>
    rcases ih with q | q
    · exact .inl (q.snoc hc' hp' hk')
    · rcases q.head with rfl | ⟨c2, k2, a', b', d, v⟩
      · exact .inl (Up.one hc' hp' hk')
      · rw [hc'] at a'; cases a'
        have : k2 = l := by omega
        exact .inr (this ▸ v)
def Root (cs : List Cel) (i : Nat) : Prop := ∀ c, cs[i]? = some c → c.par = 0
theorem Up.of_root {cs : List Cel} {i j : Nat} (h : Up cs i j) (r : Root cs i) : i = j := by
  rcases h.head with q | ⟨c, k, a, b, _⟩
  · exact q
  · exact absurd (r c a) b
theorem Root.uniq {cs : List Cel} {x a b : Nat} (ha : Up cs x a) (hb : Up cs x b) (ra : Root cs a) (rb : Root cs b) : a = b := by
  rcases Up.lin ha hb with q | q
  · exact q.of_root ra
  · exact (q.of_root rb).symm
theorem Conn.trans {E : Edge → Prop} {a b c : Nat} (h : Conn E a b) (g : Conn E b c) : Conn E a c := by
  induction g with
  | refl => exact h
  | fwd _ he hb ih => exact ih.fwd he hb
  | bwd _ he hb ih => exact ih.bwd he hb
theorem Conn.symm {E : Edge → Prop} {a b : Nat} (h : Conn E a b) : Conn E b a := by
  induction h with
  | refl => exact .refl
  | fwd _ he hb ih => exact (Conn.bwd .refl he rfl |>.trans (hb ▸ ih))
  | bwd _ he hb ih => exact (Conn.fwd .refl he rfl |>.trans (hb ▸ ih))
theorem Conn.mono {E E' : Edge → Prop} (hE : ∀ e, E e → E' e) {a b : Nat} (h : Conn E a b) : Conn E' a b := by
  induction h with
  | refl => exact .refl
  | fwd _ he hb ih => exact ih.fwd (hE _ he) hb
  | bwd _ he hb ih => exact ih.bwd (hE _ he) hb
theorem normE_ends {i k : Nat} {c : Cel} (hk : (k : Int) = (i : Int) + c.par) : ((normE i c).1 = i ∧ (normE i c).2.1 = k) ∨ ((normE i c).1 = k ∧ (normE i c).2.1 = i) := by
  have e1 : ((i : Int) + c.par).toNat = k := by omega
  unfold normE
  rw [e1]
  split
  · exact .inr ⟨rfl, rfl⟩
  · exact .inl ⟨rfl, rfl⟩
theorem Conn.step {cs : List Cel} {i k : Nat} {c : Cel} (hc : cs[i]? = some c) (hp : c.par ≠ 0) (hk : (k : Int) = (i : Int) + c.par) : Conn (Ed cs) i k := by
  have he : Ed cs (normE i c) := ⟨i, c, hc, hp, rfl⟩
  rcases normE_ends hk with ⟨h1, h2⟩ | ⟨h1, h2⟩
  · have := Conn.fwd (Conn.refl (E := Ed cs) (a := i)) he h1
    rw [h2] at this; exact this
  · have := Conn.bwd (Conn.refl (E := Ed cs) (a := i)) he h2
    rw [h1] at this; exact this
theorem Up.conn {cs : List Cel} {i j : Nat} (h : Up cs i j) : Conn (Ed cs) i j := by
  induction h with
  | refl => exact .refl
  | snoc _ hc hp hk ih => exact ih.trans (Conn.step hc hp hk)
/-- what hangs together has one root -/
theorem Conn.root {cs : List Cel} (W : Wf cs) {x y : Nat} (h : Conn (Ed cs) x y) : ∀ z, Root cs z → (Up cs x z ↔ Up cs y z) := by
  have step : ∀ {i k : Nat} {c : Cel}, cs[i]? = some c → c.par ≠ 0 → (k : Int) = (i : Int) + c.par → ∀ z, Root cs z → (Up cs i z ↔ Up cs k z) := by
    intro i k c hc hp hk z hz
    constructor
    · intro h
      rcases h.head with q | ⟨c2, k2, a, b, d, u⟩
      · exact absurd (hz c (q ▸ hc)) hp
      · rw [hc] at a; cases a
        have : k2 = k := by omega
        exact this ▸ u
    · intro h; exact (Up.one hc hp hk).trans h
  have edge : ∀ {e : Edge}, Ed cs e → ∀ z, Root cs z → (Up cs e.1 z ↔ Up cs e.2.1 z) := by
    rintro e ⟨i, c, hc, hp, rfl⟩ z hz
    have hb := W.inb _ _ hc hp
    have hk : ((((i : Int) + c.par).toNat : Nat) : Int) = (i : Int) + c.par := by omega
    have st := step hc hp hk z hz
    rcases normE_ends hk with ⟨h1, h2⟩ | ⟨h1, h2⟩
    · rw [h1, h2]; exact st
    · rw [h1, h2]; exact st.symm
  induction h with
  | refl => exact fun _ _ => Iff.rfl
  | fwd _ he hb ih => intro z hz; rw [ih z hz, ← hb]; exact edge he z hz
  | bwd _ he hb ih => intro z hz; rw [ih z hz, ← hb]; exact (edge he z hz).symm

/-- j lies i links above at -/
inductive Steps (cs : List Cel) (a : Nat) : Nat → Nat → Prop
  | zero : Steps cs a 0 a
  | succ {n j k : Nat} {c : Cel} : Steps cs a n j → cs[j]? = some c → c.par ≠ 0 → (k : Int) = (j : Int) + c.par → Steps cs a (n + 1) k
theorem Steps.up {cs : List Cel} {a n j : Nat} (h : Steps cs a n j) : Up cs a j := by
  induction h with
  | zero => exact .refl
  | succ _ hc hp hk ih => exact ih.snoc hc hp hk
theorem Steps.lt {cs : List Cel} (W : Wf cs) {a n j : Nat} (ha : a < cs.length) (h : Steps cs a n j) : n < cs.length := by
  obtain ⟨rk, hrk⟩ := W.rank
  have : ∃ l : List Nat, l.length = n + 1 ∧ l.Nodup ∧ (∀ x ∈ l, x < cs.length ∧ rk j ≤ rk x) := by
    induction h with
    | zero => exact ⟨[a], rfl, by simp, by simpa using ha⟩
    | @succ n j k c hs hc hp hk ih =>
      obtain ⟨l, h1, h2, h3⟩ := ih
      have hr := hrk _ _ hc hp
      rw [← hk, Int.toNat_natCast] at hr
      have hb := W.inb _ _ hc hp
      refine ⟨k :: l, by simp [h1], List.nodup_cons.mpr ⟨fun q => by have := (h3 k q).2; omega, h2⟩, fun x hx => ?_⟩
      rcases List.mem_cons.mp hx with rfl | hx
      · exact ⟨by omega, Nat.le_refl _⟩
      · have := h3 x hx; exact ⟨this.1, by omega⟩
  obtain ⟨l, h1, h2, h3⟩ := this
  have := nodup_len cs.length l h2 fun x hx => (h3 x hx).1
  omega
theorem Steps.at_ {cs : List Cel} (W : Wf cs) {a n j : Nat} (ha : a < cs.length) (h : Steps cs a n j) : ∃ c, cs[j]? = some c := ⟨_, List.getElem?_eq_getElem (h.up.lt W ha)⟩

structure TieOut (cs : List Cel) (ci pi : Nat) (off : Int) (F : List Cel) : Prop where
  len : F.length = cs.length
  wf : Wf F
  at_ : F[ci]? = some ⟨(pi : Int) - ci, BONDS, off⟩
  edges : ∀ e, Ed F e → e = normE ci ⟨(pi : Int) - ci, BONDS, off⟩ ∨ Ed cs e
  yes : Conn (Ed cs) ci pi → nb F = nb cs
  no : ¬ Conn (Ed cs) ci pi → nb F = nb cs + 1

theorem tie_link {cs B : List Cel} {ci pi : Nat} {off : Int} (hl : B.length = cs.length) (W : Wf B) (hci : ci < cs.length) (hpi : pi < cs.length) (hne : pi ≠ ci) (hr : Root B ci) (hn : ¬ Up B pi ci) (hE : ∀ e, Ed B e → Ed cs e)
    (hy : Conn (Ed cs) ci pi → nb B + 1 = nb cs) (hno : ¬ Conn (Ed cs) ci pi → nb B = nb cs) : TieOut cs ci pi off (B.set ci ⟨(pi : Int) - ci, BONDS, off⟩) := by
  have hciB : ci < B.length := by rw [hl]; exact hci
  obtain ⟨c, hc⟩ : ∃ c, B[ci]? = some c := ⟨_, List.getElem?_eq_getElem hciB⟩
  have hnb := nb_set (v := ⟨(pi : Int) - ci, BONDS, off⟩) hc
  rw [if_neg (by simp [hr c hc]), if_pos (by show (pi : Int) - ci ≠ 0; omega)] at hnb
  refine ⟨by simpa using hl, wf_link W hciB (by rw [hl]; exact hpi) rfl rfl hn, List.getElem?_set_self hciB, ?_, fun q => ?_, fun q => ?_⟩
  · rintro e ⟨i, hi⟩
    by_cases q : ci = i
    · subst q; exact .inl ((EdAt.set_self hciB).mp hi).2
    · exact .inr (hE e ⟨i, (EdAt.set_ne q).mp hi⟩)
  · have := hy q; omega
  · have := hno q; omega

theorem tie_pure {cs ck : List Cel} {ci pi here j : Nat} {lk : List (Nat × Int × Int)} {c cj : Cel} {off : Int} (W : Wf cs) (hci : ci < cs.length) (hpi : pi < cs.length) (hne : pi ≠ ci)
    (hT : TS cs ci pi here ck lk) (hc : ck[here]? = some c) (hend : c.par = 0 ∨ (here : Int) + c.par = pi)
    (hUp : Up (applyL (cutc ck here) lk) pi j) (hcj : (applyL (cutc ck here) lk)[j]? = some cj) (hj : j ≠ ci) (hje : cj.par = 0 ∨ (j : Int) + cj.par = ci) :
    TieOut cs ci pi off ((brkAt (applyL (cutc ck here) lk) j).set ci ⟨(pi : Int) - ci, BONDS, off⟩) := by
  have G := hT.good W hci
  obtain ⟨rk, hrk⟩ := W.rank
  have fs := hT.facts W hrk hci
  have hc0 : cs[here]? = some c := by rw [← fs.low here (Nat.le_refl _)]; exact hc
  generalize applyL (cutc ck here) lk = T at *
  obtain ⟨g1, g2, g3, g4, g5, g6, g7⟩ := G
  have hcnt := g6 c hc0
  have rci : Root T ci := g3
  by_cases hp : c.par = 0
  · -- the whole chain is turned
    rw [if_neg (fun q => q hp)] at hcnt
    have hE : ∀ e, Ed T e ↔ Ed cs e := fun e => by
      rw [g5]
      constructor
      · rintro ⟨i, _, h⟩; exact ⟨i, h⟩
      · rintro ⟨i, h⟩
        refine ⟨i, ?_, h⟩
        rintro rfl
        obtain ⟨c2, a, b, _⟩ := h
        rw [hc0] at a; cases a; exact b hp
    by_cases hjp : cj.par = 0
    · rw [brkAt_eq hcj hjp]
      have rj : Root T j := fun c2 a => by rw [hcj] at a; cases a; exact hjp
      have hn : ¬ Up T pi ci := fun u => hj (Root.uniq hUp u rj rci)
      have hnc : ¬ Conn (Ed cs) ci pi := fun q => hn (((Conn.root g2 (q.mono fun e h => (hE e).mpr h)) ci rci).mp .refl)
      exact tie_link g1 g2 hci hpi hne rci hn (fun e h => (hE e).mp h) (fun q => absurd q hnc) (fun _ => by omega)
    · have hje' := hje.resolve_left hjp
      rw [brkAt_ne hcj hjp]
      have hjl : j < T.length := (List.getElem?_eq_some_iff.mp hcj).1
      have hv : (⟨0, Str.ofString "", 0⟩ : Cel).par = 0 := rfl
      have WB : Wf (T.set j ⟨0, Str.ofString "", 0⟩) := wf_cut g2 hv
      have rB : Root (T.set j ⟨0, Str.ofString "", 0⟩) ci := fun c2 a => by rw [List.getElem?_set_ne hj] at a; exact g3 _ a
      have rBj : Root (T.set j ⟨0, Str.ofString "", 0⟩) j := fun c2 a => by rw [List.getElem?_set_self hjl] at a; cases a; rfl
      have uB : Up (T.set j ⟨0, Str.ofString "", 0⟩) pi j := hUp.set_to rfl g2
      have hy : Conn (Ed cs) ci pi := by
        refine Conn.symm (Conn.mono (fun e h => (hE e).mp h) (hUp.conn.trans (Conn.step hcj hjp (k := ci) hje'.symm)))
      have hnb := nb_set (v := ⟨0, Str.ofString "", 0⟩) hcj
      rw [if_pos hjp, if_neg (fun q => q rfl)] at hnb
      refine tie_link (by simpa using g1) WB hci hpi hne rB (fun u => hj (Root.uniq uB u rBj rB)) (fun e h => ?_) (fun _ => by omega) (fun q => absurd hy q)
      obtain ⟨i, hi⟩ := h
      by_cases q : j = i
      · subst q; exact absurd hv ((EdAt.set_self hjl).mp hi).1
      · exact (hE e).mp ⟨i, (EdAt.set_ne q).mp hi⟩
  · -- the chain was left at the parent
    have hk := hend.resolve_left hp
    rw [if_pos hp] at hcnt
    have hn := (g7 c pi hc0 hp hk.symm).1
    have hjp : cj.par = 0 := by
      by_cases q : cj.par = 0
      · exact q
      · exact absurd (hUp.snoc hcj q (hje.resolve_left q).symm) hn
    rw [brkAt_eq hcj hjp]
    have hy : Conn (Ed cs) ci pi := fs.up.conn.trans (Conn.step hc0 hp hk.symm)
    exact tie_link g1 g2 hci hpi hne rci hn (fun e h => let ⟨i, _, q⟩ := (g5 e).mp h; ⟨i, q⟩) (fun _ => hcnt) (fun q => absurd hy q)
end Mine

namespace Mine

section
variable {prog : Program} {w : World} {A : Around} {E : Value → Shared → Prop} {s : Shared} {h₀ : Heap} {L r : Addr} {m : Str → Option Value} {news : Led} {ax : List (Addr × Addr)} {cs : List Cel}

theorem kstB_self {m : Str → Option Value} {ps : List (Str × Value)} (hp : ∀ p ∈ ps, m p.1 = some p.2) : kstB m ps = m := by
  funext y
  exact kstB_eq hp fun _ => rfl
theorem fr_norm {h₀ h : Heap} {L : Addr} {m : Str → Option Value} (ps : List (Str × Value)) (F : Fr h₀ L h m) (hp : ∀ p ∈ ps, m p.1 = some p.2) : ∃ u, Fr h₀ L h (kstB u ps) := ⟨m, by rw [kstB_self hp]; exact F⟩
theorem fr_int {h₀ h : Heap} {L : Addr} {m : Str → Option Value} {x : Str} {k : Int} {t : Tok} (_ : Fr h₀ L h m) (hv : m x = some (.int k t)) : ∃ t', m x = some (.int k t') := ⟨t, hv⟩
theorem app_list {l : Addr} {vs : List Value} {n : Nat} {x : Value} {Q : Value → Shared → Prop} (F : Fr h₀ L s.heap m) (N : News h₀ L s.heap news) (hm : (l, listOf vs.toArray n) ∈ news) (hsz : vs.length ≤ 1000)
    (h : ∀ h' news', Fr h₀ L h' m → News h₀ L h' news' → (l, listOf (vs ++ [x]).toArray (n + 1)) ∈ news' → (∀ p ∈ news, p.1 ≠ l → p ∈ news') → Q .none { s with heap := h' }) :
    wpAny (model prog w) A (call (.builtin "list.append") [.ref l, x]) Q E s := by
  refine append_at (its := vs.toArray) (n := n) (N _ hm).1 (fun h' hs ho => ?_) (by rw [List.size_toArray, sizeLine_eq]; omega)
  have ho' : h'.get? l = some (listOf (vs ++ [x]).toArray (n + 1)) := by rw [ho]; simp
  exact h h' _ (fr_updL F N hm hs) (news_updL N hm hs ho') (mem_updL_self hm) fun p hp hn => mem_updL_ne hp hn
theorem row_item {value slice : PySem.Expr} {k : Int} {i : Nat} {x d : Addr} {u : Tok} {Q : Value → Shared → Prop} (N : News h₀ L s.heap news) (R : RowIn r ax cs news) (hk : k = (i : Int)) (hi : ax[i]? = some (x, d)) (h : Q (.ref x) s)
    (hs : subscripted slice false (.ref r) (.int k u) = operate [.ref r, .int k u] (getItem (.ref r) (.int k u)) := by with_unfolding_all rfl) :
    wpAny (model prog w) A (subscriptTail value slice (.ref r) (.int k u)) Q E s := by
  obtain ⟨e, he⟩ := R.lst
  have hlt : i < ax.length := (List.getElem?_eq_some_iff.mp hi).1
  have := R.small
  refine item_litK (News.isList N he) (by omega) (by omega) ?_ h hs
  rw [hk]
  simp [hi]

theorem list_set {l : Addr} {vs : List Value} {n : Nat} {k : Int} {t : Tok} {v : Value} {Q : Unit → Shared → Prop} (F : Fr h₀ L s.heap m) (N : News h₀ L s.heap news) (hm : (l, listOf vs.toArray n) ∈ news) (h0 : 0 ≤ k) (h1 : k.toNat < vs.length) (hfit : k < 2 ^ 63)
    (h : ∀ h' news', Fr h₀ L h' m → News h₀ L h' news' → (l, listOf (vs.set k.toNat v).toArray n) ∈ news' → (∀ p ∈ news, p.1 ≠ l → p ∈ news') → Q () { s with heap := h' }) :
    wpAny (model prog w) A (setItem (.ref l) (.int k t) v) Q E s := by
  have z := N _ hm
  have hs := Heap.SameBut.update s.heap l (fun o => o.mapSeq (·.setIfInBounds k.toNat v))
  have ho : (s.heap.update l (fun o => o.mapSeq (·.setIfInBounds k.toNat v))).get? l = some (listOf (vs.set k.toNat v).toArray n) := by
    rw [Heap.get?_update_self _ z.1 (by rfl)]
    show some (Obj.mapSeq _ (listOf vs.toArray n)) = _
    simp [Obj.mapSeq]
  exact ki_setAt z.1 h0 hfit (by rw [List.size_toArray]; omega) (h _ _ (fr_updL F N hm hs) (news_updL N hm hs ho) (mem_updL_self hm) fun p hp hn => mem_updL_ne hp hn)
theorem list_len {l : Addr} {vs : List Value} {n : Nat} {Q : Value → Shared → Prop} (N : News h₀ L s.heap news) (hm : (l, listOf vs.toArray n) ∈ news) (hsz : vs.length ≤ 1000)
    (h : ∀ t tk, Q (.int (vs.length : Nat) t) { s with toks := tk }) : wpAny (model prog w) A (call (.builtin "len") [.ref l]) Q E s := by
  refine Calls.call_len_list (News.isList N hm) (by simp only [List.size_toArray]; omega) ?_
  have := h (s.toks + 1) (s.toks + 1 + 1)
  simpa using this
theorem row_len {Q : Value → Shared → Prop} (N : News h₀ L s.heap news) (R : RowIn r ax cs news)
    (h : ∀ t tk, Q (.int (cs.length : Nat) t) { s with toks := tk }) : wpAny (model prog w) A (call (.builtin "len") [.ref r]) Q E s := by
  obtain ⟨e, he⟩ := R.lst
  have h1 := R.len
  have h2 := R.small
  refine list_len N he (by rw [List.length_map]; omega) fun t tk => ?_
  rw [List.length_map, ← h1]
  exact h t tk
theorem row_inst (N : News h₀ L s.heap news) (R : RowIn r ax cs news) {i : Nat} {x d : Addr} {c : Cel} (hi : ax[i]? = some (x, d)) (hc : cs[i]? = some c) :
    ∃ es n, InstAt s.heap x ⟨.ref 92, some d, .plain, #[]⟩ 92 (some (dictOf es n)) ∧ (d, dictOf es n) ∈ news ∧ EsIs es c := by
  obtain ⟨es, n, a, b⟩ := R.dic i _ c hi hc
  exact ⟨es, n, InstAt.of_news N (R.obj i _ hi) a, a, b⟩

theorem row_getPar {i : Nat} {x d : Addr} {c : Cel} {expr : Bool} {Q : Value → Shared → Prop} (F : Fr h₀ L s.heap m) (X : (hd.heap_39 w.params).In h₀) (N : News h₀ L s.heap news) (R : RowIn r ax cs news) (hi : ax[i]? = some (x, d)) (hc : cs[i]? = some c)
    (h : ∀ t, Q (.int c.par t) { s with toks := s.toks + 1 }) : wpAny (model prog w) A (getAttr (.ref x) (Str.ofString "parent") expr) Q E s := by
  obtain ⟨es, n, I, _, ⟨t, ht⟩, -, -, -⟩ := row_inst N R hi hc
  exact get_own F X I (k92_gp _) (k92_hd _) (k92_fp _) rfl ht rfl (h t)
theorem row_getBond {i : Nat} {x d : Addr} {c : Cel} {expr : Bool} {Q : Value → Shared → Prop} (F : Fr h₀ L s.heap m) (X : (hd.heap_39 w.params).In h₀) (N : News h₀ L s.heap news) (R : RowIn r ax cs news) (hi : ax[i]? = some (x, d)) (hc : cs[i]? = some c)
    (h : ∀ t, Q (.str c.bond t) { s with toks := s.toks + 1 }) : wpAny (model prog w) A (getAttr (.ref x) (Str.ofString "bond") expr) Q E s := by
  obtain ⟨es, n, I, _, -, ⟨t, ht⟩, -, -⟩ := row_inst N R hi hc
  exact get_own F X I (k92_gp _) (k92_hd _) (k92_fb _) rfl ht rfl (h t)
theorem row_getY {i : Nat} {x d : Addr} {c : Cel} {expr : Bool} {Q : Value → Shared → Prop} (F : Fr h₀ L s.heap m) (X : (hd.heap_39 w.params).In h₀) (N : News h₀ L s.heap news) (R : RowIn r ax cs news) (hi : ax[i]? = some (x, d)) (hc : cs[i]? = some c)
    (h : ∀ t, Q (.int c.y t) { s with toks := s.toks + 1 }) : wpAny (model prog w) A (getAttr (.ref x) (Str.ofString "y_offset") expr) Q E s := by
  obtain ⟨es, n, I, _, -, -, ⟨t, ht⟩, -⟩ := row_inst N R hi hc
  exact get_own F X I (k92_gp _) (k92_hd _) (k92_fy _) rfl ht rfl (h t)

/-- a field of a row's Info is stored -/
theorem row_set {name : Str} {v : Value} {i : Nat} {x d : Addr} {c c' : Cel} {Q : Unit → Shared → Prop} (F : Fr h₀ L s.heap m) (X : (hd.heap_39 w.params).In h₀) (N : News h₀ L s.heap news) (R : RowIn r ax cs news)
    (ht : takerIn (hd.heap_39 w.params) 92 name = some none) (hi : ax[i]? = some (x, d)) (hc : cs[i]? = some c)
    (hg : ∀ es, EsIs es c → (∃ u, getL name es = some (some u)) ∧ ∀ hsh key, EsIs (putL name hsh key v es) c')
    (h : ∀ h' news', Fr h₀ L h' m → News h₀ L h' news' → RowIn r ax (cs.set i c') news' → KeepND news news' → (cs.set i c')[i]? = some c' → Q () { s with heap := h', toks := s.toks + 2 }) :
    wpAny (model prog w) A (setAttr (.ref x) name v) Q E s := by
  obtain ⟨es, n, I, hm, hE⟩ := row_inst N R hi hc
  obtain ⟨⟨u, hu⟩, hput⟩ := hg es hE
  have Xs := X.keeps F.keep
  have N2 : News h₀ L s.heap (news.filter (fun p => decide (p.1 ≠ d)) ++ (d, dictOf es n) :: []) := news_sub N fun p hp => by
    rcases List.mem_append.mp hp with q | q
    · exact (List.mem_filter.mp q).1
    · rw [List.mem_singleton.mp q]; exact hm
  have hEs := hput (PyData.keyHash w.params name) (.str name (s.toks + 1))
  refine set_plain Xs I (k92_sa _) (osa_dict (s := { s with toks := s.toks + 1 }) (od := dictOf es n) F N2 Xs I rfl (k92_po _) ht (k92_hd _) (by rw [lookIn_dict, hu]; rfl) (fun p hp => by simpa using (List.mem_filter.mp hp).2) (fun p hp => nomatch hp)
    (by rw [putName_dict]) rfl hEs.len fun h' F' N' => ?_)
  have ho : h'.get? d = some (dictOf (putL name (PyData.keyHash w.params name) (.str name (s.toks + 1)) v es) (putN name es n)) := (N' _ (List.mem_append_right _ (.head _))).1
  have N3 : News h₀ L h' (updL d (dictOf (putL name (PyData.keyHash w.params name) (.str name (s.toks + 1)) v es) (putN name es n)) news) := by
    intro p hp
    obtain ⟨q, hq, rfl⟩ := List.mem_map.mp hp
    by_cases e : q.1 = d
    · simp only [e, if_true]
      exact N' _ (List.mem_append_right _ (.head _))
    · simp only [e, if_false]
      exact N' q (List.mem_append_left _ (List.mem_filter.mpr ⟨hq, by simpa using e⟩))
  have hset : (cs.set i c')[i]? = some c' := List.getElem?_set_self (List.getElem?_eq_some_iff.mp hc).1
  refine h h' _ F' N3 ?_ (fun p hp hc => mem_updL_ne hp fun e => ?_) hset
  · obtain ⟨⟨e0, he0⟩, h2, h3, h4, h5, h6⟩ := R
    refine ⟨⟨e0, mem_updL_ne he0 fun e => ?_⟩, by simpa using h2, h3, h4, fun j p hp => mem_updL_ne (h5 j p hp) fun e => ?_, fun j p cj hp hcj => ?_⟩
    · have e' : r = d := e
      rw [e'] at he0
      have := news_uniq N he0 hm
      exact absurd (congrArg Obj.cls this) (by simp)
    · have e' : p.1 = d := e
      have := h5 j p hp
      rw [e'] at this
      have := news_uniq N this hm
      exact absurd (congrArg Obj.cls this) (by simp)
    · by_cases q : j = i
      · subst q
        rw [hi] at hp
        cases hp
        have hlt : j < cs.length := (List.getElem?_eq_some_iff.mp hc).1
        rw [List.getElem?_set_self hlt] at hcj
        cases hcj
        exact ⟨_, _, mem_updL_self hm, hEs⟩
      · rw [List.getElem?_set_ne (Ne.symm q)] at hcj
        obtain ⟨es', n', a, b⟩ := h6 j p cj hp hcj
        refine ⟨es', n', mem_updL_ne a fun e => q ?_, b⟩
        have e' : p.2 = d := e
        have hjl : j < ax.length := (List.getElem?_eq_some_iff.mp hp).1
        have hil : i < ax.length := (List.getElem?_eq_some_iff.mp hi).1
        have e1 : (ax.map (·.2))[j]? = some d := by rw [List.getElem?_map, hp]; simp [e']
        have e2 : (ax.map (·.2))[i]? = some d := by rw [List.getElem?_map, hi]; rfl
        exact (List.getElem?_inj (by simpa using hjl) h4).mp (e1.trans e2.symm)
  · have e' : (d, p.2) ∈ news := e ▸ hp
    have q := news_uniq N e' hm
    rcases hc with hc | ⟨v, hv⟩
    · exact hc (by rw [q])
    · rw [q] at hv; cases hv

theorem row_setPar {p : Int} {t : Tok} {i : Nat} {x d : Addr} {c : Cel} {Q : Unit → Shared → Prop} (F : Fr h₀ L s.heap m) (X : (hd.heap_39 w.params).In h₀) (N : News h₀ L s.heap news) (R : RowIn r ax cs news)
    (hi : ax[i]? = some (x, d)) (hc : cs[i]? = some c)
    (h : ∀ h' news', Fr h₀ L h' m → News h₀ L h' news' → RowIn r ax (cs.set i { c with par := p }) news' → KeepND news news' → (cs.set i { c with par := p })[i]? = some { c with par := p } → Q () { s with heap := h', toks := s.toks + 2 }) :
    wpAny (model prog w) A (setAttr (.ref x) (Str.ofString "parent") (.int p t)) Q E s :=
  row_set F X N R (k92_tp _) hi hc (fun es hE => ⟨let ⟨u, hu⟩ := hE.par; ⟨_, hu⟩, fun hsh key => hE.setPar hsh key p t⟩) h
theorem row_setBond {p : Str} {t : Tok} {i : Nat} {x d : Addr} {c : Cel} {Q : Unit → Shared → Prop} (F : Fr h₀ L s.heap m) (X : (hd.heap_39 w.params).In h₀) (N : News h₀ L s.heap news) (R : RowIn r ax cs news)
    (hi : ax[i]? = some (x, d)) (hc : cs[i]? = some c)
    (h : ∀ h' news', Fr h₀ L h' m → News h₀ L h' news' → RowIn r ax (cs.set i { c with bond := p }) news' → KeepND news news' → (cs.set i { c with bond := p })[i]? = some { c with bond := p } → Q () { s with heap := h', toks := s.toks + 2 }) :
    wpAny (model prog w) A (setAttr (.ref x) (Str.ofString "bond") (.str p t)) Q E s :=
  row_set F X N R (k92_tb _) hi hc (fun es hE => ⟨let ⟨u, hu⟩ := hE.bond; ⟨_, hu⟩, fun hsh key => hE.setBond hsh key p t⟩) h
theorem row_setY {p : Int} {t : Tok} {i : Nat} {x d : Addr} {c : Cel} {Q : Unit → Shared → Prop} (F : Fr h₀ L s.heap m) (X : (hd.heap_39 w.params).In h₀) (N : News h₀ L s.heap news) (R : RowIn r ax cs news)
    (hi : ax[i]? = some (x, d)) (hc : cs[i]? = some c)
    (h : ∀ h' news', Fr h₀ L h' m → News h₀ L h' news' → RowIn r ax (cs.set i { c with y := p }) news' → KeepND news news' → (cs.set i { c with y := p })[i]? = some { c with y := p } → Q () { s with heap := h', toks := s.toks + 2 }) :
    wpAny (model prog w) A (setAttr (.ref x) (Str.ofString "y_offset") (.int p t)) Q E s :=
  row_set F X N R (k92_ty _) hi hc (fun es hE => ⟨let ⟨u, hu⟩ := hE.y; ⟨_, hu⟩, fun hsh key => hE.setY hsh key p t⟩) h
end
end Mine

namespace Mine
def TurnE (h₀ : Heap) (L : Addr) (Jn : (Str → Option Value) → Led → Prop) (I : Addr) (o : Obj) (s₁ s₂ : Shared) : Prop :=
  ∃ h' tk m' all nw', s₂ = { s₁ with heap := h', toks := tk } ∧ Fr h₀ L h' m' ∧ News h₀ L h' all ∧ (I, o) ∈ all ∧ (∀ p ∈ nw', p ∈ all ∧ p.1 ≠ I) ∧ Jn m' nw'
def TurnQ (h₀ : Heap) (L : Addr) (Jn : (Str → Option Value) → Led → Prop) (I : Addr) (o : Obj) (s₁ : Shared) (Q : Flow → Shared → Prop) (f : Flow) (s₂ : Shared) : Prop :=
  match f with
  | .ret v => Q (.ret v) s₂
  | .brk => Q .next s₂
  | _ => TurnE h₀ L Jn I o s₁ s₂

section
variable {prog : Program} {w : World} {A : Around} {E : Value → Shared → Prop} {s : Shared} {env : Env} {h₀ : Heap} {x : Str} {body : List Stmt} {Q : Flow → Shared → Prop}
theorem iter_rangeM {r : Addr} {b₀ : Int} {t₀ u₀ v₀ : Tok} {n : Nat} {m₀ : Str → Option Value} {news : Led} (J : Nat → (Str → Option Value) → Led → Prop)
    (hh : A.handled = none) (hr : IsRange s.heap r 0 b₀ 1 t₀ u₀ v₀) (hb : b₀ = (n : Int)) (hn : n ≤ 1000) (F : Fr h₀ env.locals s.heap m₀) (N : News h₀ env.locals s.heap news) (hj : J 0 m₀ news)
    (turn : ∀ i m₁ nw I o h tk t, i < n → J i m₁ nw → (∀ p ∈ nw, p.1 ≠ I) → (∀ p ∈ news, p.1 < I) → o.cls = .type "range_iterator" → Fr h₀ env.locals h (fun y => if y = x then some (.int (i : Nat) t) else m₁ y) → News h₀ env.locals h ((I, o) :: nw) →
      wpAny (model prog w) A (execs body env) (TurnQ h₀ env.locals (J (i + 1)) I o { s with heap := h, toks := tk } Q) E { s with heap := h, toks := tk })
    (done : ∀ m₁ nw h tk, J n m₁ nw → Fr h₀ env.locals h m₁ → News h₀ env.locals h nw → Q .next { s with heap := h, toks := tk }) :
    wpAny (model prog w) A (pyIter (.ref r)) (fun it s₂ => LoopAtV prog w A h₀ env x body Q E it s₂) E s := by
  subst hb
  have hsmall : Builtin.Range.small 0 (n : Int) 1 = true := small_one (by omega) (by omega) (by omega) (by omega)
  have hsz : Builtin.Range.rangeSize 0 (n : Int) 1 = (n : Int) := by rw [rangeSize_nat]; omega
  refine wpAny_pyIter_range hr hsmall ?_
  have W := (Walks.range (prog := prog) (w := w) hh s.heap.objs.size 0 1 n)
  refine ⟨_, _, _, n, _, _, m₀, news, J, rfl, W, ?_, ?_, ?_, (by show IsRangeIter _ _ _ _ _; rw [hsz]; simpa using Heap.get?_push_size _ rfl), F.push _, (fun p hp => ⟨Heap.get?_push_of_some _ (N p hp).1, (N p hp).2⟩), hj, ?_, ?_⟩
  · intro hm
    exact absurd F.ns.lt ((List.mem_singleton.mp hm) ▸ Nat.lt_irrefl _)
  · intro b hb
    rw [List.mem_singleton.mp hb]
    exact next_is_new F
  · intro p hp hI
    exact absurd (Heap.lt_size (N p hp).1) ((List.mem_singleton.mp hI) ▸ Nat.lt_irrefl _)
  · rintro i v m₁ nw s₁ own ⟨hh', tk', rfl⟩ hin ⟨t, rfl⟩ hJ hoff hown hget hall hst F₁ N₁
    have e1 : (0 : Int) + (i : Int) * 1 = (i : Int) := by omega
    rw [e1] at F₁
    have hI : h₀.get? s.heap.objs.size = none := next_is_new F
    obtain ⟨oi, hit, hoc⟩ : ∃ oi, hh'.get? s.heap.objs.size = some oi ∧ oi.cls = .type "range_iterator" := ⟨_, hst, rfl⟩
    have hmem := hall _ (List.mem_singleton.mpr rfl) hI _ hit
    refine wpAny_mono (turn i m₁ nw s.heap.objs.size oi hh' tk' t hin hJ (fun p hp q => hoff p hp (List.mem_singleton.mpr q)) (fun p hp => Heap.lt_size (N p hp).1) hoc F₁ (fun p hp => ?_)) (fun f s₂ p => ?_) fun _ _ e => e
    · rcases List.mem_cons.mp hp with rfl | hp
      · exact N₁ _ (List.mem_append_left _ hmem)
      · exact N₁ _ (List.mem_append_right _ hp)
    · have fin : TurnE h₀ env.locals (J (i + 1)) s.heap.objs.size oi { s with heap := hh', toks := tk' } s₂ → LoopStepU h₀ env.locals [s.heap.objs.size] own (J (i + 1)) { s with heap := hh', toks := tk' } .next s₂ := by
        rintro ⟨h', tk, m', all, nw', e, F', N', hI', hsub, hJ'⟩
        refine ⟨rfl, h', tk, m', nw', e, F', fun p hp => ?_, fun p hp hI => (hsub p hp).2 (List.mem_singleton.mp hI), hJ'⟩
        rcases List.mem_append.mp hp with q | q
        · have h1 := List.mem_singleton.mp (hown p q)
          have h2 := hget p q
          rw [h1, hit] at h2
          have : p = (s.heap.objs.size, _) := Prod.ext h1 (Option.some.inj h2).symm
          rw [this]
          exact N' _ hI'
        · exact N' _ (hsub p q).1
      cases f with
      | ret v => exact .ret p
      | brk => exact .brk p
      | next => exact .next (fin p)
      | cont => exact .cont (fin p)
  · rintro h' tk m' nw F' N' _ hJ
    exact done m' nw h' tk hJ F' N'
end
end Mine

namespace Mine
theorem start_L3Loosen : True := by
  w_top off
  trivial
local macro_rules | `(tactic| walk_at "setAttr ref") => `(tactic| ((with_reducible show wpAny _ _ (setAttr (Value.ref _) (Str.ofString "parent") _) _ _ _); k_dflt (refine row_setPar (by assumption) (by assumption) (by assumption) (by assumption) (by assumption) (by assumption) ?_); intro h' n' F' N' R' K' C'; (try k_sweep); (try dsimp only at C')))
local macro_rules | `(tactic| walk_at "setAttr ref") => `(tactic| ((with_reducible show wpAny _ _ (setAttr (Value.ref _) (Str.ofString "bond") _) _ _ _); k_dflt (refine row_setBond (by assumption) (by assumption) (by assumption) (by assumption) (by assumption) (by assumption) ?_); intro h' n' F' N' R' K' C'; (try k_sweep); (try dsimp only at C')))
local macro_rules | `(tactic| walk_at "setAttr ref") => `(tactic| ((with_reducible show wpAny _ _ (setAttr (Value.ref _) (Str.ofString "y_offset") _) _ _ _); k_dflt (refine row_setY (by assumption) (by assumption) (by assumption) (by assumption) (by assumption) (by assumption) ?_); intro h' n' F' N' R' K' C'; (try k_sweep); (try dsimp only at C')))
section
variable {w : World} {mean : ExcName → Option Value} {mg mb : Str → Option Value} {dp un : Nat} {gd : Option (List Code)} {cn : Str} {scp : Scope} {a : Addr} {ccd : Value} {cl : List (Str × Addr)} {outer : List Env} {A₀ : Around} {base h₀ : Heap} {L : Addr} {m : Str → Option Value} {news : Led} {s : Shared} {E : Value → Shared → Prop} {Q : Value → Shared → Prop}
variable {r : Addr} {ax : List (Addr × Addr)} {cs : List Cel}

theorem loosen_spec {i : Nat} {x d : Addr} {c : Cel} (B : Below A₀ base outer h₀) (F : Fr h₀ L s.heap m) (X : (hd.heap_39 w.params).In h₀) (N : News h₀ L s.heap news)
    (T : Top hd.view_39 (looseW hd.view_39 []) mean mg mb h₀) (hk : scp.kind = .function) (hdp : dp + 1 < recursionLimit)
    (R : RowIn r ax cs news) (hi : ax[i]? = some (x, d)) (hc : cs[i]? = some c)
    (h : ∀ h' tk news', Fr h₀ L h' m → News h₀ L h' news' → RowIn r ax (cs.set i (loose c)) news' → KeepND news news' → (cs.set i (loose c))[i]? = some (loose c) → Q .none { s with heap := h', toks := tk }) :
    wpAny (model PySem.Challenge.rw_nu0149_01.row.prog w) (ktrTop dp un gd cn scp L a ccd cl outer) (call (.ref 28) [.ref x]) Q E s := by
  refine wpAny_call ?_
  k_dflt ktr_enter
  k_steps
  rename RowIn _ _ _ _ => R2
  rename _ = some _ => C2
  rename Fr h₀ L _ _ => kF
  rename News h₀ L _ _ => kN
  rw [List.set_set] at R2 C2
  exact h _ _ _ kF kN R2 (KeepND.trans ‹KeepND news _› (by assumption)) C2
end
end Mine

namespace Mine
theorem start_L3Break : True := by
  w_top off
  trivial
local macro_rules | `(tactic| walk_at "setAttr ref") => `(tactic| ((with_reducible show wpAny _ _ (setAttr (Value.ref _) (Str.ofString "parent") _) _ _ _); k_dflt (refine row_setPar (by assumption) (by assumption) (by assumption) (by assumption) (by assumption) (by assumption) ?_); intro h' n' F' N' R' K' C'; (try k_sweep); (try dsimp only at C')))
local macro_rules | `(tactic| walk_at "setAttr ref") => `(tactic| ((with_reducible show wpAny _ _ (setAttr (Value.ref _) (Str.ofString "bond") _) _ _ _); k_dflt (refine row_setBond (by assumption) (by assumption) (by assumption) (by assumption) (by assumption) (by assumption) ?_); intro h' n' F' N' R' K' C'; (try k_sweep); (try dsimp only at C')))
local macro_rules | `(tactic| walk_at "setAttr ref") => `(tactic| ((with_reducible show wpAny _ _ (setAttr (Value.ref _) (Str.ofString "y_offset") _) _ _ _); k_dflt (refine row_setY (by assumption) (by assumption) (by assumption) (by assumption) (by assumption) (by assumption) ?_); intro h' n' F' N' R' K' C'; (try k_sweep); (try dsimp only at C')))
local macro_rules | `(tactic| walk_at "getAttr ref") => `(tactic| ((with_reducible show wpAny _ _ (getAttr (Value.ref _) (Str.ofString "parent") _) _ _ _); k_dflt (refine row_getPar (by assumption) (by assumption) (by assumption) (by assumption) (by assumption) (by assumption) ?_); intro tg))
local macro_rules | `(tactic| walk_at "getAttr ref") => `(tactic| ((with_reducible show wpAny _ _ (getAttr (Value.ref _) (Str.ofString "bond") _) _ _ _); k_dflt (refine row_getBond (by assumption) (by assumption) (by assumption) (by assumption) (by assumption) (by assumption) ?_); intro tg))
local macro_rules | `(tactic| walk_at "getAttr ref") => `(tactic| ((with_reducible show wpAny _ _ (getAttr (Value.ref _) (Str.ofString "y_offset") _) _ _ _); k_dflt (refine row_getY (by assumption) (by assumption) (by assumption) (by assumption) (by assumption) (by assumption) ?_); intro tg))
local macro_rules | `(tactic| walk_at "subscriptTail Name Name ref int") => `(tactic| ((with_reducible show wpAny _ _ (subscriptTail _ _ (Value.ref _) (Value.int _ _)) _ _ _); k_dflt (refine row_item (by assumption) (by assumption) rfl (by assumption) ?_)))
local macro_rules | `(tactic| walk_at "call ref") => `(tactic| ((with_reducible show wpAny _ _ (call (Value.ref 28) _ _) _ _ _); k_dflt (refine' loosen_spec ?k1 ?k2 ?k3 ?k4 ?k5 ?k6 ?k7 ?k8 ?k9 ?k10 ?_; (case k1 => k_asm); (case k2 => k_asm); (case k3 => k_asm); (case k4 => k_asm); (case k5 => k_asm); (case k6 => exact rfl); (case k7 => ktr_room); (case k8 => k_asm); (case k9 => k_asm); (case k10 => k_asm)); intro h' tk' n' F' N' R' K' C'; (try k_sweep)))
local macro_rules | `(tactic| tb_start) => `(tactic| repeat' (first | ((fail_if_success (with_reducible show wpAny _ _ (exec (Stmt.While _ _ _ _) _) _ _ _)); (fail_if_success (with_reducible show wpAny _ _ (exec (Stmt.For _ _ _ _ _) _) _ _ _)); first | (k_unfold; (try dsimp only)) | walk1 | (dsimp only; walk1)) | fail "no step"))
section
variable {w : World} {mean : ExcName → Option Value} {mg mb : Str → Option Value} {dp un : Nat} {gd : Option (List Code)} {cn : Str} {scp : Scope} {a : Addr} {ccd : Value} {cl : List (Str × Addr)} {outer : List Env} {A₀ : Around} {base h₀ : Heap} {L : Addr} {m : Str → Option Value} {news : Led} {s : Shared} {E : Value → Shared → Prop} {Q : Value → Shared → Prop}
variable {r : Addr} {ax : List (Addr × Addr)} {cs : List Cel}

theorem break_spec {ci pi : Nat} {tc tp : Tok} (B : Below A₀ base outer h₀) (F : Fr h₀ L s.heap m) (X : (hd.heap_39 w.params).In h₀) (N : News h₀ L s.heap news)
    (T : Top hd.view_39 (looseW hd.view_39 []) mean mg mb h₀) (hk : scp.kind = .function) (hdp : dp + 3 < recursionLimit)
    (R : RowIn r ax cs news) (W : Wf cs) (hpi : pi < cs.length) (hne : pi ≠ ci)
    (h : ∀ h' tk news' j c, Fr h₀ L h' m → News h₀ L h' news' → RowIn r ax (brkAt cs j) news' → KeepND news news' → Up cs pi j → cs[j]? = some c → j ≠ ci → (c.par = 0 ∨ (j : Int) + c.par = ci) → Q .none { s with heap := h', toks := tk }) :
    wpAny (model PySem.Challenge.rw_nu0149_01.row.prog w) (ktrTop dp un gd cn scp L a ccd cl outer) (call (.ref 42) [.ref r, .int ci tc, .int pi tp]) Q E s := by
  refine wpAny_call ?_
  k_dflt ktr_enter
  refine wpAny_noRaise ?_
  obtain ⟨rk, hrk⟩ := W.rank
  tb_start
  refine ksw_while (σ := Nat × Tok) (fun _ => news) (fun c => [(Str.ofString "here", .int c.1 c.2)]) (fun _ => True) [] (fun c => Up cs pi c.1 ∧ c.1 ≠ ci) (fun c => rk c.1) (pi, tp) (by assumption) (by assumption) trivial (by kst_all) ⟨Up.refl, hne⟩ ?_
  rintro ⟨here, t⟩ u h₁ tk₁ - ⟨hUp, hn⟩ F₁ N₁
  k_sweep
  simp only [kstB, List.contains_nil, Bool.false_eq_true, if_false] at F₁
  have hlt : here < cs.length := hUp.lt W hpi
  obtain ⟨c, hc⟩ : ∃ c, cs[here]? = some c := ⟨_, List.getElem?_eq_getElem hlt⟩
  obtain ⟨⟨x, d⟩, hx⟩ : ∃ p, ax[here]? = some p := ⟨_, List.getElem?_eq_getElem (R.len ▸ hlt)⟩
  dsimp only at *
  k_steps
  · rename c.par ≠ 0 => hp0
    have hb := W.inb _ _ hc hp0
    have e : ((((here : Int) + c.par).toNat : Nat) : Int) = (here : Int) + c.par := by omega
    rename Fr _ _ _ _ => F2
    obtain ⟨tq, hm⟩ := fr_int F2 (x := Str.ofString "here") rfl
    refine ksw_end (((here : Int) + c.par).toNat, tq) F2 (by assumption) (fun _ hp => hp) trivial (fun p hp => ?_) (by ksw_same) ⟨Up.snoc hUp hc hp0 e, fun q => ?_⟩ (hrk _ _ hc hp0)
    · rw [List.mem_singleton.mp hp]
      show _ = some (Value.int _ _)
      rw [e]
      exact hm
    · have q' : ((here : Int) + c.par).toNat = ci := q
      rw [q'] at e
      exact absurd e.symm (by assumption)
  · rename c.par ≠ 0 => hp0
    refine h _ _ _ here c (by assumption) (by assumption) ?_ (KeepND.trans ‹KeepND news _› (by assumption)) hUp hc hn (.inr (by assumption))
    rw [brkAt_ne hc hp0]
    rename RowIn _ _ _ _ => R2
    rw [List.set_set] at R2
    exact R2
  · exact absurd ‹c.par = 0› ‹c.par ≠ 0›
  · exact absurd ‹c.par = 0› ‹c.par ≠ 0›
  · refine h _ _ _ here c (by assumption) (by assumption) ?_ KeepND.refl hUp hc hn (.inl (by assumption))
    rw [brkAt_eq hc (by assumption)]
    exact R
end
end Mine

namespace Mine
theorem start_L3Turn : True := by
  w_top off
  trivial
local macro_rules | `(tactic| walk_at "setAttr ref") => `(tactic| ((with_reducible show wpAny _ _ (setAttr (Value.ref _) (Str.ofString "parent") _) _ _ _); k_dflt (refine row_setPar (by assumption) (by assumption) (by assumption) (by assumption) (by assumption) (by assumption) ?_); intro h' n' F' N' R' K' C'; (try k_sweep); (try dsimp only at C')))
local macro_rules | `(tactic| walk_at "setAttr ref") => `(tactic| ((with_reducible show wpAny _ _ (setAttr (Value.ref _) (Str.ofString "bond") _) _ _ _); k_dflt (refine row_setBond (by assumption) (by assumption) (by assumption) (by assumption) (by assumption) (by assumption) ?_); intro h' n' F' N' R' K' C'; (try k_sweep); (try dsimp only at C')))
local macro_rules | `(tactic| walk_at "setAttr ref") => `(tactic| ((with_reducible show wpAny _ _ (setAttr (Value.ref _) (Str.ofString "y_offset") _) _ _ _); k_dflt (refine row_setY (by assumption) (by assumption) (by assumption) (by assumption) (by assumption) (by assumption) ?_); intro h' n' F' N' R' K' C'; (try k_sweep); (try dsimp only at C')))
local macro_rules | `(tactic| walk_at "getAttr ref") => `(tactic| ((with_reducible show wpAny _ _ (getAttr (Value.ref _) (Str.ofString "parent") _) _ _ _); k_dflt (refine row_getPar (by assumption) (by assumption) (by assumption) (by assumption) (by assumption) (by assumption) ?_); intro tg))
local macro_rules | `(tactic| walk_at "getAttr ref") => `(tactic| ((with_reducible show wpAny _ _ (getAttr (Value.ref _) (Str.ofString "bond") _) _ _ _); k_dflt (refine row_getBond (by assumption) (by assumption) (by assumption) (by assumption) (by assumption) (by assumption) ?_); intro tg))
local macro_rules | `(tactic| walk_at "getAttr ref") => `(tactic| ((with_reducible show wpAny _ _ (getAttr (Value.ref _) (Str.ofString "y_offset") _) _ _ _); k_dflt (refine row_getY (by assumption) (by assumption) (by assumption) (by assumption) (by assumption) (by assumption) ?_); intro tg))
local macro_rules | `(tactic| walk_at "subscriptTail Name Name ref int") => `(tactic| ((with_reducible show wpAny _ _ (subscriptTail _ _ (Value.ref _) (Value.int _ _)) _ _ _); k_dflt (refine row_item (by assumption) (by assumption) rfl (by assumption) ?_)))
local macro_rules | `(tactic| walk_at "call ref") => `(tactic| ((with_reducible show wpAny _ _ (call (Value.ref 28) _ _) _ _ _); k_dflt (refine' loosen_spec ?k1 ?k2 ?k3 ?k4 ?k5 ?k6 ?k7 ?k8 ?k9 ?k10 ?_; (case k1 => k_asm); (case k2 => k_asm); (case k3 => k_asm); (case k4 => k_asm); (case k5 => k_asm); (case k6 => exact rfl); (case k7 => ktr_room); (case k8 => k_asm); (case k9 => k_asm); (case k10 => k_asm)); intro h' tk' n' F' N' R' K' C'; (try k_sweep)))
local macro_rules | `(tactic| walk_at "call builtin:list.append") => `(tactic| ((with_reducible show wpAny _ _ (call (Value.builtin "list.append") [Value.ref _, _]) _ _ _); k_dflt (refine app_list (by assumption) (by assumption) (by first | assumption | exact List.mem_cons_of_mem _ (by assumption)) (by omega) ?_); intro h' n' F' N' M' K'; (try k_sweep)))
local macro_rules | `(tactic| walk_at "getMethod ref") => `(tactic| ((with_reducible show wpAny _ _ (getMethod (Value.ref _) (Str.ofString "append") _) _ _ _); with_unfolding_all refine getMethod_append_N (by assumption) (by assumption) ?_))
local macro_rules | `(tactic| tb_start) => `(tactic| repeat' (first | ((fail_if_success (with_reducible show wpAny _ _ (exec (Stmt.While _ _ _ _) _) _ _ _)); (fail_if_success (with_reducible show wpAny _ _ (exec (Stmt.For _ _ _ _ _) _) _ _ _)); first | (k_unfold; (try dsimp only)) | walk1 | (dsimp only; walk1)) | fail "no step"))
section
variable {w : World} {mean : ExcName → Option Value} {mg mb : Str → Option Value} {dp un : Nat} {gd : Option (List Code)} {cn : Str} {scp : Scope} {a : Addr} {ccd : Value} {cl : List (Str × Addr)} {outer : List Env} {A₀ : Around} {base h₀ : Heap} {L : Addr} {m : Str → Option Value} {news : Led} {s : Shared} {E : Value → Shared → Prop} {Q : Value → Shared → Prop}
variable {r : Addr} {ax : List (Addr × Addr)} {cs : List Cel}


structure C1 where
  here : Nat
  t : Tok
  ck : List Cel
  lk : List (Nat × Int × Int)
  vs : List Value
  e : Nat
  tl : Led
  nw : Led

def TMid (g : Heap) (L0 : Addr) (s : Shared) (r l0 : Addr) (ax : List (Addr × Addr)) (cs : List Cel) (news : Led) (ci pi : Nat) (f : Flow) (s' : Shared) : Prop :=
  f = .next ∧ ∃ h' tk m' nw here ck lk vs e tl c, s' = { s with heap := h', toks := tk } ∧ Fr g L0 h' m' ∧ News g L0 h' nw ∧ m' (Str.ofString "row") = some (.ref r) ∧ m' (Str.ofString "links") = some (.ref l0) ∧
    RowIn r ax (cutc ck here) nw ∧ KeepND news nw ∧ (l0, listOf (vs : List Value).toArray e) ∈ nw ∧ DatAll tl vs (lk.map dat3) ∧ (∀ p ∈ tl, p ∈ nw ∧ p.2.cls = .type "tuple" ∧ l0 < p.1) ∧ TS cs ci pi here ck lk ∧ ck[here]? = some c ∧ (c.par = 0 ∨ (here : Int) + c.par = pi)

theorem turn_spec {ci pi : Nat} {tc tp : Tok} (B : Below A₀ base outer h₀) (F : Fr h₀ L s.heap m) (X : (hd.heap_39 w.params).In h₀) (N : News h₀ L s.heap news)
    (T : Top hd.view_39 (looseW hd.view_39 []) mean mg mb h₀) (hk : scp.kind = .function) (hdp : dp + 3 < recursionLimit)
    (R : RowIn r ax cs news) (W : Wf cs) (hci : ci < cs.length)
    (h : ∀ h' tk news' here ck lk c, Fr h₀ L h' m → News h₀ L h' news' → RowIn r ax (applyL (cutc ck here) lk) news' → KeepND news news' → TS cs ci pi here ck lk → ck[here]? = some c → (c.par = 0 ∨ (here : Int) + c.par = pi) → Q .none { s with heap := h', toks := tk }) :
    wpAny (model PySem.Challenge.rw_nu0149_01.row.prog w) (ktrTop dp un gd cn scp L a ccd cl outer) (call (.ref 35) [.ref r, .int ci tc, .int pi tp]) Q E s := by
  refine wpAny_call ?_
  k_dflt ktr_enter
  refine wpAny_noRaise ?_
  obtain ⟨rk, hrk⟩ := W.rank
  rename_i g0 L0 _ FG0 F1 N0 B0 X0 T0
  obtain ⟨u0, F0⟩ := fr_norm [(Str.ofString "row", .ref r), (Str.ofString "child", .int ci tc), (Str.ofString "parent", .int pi tp)] F1 (by kst_all)
  clear F1
  simp only [kstB] at F0
  tb_start
  rename_i l0 _ l1 _ _ _ _
  refine wpAny_mono (Q := TMid g0 L0 s r l0 ax cs news ci pi) (E := fun _ _ => False)
    (ksw_while (σ := C1) (fun c => c.nw) (fun c => [(Str.ofString "here", .int c.here c.t)])
    (fun c => RowIn r ax c.ck c.nw ∧ KeepND news c.nw ∧ (l0, listOf c.vs.toArray c.e) ∈ c.nw ∧ DatAll c.tl c.vs (c.lk.map dat3) ∧ ∀ p ∈ c.tl, p ∈ c.nw ∧ p.2.cls = .type "tuple" ∧ l0 < p.1) [Str.ofString "step"]
    (fun c => TS cs ci pi c.here c.ck c.lk) (fun c => rk c.here) ⟨ci, tc, cs, [], [], 0, [], _⟩ (by assumption) (by assumption) ⟨R.sub fun p hp => List.mem_cons_of_mem _ hp, KeepND.of_sub fun p hp => List.mem_cons_of_mem _ hp, .head _, .nil, fun _ hp => (nomatch hp)⟩ (by kst_all) TS.start ?_) ?_ (fun _ _ h => h)
  · rintro ⟨here, t, ck, lk, vs, e, tl, nw⟩ u h₁ tk₁ ⟨R1, K1, M1, D1, T1⟩ hTS F₁ N₁
    dsimp only at *
    k_sweep
    simp only [kstB] at F₁
    have fs := hTS.facts W hrk hci
    obtain ⟨c, hc⟩ : ∃ c, ck[here]? = some c := ⟨_, List.getElem?_eq_getElem (fs.len ▸ fs.lt)⟩
    obtain ⟨⟨x, d⟩, hx⟩ : ∃ p, ax[here]? = some p := ⟨_, List.getElem?_eq_getElem (by have := R.len; have := fs.lt; omega)⟩
    have hc0 : cs[here]? = some c := by rw [← fs.low here (Nat.le_refl _)]; exact hc
    have hbb : c.par ≠ 0 → (c.bond == BONDS) = true := fun hp => by rw [W.bond _ _ hc0 hp]; simp
    k_steps
    · have K2 := ‹KeepND nw _›
      exact ⟨rfl, _, _, _, _, here, ck, lk, vs, e, tl, c, rfl, ‹Fr g0 L0 _ _›, ‹News g0 L0 _ _›, rfl, rfl, by rw [cutc_ne hc ‹c.par ≠ 0›]; assumption, K1.trans K2, K2 _ M1 (.inl (by simp)), D1,
        fun p hp => ⟨K2 p (T1 p hp).1 (.inl (by rw [(T1 p hp).2.1]; simp)), (T1 p hp).2⟩, hTS, hc, .inr (by assumption)⟩
    · have K2 := ‹KeepND nw _›
      have M2 := K2 _ M1 (.inl (by simp))
      have T2 : ∀ p ∈ tl, p ∈ _ ∧ p.2.cls = .type "tuple" ∧ l0 < p.1 := fun p hp => ⟨K2 p (T1 p hp).1 (.inl (by rw [(T1 p hp).2.1]; simp)), (T1 p hp).2⟩
      have R2 := ‹RowIn r ax (ck.set here (loose c)) _›
      have hv : vs.length ≤ 7 := by
        have h1 := D1.length
        have h2 := fs.small
        have h3 := R.len
        have h4 := R.small
        rw [List.length_map] at h1
        omega
      k_steps
      rename_i D2 _ l2 _ n2 M3 K4 _ F2 N2
      have hp0 := ‹c.par ≠ 0›
      have hb := W.inb _ _ hc0 hp0
      have ek : ((((here : Int) + c.par).toNat : Nat) : Int) = (here : Int) + c.par := by omega
      have hlD : l0 < D2 := l2 _ M2
      obtain ⟨tq, hm⟩ := fr_int F2 (x := Str.ofString "here") rfl
      obtain ⟨t1, t2, t3, M4⟩ : ∃ t1 t2 t3, (D2, ({ cls := .type "tuple", data := .seq #[.int ((here : Int) + c.par) t1, .int (-c.par) t2, .int (-c.y) t3] } : Obj)) ∈ n2 := ⟨_, _, _, K4 _ (.head _) (Nat.ne_of_gt hlD)⟩
      refine ksw_end (σ := C1) ⟨((here : Int) + c.par).toNat, tq, ck.set here (loose c), lk ++ [(((here : Int) + c.par).toNat, -c.par, -c.y)], vs ++ [.ref D2], e + 1, (D2, ({ cls := .type "tuple", data := .seq #[.int ((here : Int) + c.par) t1, .int (-c.par) t2, .int (-c.y) t3] } : Obj)) :: tl, n2⟩ F2 N2 (fun _ hp => hp) ⟨?_, ?_, M3, ?_, ?_⟩ (fun p hp => ?_) (by ksw_same) (TS.step hTS hc hp0 (by assumption) ek) (hrk _ _ hc0 hp0)
      · exact (R2.sub fun p hp => List.mem_cons_of_mem _ hp).away (R.addr fun p hp => Nat.ne_of_lt (l1 p hp)) K4
      · exact fun p hp hcl => K4 p (.tail _ (K2 p (K1 p hp hcl) hcl)) (Nat.ne_of_lt (l1 p hp))
      · dsimp only
        rw [List.map_append]
        refine (D1.mono fun p hp => List.mem_cons_of_mem _ hp).append (.one (.tuple (vs := [_, _, _]) (.head _) (.cons ?_ (.cons (.int _ _) (.cons (.int _ _) .nil)))))
        rw [ek]
        exact .int _ _
      · intro p hp
        rcases List.mem_cons.mp hp with rfl | hp
        · exact ⟨M4, rfl, hlD⟩
        · exact ⟨K4 _ (.tail _ (T2 p hp).1) (Nat.ne_of_gt (T2 p hp).2.2), (T2 p hp).2⟩
      · rw [List.mem_singleton.mp hp]
        show _ = some (Value.int _ _)
        rw [ek]
        exact hm
    · have hq := hbb ‹c.par ≠ 0›
      simp_all
    · exact ⟨rfl, _, _, _, _, here, ck, lk, vs, e, tl, c, rfl, ‹Fr g0 L0 _ _›, ‹News g0 L0 _ _›, rfl, rfl, by rw [cutc_eq hc ‹c.par = 0›]; exact R1, K1, M1, D1, T1, hTS, hc, .inl (by assumption)⟩
  · rintro f s' ⟨rfl, h2, tk2, m2, nw, here, ck, lk, vs, e, tl, c, rfl, F2, N2, m21, m22, R2, K2, M2, D2, T2, hTS, hc, hend⟩
    obtain ⟨u2, F3⟩ := fr_norm [(Str.ofString "row", .ref r), (Str.ofString "links", .ref l0)] F2 (by simp [m21, m22])
    clear F2
    simp only [kstB] at F3
    have fs := hTS.facts W hrk hci
    tb_start
    refine For_turns F3 ?_
    walk1
    refine iter_listTurns (by exact rfl) F3 N2 M2 rfl rfl (fun I hI => ?_)
    obtain ⟨fin, hfin⟩ : ∃ fin, applyL (cutc ck here) lk = fin := ⟨_, rfl⟩
    have hret : ∀ h' tk news', Fr h₀ L h' m → News h₀ L h' news' → RowIn r ax fin news' → KeepND news news' → Q .none { s with heap := h', toks := tk } := fun h' tk news' a b c' d => h h' tk news' here ck lk _ a b (hfin ▸ c') d hTS hc hend
    have hpl : ∀ t ∈ lk, t.1 < ax.length := fun t ht => by have := (fs.places t ht).1; have := R.len; omega
    have hRA : RowAddr r ax I := R2.addr fun p hp => Nat.ne_of_lt (hI p hp)
    have hnI : ∀ p ∈ news, Nd p.2 → p.1 ≠ I := fun p hp hcl => Nat.ne_of_lt (hI p (K2 p hp hcl))
    have hlI : l0 ≠ I := Nat.ne_of_lt (hI _ M2)
    have T3 : ∀ p ∈ tl, p ∈ nw ∧ p.2.cls = .type "tuple" ∧ p.1 ≠ I := fun p hp => ⟨(T2 p hp).1, (T2 p hp).2.1, Nat.ne_of_lt (hI p (T2 p hp).1)⟩
    clear F3 N2 T2 hI
    generalize hmm : (fun y => if y = Str.ofString "row" then some (Value.ref r) else if y = Str.ofString "links" then some (Value.ref l0) else u2 y) = mm
    have hrow : mm (Str.ofString "row") = some (.ref r) := by rw [← hmm]; rfl
    clear hmm
    generalize cutc ck here = cur at R2 hfin
    generalize hlo : PySem.W.listOf vs.toArray e = lo at M2
    have hlc : lo.cls = .type "list" := by rw [← hlo]
    clear hlo hTS fs hc hend
    induction lk generalizing vs cur nw mm with
    | nil =>
      cases D2
      refine ItemsRest.zero (fun h3 tk3 F4 N4 => ?_)
      k_steps
      have e0 : cur = fin := hfin
      subst e0
      exact hret _ _ _ (by assumption) (by assumption) R2 K2
    | cons t lk ih =>
      cases D2 with
      | cons d1 d2 =>
      refine ItemsRest.val (fun h3 tk3 F4 => AllObj.cons (fun o ho => AllObj.nil (fun N4 => ?_)))
      obtain ⟨a5, n5, t1, t2, t3, rfl, hm⟩ := dat3_inv d1
      have IT := News.isTup N4 (List.mem_cons_of_mem _ (T3 _ hm).1)
      obtain ⟨u4, F5⟩ := fr_norm [(Str.ofString "row", .ref r)] F4 (by simp [hrow])
      clear F4
      simp only [kstB] at F5
      have R5 : RowIn r ax cur ((I, o) :: nw) := R2.sub fun p hp => List.mem_cons_of_mem _ hp
      obtain ⟨⟨x, d⟩, hx⟩ : ∃ p, ax[t.1]? = some p := ⟨_, List.getElem?_eq_getElem (hpl t (.head _))⟩
      obtain ⟨c, hc⟩ := R2.cell hx
      k_steps
      have Kz := KeepND.trans ‹KeepND ([_] ++ nw) _› (KeepND.trans ‹KeepND _ _› ‹KeepND _ _›)
      rename RowIn _ _ _ _ => Rz
      rename News g0 _ _ _ => Nz
      rw [List.set_set, List.set_set] at Rz
      have hcI : o.cls ≠ .type "dict" := by rw [ho]; simp
      refine ⟨_, _, _, dropL I _, rfl, ‹Fr g0 _ _ _›, news_sub Nz fun p hp => ?_, fun p hp q hq => by rw [List.mem_singleton.mp hq]; exact (of_dropL hp).2, ⟨mem_dropL (Kz _ (.tail _ M2) (.inl (by rw [hlc]; simp))) hlI, trivial⟩, ?_⟩
      · rcases List.mem_append.mp hp with q | q
        · rw [List.mem_singleton.mp q]
          exact Kz _ (.head _) (.inl hcI)
        · exact (of_dropL q).1
      · refine ih (dropL I _) _ (fun p hp hcl => mem_dropL (Kz _ (.tail _ (K2 p hp hcl)) hcl) (hnI p hp hcl)) d2 (fun t ht => hpl t (.tail _ ht)) (fun p hp => ⟨mem_dropL (Kz _ (.tail _ (T3 p hp).1) (.inl (by rw [(T3 p hp).2.1]; simp))) (T3 p hp).2.2, (T3 p hp).2⟩) _ rfl _ (Rz.away hRA fun p hp hn => mem_dropL hp hn) hfin (mem_dropL (Kz _ (.tail _ M2) (.inl (by rw [hlc]; simp))) hlI)
end
end Mine

namespace Mine
local macro_rules | `(tactic| walk_at "zzz") => `(tactic| fail "none")
theorem start_L3Tie : True := by
  w_top off
  trivial
local macro_rules | `(tactic| walk_at "setAttr ref") => `(tactic| ((with_reducible show wpAny _ _ (setAttr (Value.ref _) (Str.ofString "parent") _) _ _ _); k_dflt (refine row_setPar (by assumption) (by assumption) (by assumption) (by assumption) (by assumption) (by assumption) ?_); intro h' n' F' N' R' K' C'; (try k_sweep); (try dsimp only at C')))
local macro_rules | `(tactic| walk_at "setAttr ref") => `(tactic| ((with_reducible show wpAny _ _ (setAttr (Value.ref _) (Str.ofString "bond") _) _ _ _); k_dflt (refine row_setBond (by assumption) (by assumption) (by assumption) (by assumption) (by assumption) (by assumption) ?_); intro h' n' F' N' R' K' C'; (try k_sweep); (try dsimp only at C')))
local macro_rules | `(tactic| walk_at "setAttr ref") => `(tactic| ((with_reducible show wpAny _ _ (setAttr (Value.ref _) (Str.ofString "y_offset") _) _ _ _); k_dflt (refine row_setY (by assumption) (by assumption) (by assumption) (by assumption) (by assumption) (by assumption) ?_); intro h' n' F' N' R' K' C'; (try k_sweep); (try dsimp only at C')))
local macro_rules | `(tactic| walk_at "getAttr ref") => `(tactic| ((with_reducible show wpAny _ _ (getAttr (Value.ref _) (Str.ofString "parent") _) _ _ _); k_dflt (refine row_getPar (by assumption) (by assumption) (by assumption) (by assumption) (by assumption) (by assumption) ?_); intro tg))
local macro_rules | `(tactic| walk_at "getAttr ref") => `(tactic| ((with_reducible show wpAny _ _ (getAttr (Value.ref _) (Str.ofString "bond") _) _ _ _); k_dflt (refine row_getBond (by assumption) (by assumption) (by assumption) (by assumption) (by assumption) (by assumption) ?_); intro tg))
local macro_rules | `(tactic| walk_at "getAttr ref") => `(tactic| ((with_reducible show wpAny _ _ (getAttr (Value.ref _) (Str.ofString "y_offset") _) _ _ _); k_dflt (refine row_getY (by assumption) (by assumption) (by assumption) (by assumption) (by assumption) (by assumption) ?_); intro tg))
local macro_rules | `(tactic| walk_at "subscriptTail Name Name ref int") => `(tactic| ((with_reducible show wpAny _ _ (subscriptTail _ _ (Value.ref _) (Value.int _ _)) _ _ _); k_dflt (refine row_item (by assumption) (by assumption) rfl (by assumption) ?_)))
local macro_rules | `(tactic| walk_at "call ref") => `(tactic| ((with_reducible show wpAny _ _ (call (Value.ref 28) _ _) _ _ _); k_dflt (refine' loosen_spec ?k1 ?k2 ?k3 ?k4 ?k5 ?k6 ?k7 ?k8 ?k9 ?k10 ?_; (case k1 => k_asm); (case k2 => k_asm); (case k3 => k_asm); (case k4 => k_asm); (case k5 => k_asm); (case k6 => exact rfl); (case k7 => ktr_room); (case k8 => k_asm); (case k9 => k_asm); (case k10 => k_asm)); intro h' tk' n' F' N' R' K' C'; (try k_sweep)))
local macro_rules | `(tactic| tb_start) => `(tactic| repeat' (first | ((fail_if_success (with_reducible show wpAny _ _ (exec (Stmt.While _ _ _ _) _) _ _ _)); (fail_if_success (with_reducible show wpAny _ _ (exec (Stmt.For _ _ _ _ _) _) _ _ _)); first | (k_unfold; (try dsimp only)) | walk1 | (dsimp only; walk1)) | fail "no step"))
section
variable {w : World} {mean : ExcName → Option Value} {mg mb : Str → Option Value} {dp un : Nat} {gd : Option (List Code)} {cn : Str} {scp : Scope} {a : Addr} {ccd : Value} {cl : List (Str × Addr)} {outer : List Env} {A₀ : Around} {base h₀ : Heap} {L : Addr} {m : Str → Option Value} {news : Led} {s : Shared} {E : Value → Shared → Prop} {Q : Value → Shared → Prop}
variable {r : Addr} {ax : List (Addr × Addr)} {cs : List Cel}


theorem turn_spec2 {ci pi : Nat} {tc tp : Tok} (B : Below A₀ base outer h₀) (F : Fr h₀ L s.heap m) (X : (hd.heap_39 w.params).In h₀) (N : News h₀ L s.heap news)
    (T : Top hd.view_39 (looseW hd.view_39 []) mean mg mb h₀) (hk : scp.kind = .function) (hdp : dp + 3 < recursionLimit)
    (R : RowIn r ax cs news) (W : Wf cs) (hci : ci < cs.length)
    (h : ∀ h' tk news' here ck lk c T, Fr h₀ L h' m → News h₀ L h' news' → RowIn r ax T news' → KeepND news news' → TS cs ci pi here ck lk → ck[here]? = some c → (c.par = 0 ∨ (here : Int) + c.par = pi) → GS cs ci here T ∧ T = applyL (cutc ck here) lk → Q .none { s with heap := h', toks := tk }) :
    wpAny (model PySem.Challenge.rw_nu0149_01.row.prog w) (ktrTop dp un gd cn scp L a ccd cl outer) (call (.ref 35) [.ref r, .int ci tc, .int pi tp]) Q E s :=
  turn_spec B F X N T hk hdp R W hci fun h' tk n here ck lk c a b c' d e f g => h h' tk n here ck lk c _ a b c' d e f g ⟨e.good W hci, rfl⟩
end
local macro_rules | `(tactic| walk_at "call ref") => `(tactic| ((with_reducible show wpAny _ _ (call (Value.ref 35) _ _) _ _ _); k_dflt (refine' turn_spec2 ?k1 ?k2 ?k3 ?k4 ?k5 ?k6 ?k7 ?k8 ?k9 ?k10 ?_; (case k1 => k_asm); (case k2 => k_asm); (case k3 => k_asm); (case k4 => k_asm); (case k5 => k_asm); (case k6 => exact rfl); (case k7 => ktr_room); (case k8 => k_asm); (case k9 => k_asm); (case k10 => k_asm)); intro h' tk' n' here' ck' lk' c' T' F' N' R' K' S' C' D' G'; (try k_sweep)))
local macro_rules | `(tactic| walk_at "call ref") => `(tactic| ((with_reducible show wpAny _ _ (call (Value.ref 42) _ _) _ _ _); k_dflt (refine' break_spec ?k1 ?k2 ?k3 ?k4 ?k5 ?k6 ?k7 ?k8 ?k9 ?k10 ?k11 ?_; (case k1 => k_asm); (case k2 => k_asm); (case k3 => k_asm); (case k4 => k_asm); (case k5 => k_asm); (case k6 => exact rfl); (case k7 => ktr_room); (case k8 => k_asm); (case k9 => exact GS.wf (And.left (by assumption))); (case k10 => (rw [GS.len (And.left (by assumption))]; assumption)); (case k11 => assumption)); intro h' tk' n' j' c' F' N' R' K' U' C' J' D'; (try k_sweep)))
section
variable {w : World} {mean : ExcName → Option Value} {mg mb : Str → Option Value} {dp un : Nat} {gd : Option (List Code)} {cn : Str} {scp : Scope} {a : Addr} {ccd : Value} {cl : List (Str × Addr)} {outer : List Env} {A₀ : Around} {base h₀ : Heap} {L : Addr} {m : Str → Option Value} {news : Led} {s : Shared} {E : Value → Shared → Prop} {Q : Value → Shared → Prop}
variable {r : Addr} {ax : List (Addr × Addr)} {cs : List Cel}


theorem tie_spec {ci pi : Nat} {tc tp to : Tok} {off : Int} (B : Below A₀ base outer h₀) (F : Fr h₀ L s.heap m) (X : (hd.heap_39 w.params).In h₀) (N : News h₀ L s.heap news)
    (T : Top hd.view_39 (looseW hd.view_39 []) mean mg mb h₀) (hk : scp.kind = .function) (hdp : dp + 5 < recursionLimit)
    (R : RowIn r ax cs news) (W : Wf cs) (hci : ci < cs.length) (hpi : pi < cs.length) (hne : pi ≠ ci)
    (h : ∀ h' tk news' G, Fr h₀ L h' m → News h₀ L h' news' → RowIn r ax G news' → KeepND news news' → TieOut cs ci pi off G → Q .none { s with heap := h', toks := tk }) :
    wpAny (model PySem.Challenge.rw_nu0149_01.row.prog w) (ktrTop dp un gd cn scp L a ccd cl outer) (call (.ref 49) [.ref r, .int ci tc, .int pi tp, .int off to]) Q E s := by
  refine wpAny_call ?_
  k_dflt ktr_enter
  rename_i g0 L0 _ FG0 F1 N0 B0 X0 T0
  obtain ⟨u0, F0⟩ := fr_norm [(Str.ofString "row", .ref r), (Str.ofString "child", .int ci tc), (Str.ofString "parent", .int pi tp), (Str.ofString "offset", .int off to)] F1 (by kst_all)
  clear F1
  simp only [kstB] at F0
  refine wpAny_noRaise ?_
  k_steps
  rename_i _ _ n1 here ck lk c1 T1 R1 K1 S1 C1 D1 G1 _ _ n2 j c2 F2 N2 R2 K2 U2 C2 J2 D2
  obtain ⟨⟨x, d⟩, hx⟩ : ∃ p, ax[ci]? = some p := ⟨_, List.getElem?_eq_getElem (by have := R.len; omega)⟩
  obtain ⟨cb, hcb⟩ := R2.cell hx
  k_steps
  have Kz := KeepND.trans K1 (KeepND.trans K2 (KeepND.trans ‹KeepND n2 _› (KeepND.trans ‹KeepND _ _› ‹KeepND _ _›)))
  rename RowIn _ _ _ _ => Rz
  rw [List.set_set, List.set_set] at Rz
  obtain ⟨_, rfl⟩ := G1
  exact h _ _ _ _ ‹Fr h₀ L _ _› ‹News h₀ L _ _› Rz Kz (tie_pure W hci hpi hne S1 C1 D1 U2 C2 J2 D2)
end
end Mine

namespace Mine
local macro_rules | `(tactic| walk_at "zzz") => `(tactic| fail "none")
local macro_rules | `(tactic| walk_at "zzz") => `(tactic| fail "none")
local macro_rules | `(tactic| walk_at "zzz") => `(tactic| fail "none")
theorem start_L4Root : True := by
  w_top off
  trivial
local macro_rules | `(tactic| walk_at "setAttr ref") => `(tactic| ((with_reducible show wpAny _ _ (setAttr (Value.ref _) (Str.ofString "parent") _) _ _ _); k_dflt (refine row_setPar (by assumption) (by assumption) (by assumption) (by assumption) (by assumption) (by assumption) ?_); intro h' n' F' N' R' K' C'; (try k_sweep); (try dsimp only at C')))
local macro_rules | `(tactic| walk_at "setAttr ref") => `(tactic| ((with_reducible show wpAny _ _ (setAttr (Value.ref _) (Str.ofString "bond") _) _ _ _); k_dflt (refine row_setBond (by assumption) (by assumption) (by assumption) (by assumption) (by assumption) (by assumption) ?_); intro h' n' F' N' R' K' C'; (try k_sweep); (try dsimp only at C')))
local macro_rules | `(tactic| walk_at "setAttr ref") => `(tactic| ((with_reducible show wpAny _ _ (setAttr (Value.ref _) (Str.ofString "y_offset") _) _ _ _); k_dflt (refine row_setY (by assumption) (by assumption) (by assumption) (by assumption) (by assumption) (by assumption) ?_); intro h' n' F' N' R' K' C'; (try k_sweep); (try dsimp only at C')))
local macro_rules | `(tactic| walk_at "getAttr ref") => `(tactic| ((with_reducible show wpAny _ _ (getAttr (Value.ref _) (Str.ofString "parent") _) _ _ _); k_dflt (refine row_getPar (by assumption) (by assumption) (by assumption) (by assumption) (by assumption) (by assumption) ?_); intro tg))
local macro_rules | `(tactic| walk_at "getAttr ref") => `(tactic| ((with_reducible show wpAny _ _ (getAttr (Value.ref _) (Str.ofString "bond") _) _ _ _); k_dflt (refine row_getBond (by assumption) (by assumption) (by assumption) (by assumption) (by assumption) (by assumption) ?_); intro tg))
local macro_rules | `(tactic| walk_at "getAttr ref") => `(tactic| ((with_reducible show wpAny _ _ (getAttr (Value.ref _) (Str.ofString "y_offset") _) _ _ _); k_dflt (refine row_getY (by assumption) (by assumption) (by assumption) (by assumption) (by assumption) (by assumption) ?_); intro tg))
local macro_rules | `(tactic| walk_at "subscriptTail Name Name ref int") => `(tactic| ((with_reducible show wpAny _ _ (subscriptTail _ _ (Value.ref _) (Value.int _ _)) _ _ _); k_dflt (refine row_item (by assumption) (by assumption) rfl (by assumption) ?_)))
local macro_rules | `(tactic| walk_at "call builtin:len") => `(tactic| ((with_reducible show wpAny _ _ (call (Value.builtin "len") [Value.ref _]) _ _ _); k_dflt (refine row_len (by assumption) (by assumption) ?_); intro tl' tk'))
local macro_rules | `(tactic| walk_at "TurnQ") => `(tactic| (dsimp only [TurnQ]))
local macro_rules | `(tactic| tb_start) => `(tactic| repeat' (first | ((fail_if_success (with_reducible show wpAny _ _ (exec (Stmt.While _ _ _ _) _) _ _ _)); (fail_if_success (with_reducible show wpAny _ _ (pyIter _) _ _ _)); first | (k_unfold; (try dsimp only)) | walk1 | (dsimp only; walk1)) | fail "no step"))
section
variable {w : World} {mean : ExcName → Option Value} {mg mb : Str → Option Value} {dp un : Nat} {gd : Option (List Code)} {cn : Str} {scp : Scope} {a : Addr} {ccd : Value} {cl : List (Str × Addr)} {outer : List Env} {A₀ : Around} {base h₀ : Heap} {L : Addr} {m : Str → Option Value} {news : Led} {s : Shared} {E : Value → Shared → Prop} {Q : Value → Shared → Prop}
variable {r : Addr} {ax : List (Addr × Addr)} {cs : List Cel}


theorem root_spec {ai : Nat} {ta : Tok} (B : Below A₀ base outer h₀) (F : Fr h₀ L s.heap m) (X : (hd.heap_39 w.params).In h₀) (N : News h₀ L s.heap news)
    (T : Top hd.view_39 (looseW hd.view_39 []) mean mg mb h₀) (hk : scp.kind = .function) (hdp : dp + 1 < recursionLimit)
    (R : RowIn r ax cs news) (W : Wf cs) (hai : ai < cs.length)
    (h : ∀ h' tk t rt, Fr h₀ L h' m → News h₀ L h' news → Up cs ai rt → Root cs rt → Q (.int (rt : Nat) t) { s with heap := h', toks := tk }) :
    wpAny (model PySem.Challenge.rw_nu0149_01.row.prog w) (ktrTop dp un gd cn scp L a ccd cl outer) (call (.ref 56) [.ref r, .int ai ta]) Q E s := by
  refine wpAny_call ?_
  k_dflt ktr_enter
  rename_i g0 L0 _ FG0 F1 N0 B0 X0 T0
  obtain ⟨u0, F0⟩ := fr_norm [(Str.ofString "row", .ref r), (Str.ofString "at", .int ai ta)] F1 (by kst_all)
  clear F1
  simp only [kstB] at F0
  refine wpAny_noRaise ?_
  tb_start
  refine iter_rangeM (n := cs.length) (fun i m nw => nw = news ∧ m (Str.ofString "row") = some (.ref r) ∧ ∃ (here : Nat) (t : Tok), m (Str.ofString "here") = some (.int (here : Nat) t) ∧ Steps cs ai i here) (by exact rfl) (by assumption) rfl (by have := R.len; have := R.small; omega) (by assumption) (by assumption) ⟨rfl, rfl, ai, ta, rfl, .zero⟩ ?_ ?_
  · rintro i m1 nw I o h1 tk1 t1 hin ⟨rfl, hr, here, t, hh, hs⟩ hoff hlt hoc F1 N1
    obtain ⟨u1, F2⟩ := fr_norm [(Str.ofString "row", .ref r), (Str.ofString "here", .int (here : Nat) t)] F1 (by simp (decide := true) [hr, hh])
    clear F1
    simp only [kstB] at F2
    k_sweep
    obtain ⟨c, hc⟩ := hs.at_ W hai
    obtain ⟨⟨x, d⟩, hx⟩ : ∃ p, ax[here]? = some p := ⟨_, List.getElem?_eq_getElem (by have := R.len; have := hs.up.lt W hai; omega)⟩
    have R1 : RowIn r ax cs ((I, o) :: nw) := R.sub fun p hp => List.mem_cons_of_mem _ hp
    have hbb : c.par ≠ 0 → (c.bond == BONDS) = true := fun hp => by rw [W.bond _ _ hc hp]; simp
    k_steps
    · exact h _ _ _ here (by assumption) (news_sub ‹News h₀ L _ _› fun p hp => .tail _ hp) hs.up fun c' hc' => by rw [hc] at hc'; cases hc'; assumption
    · have hq := hbb ‹c.par ≠ 0›
      simp_all
    · have hp0 := ‹c.par ≠ 0›
      have hb := W.inb _ _ hc hp0
      have ek : ((((here : Int) + c.par).toNat : Nat) : Int) = (here : Int) + c.par := by omega
      rename Fr g0 _ _ _ => F3
      obtain ⟨tq, hm⟩ := fr_int F3 (x := Str.ofString "here") rfl
      exact ⟨_, _, _, _, nw, rfl, F3, ‹News g0 _ _ _›, .head _, fun p hp => ⟨.tail _ hp, hoff p hp⟩, rfl, rfl, ((here : Int) + c.par).toNat, tq, by rw [ek]; exact hm, hs.succ hc hp0 ek⟩
  · rintro m1 nw h1 tk1 ⟨rfl, hr, here, t, hh, hs⟩ F1 N1
    exact absurd (hs.lt W hai) (Nat.lt_irrefl _)
end
end Mine

namespace Mine
local macro_rules | `(tactic| walk_at "zzz") => `(tactic| fail "none")
local macro_rules | `(tactic| walk_at "zzz") => `(tactic| fail "none")
theorem start_L4Draw : True := by
  w_top off
  trivial
local macro_rules | `(tactic| walk_at "setAttr ref") => `(tactic| ((with_reducible show wpAny _ _ (setAttr (Value.ref _) (Str.ofString "parent") _) _ _ _); k_dflt (refine row_setPar (by assumption) (by assumption) (by assumption) (by assumption) (by assumption) (by assumption) ?_); intro h' n' F' N' R' K' C'; (try k_sweep); (try dsimp only at C')))
local macro_rules | `(tactic| walk_at "setAttr ref") => `(tactic| ((with_reducible show wpAny _ _ (setAttr (Value.ref _) (Str.ofString "bond") _) _ _ _); k_dflt (refine row_setBond (by assumption) (by assumption) (by assumption) (by assumption) (by assumption) (by assumption) ?_); intro h' n' F' N' R' K' C'; (try k_sweep); (try dsimp only at C')))
local macro_rules | `(tactic| walk_at "setAttr ref") => `(tactic| ((with_reducible show wpAny _ _ (setAttr (Value.ref _) (Str.ofString "y_offset") _) _ _ _); k_dflt (refine row_setY (by assumption) (by assumption) (by assumption) (by assumption) (by assumption) (by assumption) ?_); intro h' n' F' N' R' K' C'; (try k_sweep); (try dsimp only at C')))
local macro_rules | `(tactic| walk_at "getAttr ref") => `(tactic| ((with_reducible show wpAny _ _ (getAttr (Value.ref _) (Str.ofString "parent") _) _ _ _); k_dflt (refine row_getPar (by assumption) (by assumption) (by assumption) (by assumption) (by assumption) (by assumption) ?_); intro tg))
local macro_rules | `(tactic| walk_at "getAttr ref") => `(tactic| ((with_reducible show wpAny _ _ (getAttr (Value.ref _) (Str.ofString "bond") _) _ _ _); k_dflt (refine row_getBond (by assumption) (by assumption) (by assumption) (by assumption) (by assumption) (by assumption) ?_); intro tg))
local macro_rules | `(tactic| walk_at "getAttr ref") => `(tactic| ((with_reducible show wpAny _ _ (getAttr (Value.ref _) (Str.ofString "y_offset") _) _ _ _); k_dflt (refine row_getY (by assumption) (by assumption) (by assumption) (by assumption) (by assumption) (by assumption) ?_); intro tg))
local macro_rules | `(tactic| walk_at "subscriptTail Name Name ref int") => `(tactic| ((with_reducible show wpAny _ _ (subscriptTail _ _ (Value.ref _) (Value.int _ _)) _ _ _); k_dflt (refine row_item (by assumption) (by assumption) rfl (by assumption) ?_)))
local macro_rules | `(tactic| walk_at "call builtin:len") => `(tactic| ((with_reducible show wpAny _ _ (call (Value.builtin "len") [Value.ref _]) _ _ _); k_dflt (refine row_len (by assumption) (by assumption) ?_); intro tl' tk'))
local macro_rules | `(tactic| walk_at "call builtin:len") => `(tactic| ((with_reducible show wpAny _ _ (call (Value.builtin "len") [Value.ref _]) _ _ _); k_dflt (refine list_len (by assumption) (by assumption) (by omega) ?_); intro tl' tk'))
local macro_rules | `(tactic| walk_at "subscriptTail") => `(tactic| ((with_reducible show wpAny _ _ (subscriptTail _ _ (Value.ref _) (Value.int _ _)) _ _ _); k_dflt (first | (refine item_litK (News.isList (by assumption) (by assumption)) (by decide) (by decide) rfl ?_) | (refine ksa_sub (by assumption) (by assumption) (by assumption) (by omega) (by omega) (by omega) ?_; intro ti'))))
local macro_rules | `(tactic| walk_at "setItem ref int") => `(tactic| ((with_reducible show wpAny _ _ (setItem (Value.ref _) (Value.int _ _) _) _ _ _); k_dflt (refine list_set (by assumption) (by assumption) (by assumption) (by decide) (Nat.le_of_ble_eq_true rfl) (by decide) ?_); intro h' n' F' N' M' K'; (try k_sweep)))
local macro_rules | `(tactic| tb_start) => `(tactic| repeat' (first | ((fail_if_success (with_reducible show wpAny _ _ (exec (Stmt.While _ _ _ _) _) _ _ _)); (fail_if_success (with_reducible show wpAny _ _ (pyIter _) _ _ _)); first | (k_unfold; (try dsimp only)) | walk1 | (dsimp only; walk1)) | fail "no step"))
section
variable {w : World} {mean : ExcName → Option Value} {mg mb : Str → Option Value} {dp un : Nat} {gd : Option (List Code)} {cn : Str} {scp : Scope} {a : Addr} {ccd : Value} {cl : List (Str × Addr)} {outer : List Env} {A₀ : Around} {base h₀ : Heap} {L : Addr} {m : Str → Option Value} {news : Led} {s : Shared} {E : Value → Shared → Prop} {Q : Value → Shared → Prop}
variable {r : Addr} {ax : List (Addr × Addr)} {cs : List Cel}


theorem draw_spec {src cl' : Addr} {e1 e2 : Nat} {at_ lim : Int} {t0 tlim : Tok} {vs : List Value} {ns : List Int} (B : Below A₀ base outer h₀) (F : Fr h₀ L s.heap m) (X : (hd.heap_39 w.params).In h₀) (N : News h₀ L s.heap news)
    (T : Top hd.view_39 (looseW hd.view_39 []) mean mg mb h₀) (hk : scp.kind = .function) (hdp : dp + 1 < recursionLimit)
    (M : (src, listOf [.ref cl', .int at_ t0].toArray e1) ∈ news) (M2 : (cl', listOf vs.toArray e2) ∈ news) (hne : cl' ≠ src) (hi : IntsAre vs ns) (h1 : 0 < ns.length) (h2 : ns.length ≤ 60) (h3 : 0 < lim)
    (h : ∀ h' tk news' k t t', Fr h₀ L h' m → News h₀ L h' news' → 0 ≤ k → k < lim → (src, listOf [.ref cl', .int (at_ + 1) t'].toArray e1) ∈ news' → (∀ p ∈ news, p.1 ≠ src → p ∈ news') → Q (.int k t) { s with heap := h', toks := tk }) :
    wpAny (model PySem.Challenge.rw_nu0149_01.row.prog w) (ktrTop dp un gd cn scp L a ccd cl outer) (call (.ref 103) [.ref src, .int lim tlim]) Q E s := by
  refine wpAny_call ?_
  k_dflt ktr_enter
  rename_i g0 L0 _ FG0 F1 N0 B0 X0 T0
  obtain ⟨u0, F0⟩ := fr_norm [(Str.ofString "source", .ref src), (Str.ofString "limit", .int lim tlim)] F1 (by kst_all)
  clear F1
  simp only [kstB] at F0
  refine wpAny_noRaise ?_
  have hl := hi.length
  k_steps
  rename_i _ _ _ n2 F2 N2 M4 K4
  have M3 := K4 _ M2 hne
  k_steps
  exact h _ _ n2 _ _ _ ‹Fr h₀ L _ _› ‹News h₀ L _ _› (fmod_lo _ h3) (fmod_hi _ h3) M4 K4
end
end Mine

namespace Mine

/-- every question asks for two of the first n, every answer leads to a good leaf -/
noncomputable def OkT {α : Type} (n : Nat) (P : α → Prop) : KasT α → Prop
  | .ret a => P a
  | .ask i j k => i < n ∧ j < n ∧ ∀ b, OkT n P (k b)
theorem okT_wp {α : Type} {n : Nat} {P : α → Prop} {cmp : Nat → Nat → (Bool → Shared → Prop) → Shared → Prop} {Q : α → Shared → Prop} {s : Shared}
    (hc : ∀ i j, i < n → j < n → ∀ C : Bool → Shared → Prop, (∀ b, C b s) → cmp i j C s) (hQ : ∀ a, P a → Q a s) : ∀ T : KasT α, OkT n P T → T.kasWp cmp Q s
  | .ret a, h => hQ a h
  | .ask i j k, h => hc i j h.1 h.2.1 _ fun b => okT_wp hc hQ (k b) (h.2.2 b)
theorem okT_bind {α β : Type} {n : Nat} {P : α → Prop} {R : β → Prop} {f : α → KasT β} (hf : ∀ a, P a → OkT n R (f a)) : ∀ T : KasT α, OkT n P T → OkT n R (T.bind f)
  | .ret a, h => hf a h
  | .ask _ _ k, h => ⟨h.1, h.2.1, fun b => okT_bind hf (k b) (h.2.2 b)⟩
/-- p is the first n in some order -/
def PermA (n : Nat) (p : Array Nat) : Prop := p.Perm (List.range n).toArray
theorem PermA.lt {n : Nat} {p : Array Nat} (h : PermA n p) (hn : 0 < n) (i : Nat) : p.getD i 0 < n := by
  by_cases q : i < p.size
  · have h1 : p.getD i 0 = p[i] := by simp [Array.getD, q]
    rw [h1]
    have h2 : p[i] ∈ (List.range n).toArray := h.mem_iff.mp (Array.getElem_mem q)
    simpa using h2
  · have h1 : p.getD i 0 = 0 := by simp [Array.getD, q]
    omega
theorem PermA.rev {n : Nat} {p : Array Nat} (h : PermA n p) (i j : Nat) : PermA n (kas_rev p i j) := (mirror_perm p i j _).trans h
theorem PermA.bub {n : Nat} {p : Array Nat} (h : PermA n p) (k d : Nat) : PermA n (bubble p k d) := (bubble_perm p k d).trans h
section
variable {n : Nat} (hn : 0 < n)
include hn
theorem ok_asc {p : Array Nat} (h : PermA n p) : ∀ f k, OkT n (fun _ => True) (kas_asc p f k)
  | 0, _ => trivial
  | f + 1, k => ⟨h.lt hn _, h.lt hn _, fun b => by cases b with
    | true => exact trivial
    | false => exact ok_asc h f (k + 1)⟩
theorem ok_desc : ∀ f {p : Array Nat} (_ : PermA n p) k q, OkT n (fun r => PermA n r.1) (kas_desc f p k q)
  | 0, _, h, _, _ => h
  | f + 1, p, h, k, q => by
    refine ⟨h.lt hn _, h.lt hn _, fun b => ?_⟩
    cases b with
    | true =>
      simp only [if_true]
      split
      · exact ok_desc f (h.rev _ _) _ _
      · exact ok_desc f h _ _
    | false =>
      simp only [Bool.false_eq_true, if_false]
      refine ⟨h.lt hn _, h.lt hn _, fun d => ?_⟩
      cases d with
      | true => exact h
      | false => exact ok_desc f h _ _
theorem ok_tail3 {p : Array Nat} (h : PermA n p) (a b : Nat) : OkT n (fun r => PermA n r.2) (kas_tail3 a b p) := by
  refine okT_bind (P := fun _ => True) (fun k _ => ?_) _ (ok_asc hn (h.rev _ _) _ _)
  exact h.rev _ _
theorem ok_descPart {p : Array Nat} (h : PermA n p) (a b : Nat) : OkT n (fun r => PermA n r.2) (kas_descPart a b p) := by
  refine okT_bind (P := fun r => PermA n r.1) (fun r hr => ?_) _ (ok_desc hn _ h _ _)
  split
  · exact ok_tail3 hn (hr.rev _ _) _ _
  · exact ok_tail3 hn hr _ _
theorem ok_count {p : Array Nat} (h : PermA n p) (a : Nat) : OkT n (fun r => PermA n r.2) (kas_count a p) := by
  refine okT_bind (P := fun _ => True) (fun k _ => ?_) _ (ok_asc hn h _ _)
  split
  · exact h
  · split
    · refine ⟨h.lt hn _, h.lt hn _, fun b => ?_⟩
      cases b with
      | true => exact h
      | false => exact ok_descPart hn (h.rev _ _) _ _
    · exact ok_descPart hn h _ _
theorem ok_place {p : Array Nat} (h : PermA n p) (k : Nat) : ∀ f l r, OkT n (fun _ => True) (kas_place p k f l r)
  | 0, _, _ => trivial
  | f + 1, l, r => by
    unfold kas_place
    split
    · exact trivial
    · refine ⟨h.lt hn _, h.lt hn _, fun b => ?_⟩
      cases b with
      | true => exact ok_place h k f _ _
      | false => exact ok_place h k f _ _
theorem ok_bin : ∀ f {p : Array Nat} (_ : PermA n p) k, OkT n (PermA n) (kas_bin f p k)
  | 0, _, h, _ => h
  | f + 1, p, h, k => okT_bind (P := fun _ => True) (fun _ _ => ok_bin f (h.bub _ _) _) _ (ok_place hn h _ _ _ _)
theorem okAll : OkT n (PermA n) (kas_sort n) := by
  refine okT_bind (P := fun r => PermA n r.2) (fun r hr => ?_) _ (ok_count hn (Array.Perm.refl _) _)
  split
  · exact ok_bin hn _ hr _
  · exact hr
end
theorem perm_getD {vs : List Value} {p : Array Nat} (h : PermA vs.length p) : (p.toList.map fun i => vs.getD i Value.none).Perm vs := by
  have h1 : p.toList.Perm (List.range vs.length) := by simpa using h.toList
  have h2 := h1.map fun i => vs.getD i Value.none
  have h3 : (List.range vs.length).map (fun i => vs.getD i Value.none) = vs := by
    apply List.ext_getElem
    · simp
    · intro i h1 h2
      simp at h1
      simp [h1]
  rw [h3] at h2
  exact h2

theorem asc_run {n : Nat} {cmp : Nat → Nat → (Bool → Shared → Prop) → Shared → Prop} {Q : Nat → Shared → Prop} {s : Shared} (hc : ∀ k, 1 ≤ k → k < n → ∀ C : Bool → Shared → Prop, C false s → cmp k (k - 1) C s) (hQ : Q n s) :
    ∀ f k, k + f = n → 1 ≤ k → (kas_asc (List.range n).toArray f k).kasWp cmp Q s
  | 0, k, h, _ => by
    have : k = n := by omega
    subst this
    exact hQ
  | f + 1, k, h, h1 => by
    have e1 : (List.range n).toArray.getD k 0 = k := by simp [Array.getD, show k < n by omega]
    have e2 : (List.range n).toArray.getD (k - 1) 0 = k - 1 := by simp [Array.getD, show k - 1 < n by omega]
    show cmp _ _ _ _
    rw [e1, e2]
    exact hc k h1 (by omega) _ (asc_run hc hQ f (k + 1) (by omega) (by omega))
/-- items in rising order stay -/
theorem sort_run {n : Nat} {cmp : Nat → Nat → (Bool → Shared → Prop) → Shared → Prop} {Q : Array Nat → Shared → Prop} {s : Shared} (h1 : 1 ≤ n) (hc : ∀ k, 1 ≤ k → k < n → ∀ C : Bool → Shared → Prop, C false s → cmp k (k - 1) C s) (hQ : Q (List.range n).toArray s) :
    (kas_sort n).kasWp cmp Q s := by
  unfold kas_sort kas_count
  rw [KasT.kasWp_bind, KasT.kasWp_bind]
  refine asc_run hc ?_ (n - 1) 1 (by omega) (Nat.le_refl _)
  rw [if_pos (by simp)]
  show KasT.kasWp cmp (if n < n then kas_bin (n - max n 1) (List.range n).toArray (max n 1) else .ret (List.range n).toArray) Q s
  rw [if_neg (Nat.lt_irrefl _)]
  exact hQ

section
variable {prog : Program} {w : World} {A : Around} {E : Value → Shared → Prop} {s : Shared} {h₀ : Heap} {L a : Addr} {m : Str → Option Value} {news : Led} {vs : List Value}
/-- list.sort of no item or one -/
theorem sort_small {n : Nat} {P : PySem.Fin → Shared → Prop} (F : Fr h₀ L s.heap m) (N : News h₀ L s.heap news) (ho : s.heap.get? a = some (seqObj "list" vs.toArray n)) (haL : a ≠ L) (ha0 : h₀.get? a = none) (hna : ∀ p ∈ news, p.1 ≠ a) (h2 : vs.length < 2)
    (h : ∀ e h', Fr h₀ L h' m → News h₀ L h' ((a, seqObj "list" vs.toArray e) :: news) → P (.done (.ret .none)) { s with heap := h' }) :
    wpAny (model prog w) A (Builtin.«list.sort» ⟨[.ref a], []⟩) P E s := by
  have hlt : a < s.heap.objs.size := Heap.lt_size ho
  have s1 := Heap.SameBut.update s.heap a (Obj.mapSeq fun _ => (#[] : Array Value))
  obtain ⟨e1, ho1⟩ : ∃ e1, (s.heap.update a (Obj.mapSeq fun _ => (#[] : Array Value))).get? a = some (seqObj "list" #[] e1) := ⟨_, get?_update_seq ho fun _ => #[]⟩
  rw [list_sort_plain]
  refine wpAny_bind (listItems_at ho rfl ?_)
  refine wpAny_bind (listUpdate_at ho rfl ?_ (by rw [List.size_toArray, sizeLine_eq]; omega) (Nat.zero_le _))
  refine wpAny_bind (seqEpoch_at ho1 rfl ?_)
  refine wpAny_bind (wpAny_newTuple ?_ (by show vs.length ≤ _; rw [sizeLine_eq]; omega))
  refine wpAny_bind (wpAny_newList ?_ (Nat.zero_le _))
  refine wpAny_holding ?_
  generalize hH : ((s.heap.update a (Obj.mapSeq fun _ => (#[] : Array Value))).push (seqObj "tuple" vs.toArray 0)).push (seqObj "list" #[] 0) = H
  have F3 : Fr h₀ L H m := by rw [← hH]; exact ((kas_fr F s1 haL ha0).push _).push _
  have N3 : News h₀ L H news := by rw [← hH]; exact (kas_news N s1 hna).grown fun b x e => Heap.get?_push_of_some _ (Heap.get?_push_of_some _ e)
  have hoH : H.get? a = some (seqObj "list" #[] e1) := by rw [← hH]; exact Heap.get?_push_of_some _ (Heap.get?_push_of_some _ ho1)
  show wpAny (model prog w) A _ P E { s with heap := H }
  dsimp only
  have hn2 : vs.toArray.size < 2 := by rw [List.size_toArray]; exact h2
  rw [if_pos hn2, if_pos hn2]
  refine wpAny_bind (wpAny_pure ?_)
  refine wpAny_bind (wpAny_pure ?_)
  dsimp only
  have hout : Array.map (fun x : Keyed => x.2) (arrOf (SortSt.mk' general' (vs.toArray.zip vs.toArray) #[] 7 none)) = vs.toArray := by
    show Array.map (fun x : Keyed => x.2) (vs.toArray.zip vs.toArray) = _
    apply Array.ext <;> simp
  rw [hout]
  refine wpAny_bind (seqEpoch_at hoH rfl ?_)
  refine wpAny_bind (listUpdate_at hoH rfl ?_ (Nat.zero_le _) (by rw [List.size_toArray, sizeLine_eq]; omega))
  simp only [bne_self_eq_false, Bool.false_eq_true, if_false]
  have s2 := Heap.SameBut.update H a (Obj.mapSeq fun _ => vs.toArray)
  obtain ⟨c2, hc2⟩ : ∃ c2, (H.update a (Obj.mapSeq fun _ => vs.toArray)).get? a = some (seqObj "list" vs.toArray c2) := ⟨_, get?_update_seq hoH fun _ => vs.toArray⟩
  refine wpAny_pure (h c2 _ (kas_fr F3 s2 haL ha0) fun p hp => ?_)
  rcases List.mem_cons.mp hp with rfl | hp
  · exact ⟨hc2, haL, ha0⟩
  · exact kas_news N3 s2 hna p hp

theorem sorted_small {l : Addr} {Q : Value → Shared → Prop} (F : Fr h₀ L s.heap m) (N : News h₀ L s.heap news) (hl : s.heap.IsList l vs.toArray) (h2 : vs.length < 2)
    (h : ∀ D e h', Fr h₀ L h' m → News h₀ L h' ((D, listOf vs.toArray e) :: news) → (∀ q ∈ news, q.1 < D) → Q (.ref D) { s with heap := h' }) :
    wpAny (model prog w) A (call (.builtin "sorted") [.ref l]) Q E s := by
  refine Calls.call_function_entry kind_sorted plain_sorted entry_sorted (args_sorted1 _) ?_
  unfold Builtin.«sorted»
  refine wpAny_bind (m := checkCount "sorted" 1 1 _) (wpAny_pure ?_)
  refine wpAny_bind (collect_list hl ?_ (by rw [sizeLine_eq]; omega))
  refine wpAny_bind (wpAny_newList ?_ (by rw [sizeLine_eq]; omega))
  generalize hG : (s.heap.push (seqObj "list" #[] 0)).update s.heap.objs.size (Obj.mapSeq (· ++ vs.toArray)) = G
  have hsz : G.objs.size = s.heap.objs.size + 1 := by rw [← hG, Heap.size_update, size_push']
  have keep : ∀ b o, s.heap.get? b = some o → (G.push (seqObj "list" vs.toArray 0)).get? b = some o := fun b o q => by
    have hlt : b < s.heap.objs.size := Heap.lt_size q
    rw [Heap.get?_push_ne _ _ _ (by rw [hsz]; exact Nat.ne_of_lt (Nat.lt_succ_of_lt hlt)), ← hG, Heap.get?_update_ne _ _ _ _ (Nat.ne_of_lt hlt), Heap.get?_push_ne _ _ _ (Nat.ne_of_lt hlt)]
    exact q
  have hL : L < s.heap.objs.size := F.ns.lt
  have hoL : (G.push (seqObj "list" vs.toArray 0)).get? G.objs.size = some (seqObj "list" vs.toArray 0) := Heap.get?_push_size _ rfl
  show wpAny _ _ _ _ _ { s with heap := G.push (seqObj "list" vs.toArray 0) }
  refine wpAny_bind (wpAny_holding (wpAny_call_entry slot_list_sort ⟨_, hoL, rfl⟩ entry_list_sort ?body (args_list_sort _)))
  case body =>
    refine sort_small (s := { s with heap := G.push (seqObj "list" vs.toArray 0) }) (F.kept keep) (N.grown keep) hoL (by rw [hsz]; exact Nat.ne_of_gt (Nat.lt_succ_of_lt hL))
      (Heap.get?_none_of_le (by rw [hsz]; exact Nat.le_trans F.above (Nat.le_succ_of_le (Nat.le_of_lt hL)))) (fun p hp => by rw [hsz]; exact Nat.ne_of_lt (Nat.lt_succ_of_lt (Heap.lt_size (N p hp).1))) h2 fun e h' F' N' => ?_
    exact ⟨_, rfl, wpAny_pure ⟨_, rfl, h _ e h' F' N' fun q hq => by rw [hsz]; exact Nat.lt_succ_of_lt (Heap.lt_size (N q hq).1)⟩⟩

/-- sorted, where any answer will do: the items in some order -/
theorem sorted_perm {l : Addr} {Q : Value → Shared → Prop} (F : Fr h₀ L s.heap m) (N : News h₀ L s.heap news) (hl : s.heap.IsList l vs.toArray) (h64 : vs.length < 64)
    (ask : 2 ≤ vs.length → ∀ h' news', Fr h₀ L h' m → News h₀ L h' news' → (∀ p ∈ news, p ∈ news') → wpAny (model prog w) A.in1.in1 (keyKind' vs.toArray) (fun κ s' => s' = { s with heap := h' } ∧
      ∀ i j, i < vs.length → j < vs.length → ∀ C : Bool → Shared → Prop, (∀ b, C b s') → kas_ask prog w A.in1.in1 κ vs i j C s') (fun _ _ => False) { s with heap := h' })
    (h : ∀ D e h' (vs' : List Value), Fr h₀ L h' m → News h₀ L h' ((D, listOf vs'.toArray e) :: news) → (∀ q ∈ news, q.1 < D) → vs'.Perm vs → Q (.ref D) { s with heap := h' }) :
    wpAny (model prog w) A (call (.builtin "sorted") [.ref l]) Q E s := by
  by_cases h2 : vs.length < 2
  · exact sorted_small F N hl h2 fun D e h' F' N' l1 => h D e h' vs F' N' l1 (List.Perm.refl _)
  · refine kat_sorted F N hl (by omega) h64 fun D e1 h' F' N' l1 => ?_
    refine wpAny_mono (ask (by omega) h' _ F' N' fun p hp => .tail _ hp) (fun κ s' hk => ?_) fun _ _ x => x
    obtain ⟨rfl, hk⟩ := hk
    refine okT_wp hk (fun p hp => ?_) _ (okAll (by omega))
    exact KasFin.intro (g := fun o => (D, o) :: news) F' N' (UpdF.head fun p hp => Nat.ne_of_lt (l1 p hp)) fun h2 c F2 N2 => h D c h2 _ F2 N2 l1 (perm_getD hp)
/-- sorted, where each item lies behind the one before: as it stands -/
theorem sorted_same {l : Addr} {Q : Value → Shared → Prop} (F : Fr h₀ L s.heap m) (N : News h₀ L s.heap news) (hl : s.heap.IsList l vs.toArray) (h64 : vs.length < 64)
    (ask : 2 ≤ vs.length → ∀ h' news', Fr h₀ L h' m → News h₀ L h' news' → (∀ p ∈ news, p ∈ news') → wpAny (model prog w) A.in1.in1 (keyKind' vs.toArray) (fun κ s' => s' = { s with heap := h' } ∧
      ∀ k, 1 ≤ k → k < vs.length → ∀ C : Bool → Shared → Prop, C false s' → kas_ask prog w A.in1.in1 κ vs k (k - 1) C s') (fun _ _ => False) { s with heap := h' })
    (h : ∀ D e h', Fr h₀ L h' m → News h₀ L h' ((D, listOf vs.toArray e) :: news) → (∀ q ∈ news, q.1 < D) → Q (.ref D) { s with heap := h' }) :
    wpAny (model prog w) A (call (.builtin "sorted") [.ref l]) Q E s := by
  by_cases h2 : vs.length < 2
  · exact sorted_small F N hl h2 h
  · refine kat_sorted F N hl (by omega) h64 fun D e1 h' F' N' l1 => ?_
    refine wpAny_mono (ask (by omega) h' _ F' N' fun p hp => .tail _ hp) (fun κ s' hk => ?_) fun _ _ x => x
    obtain ⟨rfl, hk⟩ := hk
    refine sort_run (by omega) hk ?_
    refine KasFin.intro (g := fun o => (D, o) :: news) F' N' (UpdF.head fun p hp => Nat.ne_of_lt (l1 p hp)) fun h2 c F2 N2 => h D c h2 F2 ?_ l1
    have e : (List.range vs.length).toArray.toList.map (fun i => vs.getD i Value.none) = vs := by
      apply List.ext_getElem
      · simp
      · intro i h1 h2
        simp at h1
        simp [h1]
    rw [e] at N2
    exact N2
end
end Mine

namespace Mine
abbrev datE (e : Edge) : Dat := .tuple [.int e.1, .int e.2.1, .int e.2.2]
theorem datE_inv {tl : Led} {v : Value} {e : Edge} (h : DatIn tl v (datE e)) : ∃ a n t1 t2 t3, v = .ref a ∧ (a, ({ cls := .type "tuple", data := .seq #[.int e.1 t1, .int e.2.1 t2, .int e.2.2 t3] n } : Obj)) ∈ tl := by
  obtain ⟨a, n, t1, t2, t3, h1, h2⟩ := dat3_inv (t := (e.1, (e.2.1 : Int), e.2.2)) h
  exact ⟨a, n, t1, t2, t3, h1, h2⟩
theorem datE_mk {tl : Led} {D : Addr} {a b c : Int} {t1 t2 t3 : Tok} {n : Nat} {e : Edge} (h : (D, ({ cls := .type "tuple", data := .seq #[.int a t1, .int b t2, .int c t3] n } : Obj)) ∈ tl) (h1 : a = e.1) (h2 : b = e.2.1) (h3 : c = e.2.2) : DatIn tl (.ref D) (datE e) := by
  subst h1 h2 h3
  exact .tuple (vs := [_, _, _]) h (.cons (.int _ _) (.cons (.int _ _) (.cons (.int _ _) .nil)))
theorem datAll_snoc {tl : Led} {vs : List Value} {es : List Edge} {D : Addr} {o : Obj} {e : Edge} (d : DatAll tl vs (es.map datE)) (hd : DatIn ((D, o) :: tl) (.ref D) (datE e)) : DatAll ((D, o) :: tl) (vs ++ [.ref D]) ((es ++ [e]).map datE) := by
  rw [List.map_append]
  exact (d.mono fun p hp => .tail _ hp).append (.one hd)
theorem allLt_mem {d : Addr} : ∀ {l : Led}, AllLt d l → ∀ p ∈ l, p.1 < d
  | [], _, _, h => nomatch h
  | q :: r, h, p, hp => by
    rcases List.mem_cons.mp hp with rfl | hp
    · exact h.1
    · exact allLt_mem h.2 p hp
theorem datAll_get {tl : Led} {vs : List Value} {ds : List Dat} (h : DatAll tl vs ds) {i : Nat} (hi : i < vs.length) : ∃ d, ds[i]? = some d ∧ DatIn tl (vs.getD i Value.none) d := by
  have hl := h.length
  obtain ⟨v, hv, hd⟩ := h.get (k := i) (by omega)
  refine ⟨_, List.getElem?_eq_getElem (by omega), ?_⟩
  have : vs.getD i Value.none = v := by rw [List.getD, hv]; rfl
  rw [this]
  exact hd
section
variable {prog : Program} {w : World} {A : Around} {E : Value → Shared → Prop} {s : Shared} {h₀ : Heap} {L a : Addr} {m : Str → Option Value} {news tl : Led} {vs : List Value} {es : List Edge}
theorem one_any {b : Bool} {x y : Int} {t u : Tok} {Q : Bool → Shared → Prop} (h : ∀ c, Q c s) : wpAny (model prog w) A (oneLt' b (.int x t) (.int y u)) Q E s := by
  cases b with
  | true => exact oneLt_int (h _)
  | false => exact kat_one _ _ (cmp_ofLt (lt_int (h _)))
theorem go_any {b fin e : Bool} {x y : Int} {t u : Tok} {i : Nat} {r : List (Value × Value)} {Q : Bool → Shared → Prop} (h : ∀ c, Q c s) (hr : KatLex prog w A b fin Q r (i + 1) s) : KatGo prog w A b fin Q (.int x t) (.int y u) r i e s :=
  kat_go (fun _ => kat_yes hr) (fun _ => kat_no (one_any h))
theorem tup_any {b : Bool} {p q : Edge} {x y : Addr} {n k : Nat} {t1 t2 t3 u1 u2 u3 : Tok} {Q : Bool → Shared → Prop}
    (hx : s.heap.get? x = some { cls := .type "tuple", data := .seq #[.int p.1 t1, .int p.2.1 t2, .int p.2.2 t3] n }) (hy : s.heap.get? y = some { cls := .type "tuple", data := .seq #[.int q.1 u1, .int q.2.1 u2, .int q.2.2 u3] k }) (h : ∀ c, Q c s) :
    wpAny (model prog w) A (keyLt' (tuples' b) (.ref x) (.ref y)) Q E s := by
  refine kat_lt hx rfl hy rfl ?_
  exact kat_cons (wpAny_eqBool_int (go_any h (kat_cons (wpAny_eqBool_int (go_any h (kat_cons (wpAny_eqBool_int (go_any h (kat_nil (h _))))))))))
theorem tups_of (N : News h₀ L s.heap news) : ∀ {vs : List Value} {es : List Edge}, DatAll tl vs (es.map datE) → (∀ p ∈ tl, p ∈ news) → ∃ fs, KatTups s.heap vs fs ∧ fs.length = vs.length ∧ ∀ v ∈ fs, ∃ z t, v = .int z t
  | [], [], .nil, _ => ⟨[], .nil, rfl, fun _ h => nomatch h⟩
  | _ :: _, _ :: _, .cons h1 h2, hs => by
    obtain ⟨a, n, t1, t2, t3, rfl, hm⟩ := datE_inv h1
    obtain ⟨fs, k1, k2, k3⟩ := tups_of N h2 hs
    refine ⟨_ :: fs, .cons (N _ (hs _ hm)).1 rfl rfl rfl k1, by simp [k2], fun v hv => ?_⟩
    rcases List.mem_cons.mp hv with rfl | hv
    · exact ⟨_, _, rfl⟩
    · exact k3 v hv
theorem sorted_edges {l : Addr} {n : Nat} {Q : Value → Shared → Prop} (F : Fr h₀ L s.heap m) (N : News h₀ L s.heap news) (hm : (l, listOf vs.toArray n) ∈ news) (h64 : vs.length < 64) (hd : DatAll tl vs (es.map datE)) (hs : ∀ p ∈ tl, p ∈ news)
    (h : ∀ D e h' (vs' : List Value), Fr h₀ L h' m → News h₀ L h' ((D, listOf vs'.toArray e) :: news) → (∀ q ∈ news, q.1 < D) → vs'.Perm vs → Q (.ref D) { s with heap := h' }) :
    wpAny (model prog w) A (call (.builtin "sorted") [.ref l]) Q E s := by
  refine sorted_perm F N (News.isList N hm) h64 (fun h2 h' news' F' N' hsub => ?_) h
  obtain ⟨fs, k1, k2, k3⟩ := tups_of (s := { s with heap := h' }) N' hd (fun p hp => hsub p (hs p hp))
  refine kat_kind (T := .type "int") k1 (by omega) (fun v hv => ?_) rfl ⟨rfl, fun i j hi hj C hC => ?_⟩
  · obtain ⟨z, t, rfl⟩ := k3 v hv
    exact Looks.of_pure rfl
  · obtain ⟨d1, e1, g1⟩ := datAll_get hd hi
    obtain ⟨d2, e2, g2⟩ := datAll_get hd hj
    rw [List.getElem?_map] at e1 e2
    obtain ⟨x1, _, rfl⟩ := Option.map_eq_some_iff.mp e1
    obtain ⟨x2, _, rfl⟩ := Option.map_eq_some_iff.mp e2
    obtain ⟨a1, n1, _, _, _, q1, m1⟩ := datE_inv g1
    obtain ⟨a2, n2, _, _, _, q2, m2⟩ := datE_inv g2
    unfold kas_ask
    rw [q1, q2]
    exact tup_any (N' _ (hsub _ (hs _ m1))).1 (N' _ (hsub _ (hs _ m2))).1 hC
end
end Mine

namespace Mine
local macro_rules | `(tactic| walk_at "zzz") => `(tactic| fail "none")
local macro_rules | `(tactic| walk_at "zzz") => `(tactic| fail "none")
local macro_rules | `(tactic| walk_at "zzz") => `(tactic| fail "none")
theorem start_L6Links : True := by
  w_top off
  trivial
local macro_rules | `(tactic| walk_at "setAttr ref") => `(tactic| ((with_reducible show wpAny _ _ (setAttr (Value.ref _) (Str.ofString "parent") _) _ _ _); k_dflt (refine row_setPar (by assumption) (by assumption) (by assumption) (by assumption) (by assumption) (by assumption) ?_); intro h' n' F' N' R' K' C'; (try k_sweep); (try dsimp only at C')))
local macro_rules | `(tactic| walk_at "setAttr ref") => `(tactic| ((with_reducible show wpAny _ _ (setAttr (Value.ref _) (Str.ofString "bond") _) _ _ _); k_dflt (refine row_setBond (by assumption) (by assumption) (by assumption) (by assumption) (by assumption) (by assumption) ?_); intro h' n' F' N' R' K' C'; (try k_sweep); (try dsimp only at C')))
local macro_rules | `(tactic| walk_at "setAttr ref") => `(tactic| ((with_reducible show wpAny _ _ (setAttr (Value.ref _) (Str.ofString "y_offset") _) _ _ _); k_dflt (refine row_setY (by assumption) (by assumption) (by assumption) (by assumption) (by assumption) (by assumption) ?_); intro h' n' F' N' R' K' C'; (try k_sweep); (try dsimp only at C')))
local macro_rules | `(tactic| walk_at "getAttr ref") => `(tactic| ((with_reducible show wpAny _ _ (getAttr (Value.ref _) (Str.ofString "parent") _) _ _ _); k_dflt (refine row_getPar (by assumption) (by assumption) (by assumption) (by assumption) (by assumption) (by assumption) ?_); intro tg))
local macro_rules | `(tactic| walk_at "getAttr ref") => `(tactic| ((with_reducible show wpAny _ _ (getAttr (Value.ref _) (Str.ofString "bond") _) _ _ _); k_dflt (refine row_getBond (by assumption) (by assumption) (by assumption) (by assumption) (by assumption) (by assumption) ?_); intro tg))
local macro_rules | `(tactic| walk_at "getAttr ref") => `(tactic| ((with_reducible show wpAny _ _ (getAttr (Value.ref _) (Str.ofString "y_offset") _) _ _ _); k_dflt (refine row_getY (by assumption) (by assumption) (by assumption) (by assumption) (by assumption) (by assumption) ?_); intro tg))
local macro_rules | `(tactic| walk_at "subscriptTail Name Name ref int") => `(tactic| ((with_reducible show wpAny _ _ (subscriptTail _ _ (Value.ref _) (Value.int _ _)) _ _ _); k_dflt (refine row_item (by assumption) (by assumption) rfl (by assumption) ?_)))
local macro_rules | `(tactic| walk_at "call builtin:len") => `(tactic| ((with_reducible show wpAny _ _ (call (Value.builtin "len") [Value.ref _]) _ _ _); k_dflt (refine row_len (by assumption) (by first | assumption | exact RowIn.sub (by assumption) (fun p hp => List.Mem.tail _ hp)) ?_); intro tl' tk'))
local macro_rules | `(tactic| walk_at "TurnQ") => `(tactic| (dsimp only [TurnQ]))
local macro_rules | `(tactic| walk_at "call builtin:list.append") => `(tactic| ((with_reducible show wpAny _ _ (call (Value.builtin "list.append") [Value.ref _, _]) _ _ _); k_dflt (refine app_list (by assumption) (by assumption) (by first | assumption | exact List.mem_cons_of_mem _ (by assumption)) (by omega) ?_); intro h' n' F' N' M' K'; (try k_sweep)))
local macro_rules | `(tactic| walk_at "getMethod ref") => `(tactic| ((with_reducible show wpAny _ _ (getMethod (Value.ref _) (Str.ofString "append") _) _ _ _); with_unfolding_all refine getMethod_append_N (by assumption) (by assumption) ?_))
local macro_rules | `(tactic| tb_start) => `(tactic| repeat' (first | ((fail_if_success (with_reducible show wpAny _ _ (exec (Stmt.While _ _ _ _) _) _ _ _)); (fail_if_success (with_reducible show wpAny _ _ (pyIter _) _ _ _)); first | (k_unfold; (try dsimp only)) | walk1 | (dsimp only; walk1)) | fail "no step"))
section
variable {w : World} {mean : ExcName → Option Value} {mg mb : Str → Option Value} {dp un : Nat} {gd : Option (List Code)} {cn : Str} {scp : Scope} {a : Addr} {ccd : Value} {cl : List (Str × Addr)} {outer : List Env} {A₀ : Around} {base h₀ : Heap} {L : Addr} {m : Str → Option Value} {news : Led} {s : Shared} {E : Value → Shared → Prop} {Q : Value → Shared → Prop}
variable {r : Addr} {ax : List (Addr × Addr)} {cs : List Cel}


noncomputable def lnk (cs : List Cel) : Nat → List Edge
  | 0 => []
  | k + 1 => lnk cs k ++ (match cs[k]? with | some c => if c.par ≠ 0 then [normE k c] else [] | none => [])
theorem lnk_len (cs : List Cel) : ∀ k, (lnk cs k).length ≤ k
  | 0 => Nat.le_refl _
  | k + 1 => by
    have := lnk_len cs k
    unfold lnk
    rw [List.length_append]
    split
    · split <;> simp <;> omega
    · simp; omega
theorem lnk_ne {cs : List Cel} {k : Nat} {c : Cel} (hc : cs[k]? = some c) (hp : c.par ≠ 0) : lnk cs (k + 1) = lnk cs k ++ [normE k c] := by
  show lnk cs k ++ _ = _
  rw [hc]; simp only [ne_eq, hp, not_false_eq_true, if_true]
theorem lnk_eq {cs : List Cel} {k : Nat} {c : Cel} (hc : cs[k]? = some c) (hp : c.par = 0) : lnk cs (k + 1) = lnk cs k := by
  show lnk cs k ++ _ = _
  rw [hc]; simp [hp]
theorem datAll_perm {tl : Led} {vs vs' : List Value} (h : vs.Perm vs') : ∀ {es : List Edge}, DatAll tl vs (es.map datE) → ∃ es' : List Edge, es'.Perm es ∧ DatAll tl vs' (es'.map datE) := by
  induction h with
  | nil => intro es d; exact ⟨es, .refl _, d⟩
  | cons x _ ih =>
    intro es d
    cases es with
    | nil => cases d
    | cons e es =>
      cases d with
      | cons d1 d2 =>
        obtain ⟨es', p, d'⟩ := ih d2
        exact ⟨e :: es', p.cons e, .cons d1 d'⟩
  | swap x y l =>
    intro es d
    cases es with
    | nil => cases d
    | cons e1 es =>
      cases d with
      | cons d1 d2 =>
        cases es with
        | nil => cases d2
        | cons e2 es =>
          cases d2 with
          | cons d2 d3 => exact ⟨e2 :: e1 :: es, .swap _ _ _, .cons d2 (.cons d1 d3)⟩
  | trans _ _ ih1 ih2 =>
    intro es d
    obtain ⟨e1, p1, d1⟩ := ih1 d
    obtain ⟨e2, p2, d2⟩ := ih2 d1
    exact ⟨e2, p2.trans p1, d2⟩

theorem links_spec (B : Below A₀ base outer h₀) (F : Fr h₀ L s.heap m) (X : (hd.heap_39 w.params).In h₀) (N : News h₀ L s.heap news)
    (T : Top hd.view_39 (looseW hd.view_39 []) mean mg mb h₀) (hk : scp.kind = .function) (hdp : dp + 1 < recursionLimit)
    (R : RowIn r ax cs news) (W : Wf cs)
    (h : ∀ h' tk news' D e (vs : List Value) (es : List Edge) (tl : Led), Fr h₀ L h' m → News h₀ L h' news' → (D, listOf vs.toArray e) ∈ news' → DatAll tl vs (es.map datE) → (∀ p ∈ tl, p ∈ news' ∧ p.2.cls = .type "tuple") → (∀ p ∈ news, p ∈ news') → (∀ p ∈ news, p.1 < D ∧ ∀ q ∈ tl, p.1 < q.1) → es.Perm (lnk cs cs.length) → Q (.ref D) { s with heap := h', toks := tk }) :
    wpAny (model PySem.Challenge.rw_nu0149_01.row.prog w) (ktrTop dp un gd cn scp L a ccd cl outer) (call (.ref 115) [.ref r]) Q E s := by
  refine wpAny_call ?_
  k_dflt ktr_enter
  rename_i g0 L0 _ FG0 F1 N0 B0 X0 T0
  obtain ⟨u0, F0⟩ := fr_norm [(Str.ofString "row", .ref r)] F1 (by kst_all)
  clear F1
  simp only [kstB] at F0
  refine wpAny_noRaise ?_
  tb_start
  rename_i l0 _ l1 _ _ _ _ _ _ _ _ _ _ IR F2 N2 _
  refine iter_rangeM (n := cs.length) (fun i m nw => m (Str.ofString "row") = some (.ref r) ∧ m (Str.ofString "found") = some (.ref l0) ∧ (∀ p ∈ news, p ∈ nw) ∧ ∃ (vs : List Value) (e : Nat) (tl : Led), (l0, listOf vs.toArray e) ∈ nw ∧ DatAll tl vs ((lnk cs i).map datE) ∧ ∀ p ∈ tl, p ∈ nw ∧ p.2.cls = .type "tuple" ∧ l0 < p.1)
    (by exact rfl) IR rfl (by have := R.len; have := R.small; omega) F2 N2 ⟨rfl, rfl, fun p hp => .tail _ hp, [], 0, [], .head _, .nil, fun _ hp => nomatch hp⟩ ?_ ?_
  · rintro i m1 nw I o h1 tk1 t1 hin ⟨hr, hf, hsub, vs, e, tl, M1, D1, T1⟩ hoff hlt hoc F1 N1
    obtain ⟨u1, F3⟩ := fr_norm [(Str.ofString "row", .ref r), (Str.ofString "found", .ref l0), (Str.ofString "at", .int (i : Nat) t1)] F1 (by simp (decide := true) [hr, hf])
    clear F1 F2 N2
    simp only [kstB] at F3
    k_sweep
    obtain ⟨c, hc⟩ : ∃ c, cs[i]? = some c := ⟨_, List.getElem?_eq_getElem hin⟩
    obtain ⟨⟨x, d⟩, hx⟩ : ∃ p, ax[i]? = some p := ⟨_, List.getElem?_eq_getElem (by have := R.len; omega)⟩
    have R1 : RowIn r ax cs ((I, o) :: nw) := R.sub fun p hp => List.mem_cons_of_mem _ (hsub p hp)
    have M2 : (l0, listOf vs.toArray e) ∈ (I, o) :: nw := List.mem_cons_of_mem _ M1
    have hv : vs.length ≤ 7 := by
      have h1 := D1.length
      have h2 := lnk_len cs i
      have h3 := R.len
      have h4 := R.small
      rw [List.length_map] at h1
      omega
    k_steps
    · have hp0 := ‹c.par ≠ 0›
      have hb := W.inb _ _ hc hp0
      rename_i D2 _ l2 _ n2 F4 N4 M4 K4
      have hl0I := hoff _ M1
      have hlD : l0 < D2 := allLt_mem l2.2 _ M1
      have hID : D2 ≠ I := Nat.ne_of_gt l2.1
      obtain ⟨u1, u2, u3, M5⟩ : ∃ u1 u2 u3, (D2, ({ cls := .type "tuple", data := .seq #[.int ((i : Int) + c.par) u1, .int (i : Int) u2, .int c.y u3] } : Obj)) ∈ n2 := ⟨_, _, _, K4 _ (.head _) (Nat.ne_of_gt hlD)⟩
      have T5 : ∀ p ∈ (D2, ({ cls := .type "tuple", data := .seq #[.int ((i : Int) + c.par) u1, .int (i : Int) u2, .int c.y u3] } : Obj)) :: tl, p ∈ dropL I n2 ∧ p.2.cls = .type "tuple" ∧ l0 < p.1 := fun p hp => by
        rcases List.mem_cons.mp hp with rfl | hp
        · exact ⟨mem_dropL M5 hID, rfl, hlD⟩
        · exact ⟨mem_dropL (K4 _ (.tail _ (.tail _ (T1 p hp).1)) (Nat.ne_of_gt (T1 p hp).2.2)) (hoff _ (T1 p hp).1), (T1 p hp).2⟩
      refine ⟨_, _, _, n2, dropL I n2, rfl, F4, N4, K4 _ (.tail _ (.head _)) (Ne.symm hl0I), fun p hp => of_dropL hp, rfl, rfl, fun p hp => mem_dropL (K4 _ (.tail _ (.tail _ (hsub p hp))) (Nat.ne_of_lt (l1 p hp))) (hoff _ (hsub p hp)), _, _, _, mem_dropL M4 hl0I, ?_, T5⟩
      rw [lnk_ne hc hp0]
      refine datAll_snoc D1 (datE_mk (.head _) ?_ ?_ ?_)
      · unfold normE; rw [if_pos (by omega)]; show _ = ((((i : Int) + c.par).toNat : Nat) : Int); omega
      · unfold normE; rw [if_pos (by omega)]
      · unfold normE; rw [if_pos (by omega)]
    · have hp0 := ‹c.par ≠ 0›
      have hb := W.inb _ _ hc hp0
      rename_i D2 _ l2 _ n2 F4 N4 M4 K4
      have hl0I := hoff _ M1
      have hlD : l0 < D2 := allLt_mem l2.2 _ M1
      have hID : D2 ≠ I := Nat.ne_of_gt l2.1
      obtain ⟨u1, u2, u3, M5⟩ : ∃ u1 u2 u3, (D2, ({ cls := .type "tuple", data := .seq #[.int (i : Int) u1, .int ((i : Int) + c.par) u2, .int (-c.y) u3] } : Obj)) ∈ n2 := ⟨_, _, _, K4 _ (.head _) (Nat.ne_of_gt hlD)⟩
      have T5 : ∀ p ∈ (D2, ({ cls := .type "tuple", data := .seq #[.int (i : Int) u1, .int ((i : Int) + c.par) u2, .int (-c.y) u3] } : Obj)) :: tl, p ∈ dropL I n2 ∧ p.2.cls = .type "tuple" ∧ l0 < p.1 := fun p hp => by
        rcases List.mem_cons.mp hp with rfl | hp
        · exact ⟨mem_dropL M5 hID, rfl, hlD⟩
        · exact ⟨mem_dropL (K4 _ (.tail _ (.tail _ (T1 p hp).1)) (Nat.ne_of_gt (T1 p hp).2.2)) (hoff _ (T1 p hp).1), (T1 p hp).2⟩
      refine ⟨_, _, _, n2, dropL I n2, rfl, F4, N4, K4 _ (.tail _ (.head _)) (Ne.symm hl0I), fun p hp => of_dropL hp, rfl, rfl, fun p hp => mem_dropL (K4 _ (.tail _ (.tail _ (hsub p hp))) (Nat.ne_of_lt (l1 p hp))) (hoff _ (hsub p hp)), _, _, _, mem_dropL M4 hl0I, ?_, T5⟩
      rw [lnk_ne hc hp0]
      refine datAll_snoc D1 (datE_mk (.head _) ?_ ?_ ?_)
      · unfold normE; rw [if_neg (by omega)]
      · unfold normE; rw [if_neg (by omega)]; show _ = ((((i : Int) + c.par).toNat : Nat) : Int); omega
      · unfold normE; rw [if_neg (by omega)]
    · refine ⟨_, _, _, _, nw, rfl, ‹Fr g0 _ _ _›, ‹News g0 _ _ _›, .head _, fun p hp => ⟨.tail _ hp, hoff p hp⟩, rfl, rfl, hsub, vs, e, tl, M1, ?_, T1⟩
      rw [lnk_eq hc (by assumption)]
      exact D1
  · rintro m1 nw h1 tk1 ⟨hr, hf, hsub, vs, e, tl, M1, D1, T1⟩ F1 N1
    obtain ⟨u1, F3⟩ := fr_norm [(Str.ofString "found", .ref l0)] F1 (by simp (decide := true) [hf])
    clear F1 F2 N2
    simp only [kstB] at F3
    have hv : vs.length < 64 := by
      have h1 := D1.length
      have h2 := lnk_len cs cs.length
      have h3 := R.len
      have h4 := R.small
      rw [List.length_map] at h1
      omega
    k_steps
    refine sorted_edges F3 N1 M1 hv D1 (fun p hp => (T1 p hp).1) (fun D e2 h2 vs2 F4 N4 l4 hp2 => ?_)
    k_steps
    obtain ⟨es2, p2, d2⟩ := datAll_perm hp2.symm D1
    exact h _ _ _ D _ vs2 es2 tl ‹Fr h₀ L _ _› ‹News h₀ L _ _› (.head _) d2 (fun p hp => ⟨.tail _ (T1 p hp).1, (T1 p hp).2.1⟩) (fun p hp => .tail _ (hsub p hp)) (fun p hp => ⟨l4 p (hsub p hp), fun q hq => Nat.lt_trans (l1 p hp) (T1 q hq).2.2⟩) p2
end
end Mine

namespace Mine
def gstep (f : List Nat) (e : Edge) : List Nat := if decide (e.1 ∈ f) ≠ decide (e.2.1 ∈ f) then f ++ [if e.1 ∈ f then e.2.1 else e.1] else f
def ground (es : List Edge) (f : List Nat) : List Nat := es.foldl gstep f
noncomputable def gclose (es : List Edge) (f : List Nat) : Nat → List Nat
  | 0 => f
  | k + 1 => ground es (gclose es f k)

theorem gstep_sub (f : List Nat) (e : Edge) : ∀ x ∈ f, x ∈ gstep f e := by
  intro x hx; unfold gstep; split
  · exact List.mem_append_left _ hx
  · exact hx
theorem foldl_sub : ∀ (l : List Edge) (f : List Nat), ∀ x ∈ f, x ∈ l.foldl gstep f
  | [], _, _, h => h
  | e :: l, f, x, h => foldl_sub l _ x (gstep_sub f e x h)
/-- what holds of the first and goes along every edge holds of all -/
theorem gstep_all {P : Nat → Prop} {f : List Nat} {e : Edge} (h : ∀ x ∈ f, P x) (he : P e.1 ↔ P e.2.1) : ∀ x ∈ gstep f e, P x := by
  intro x hx
  unfold gstep at hx
  split at hx
  · rename_i hne
    rcases List.mem_append.mp hx with q | q
    · exact h x q
    · rw [List.mem_singleton.mp q]
      by_cases a : e.1 ∈ f
      · rw [if_pos a]; exact he.mp (h _ a)
      · rw [if_neg a]
        have b : e.2.1 ∈ f := by
          by_cases b : e.2.1 ∈ f
          · exact b
          · simp [a, b] at hne
        exact he.mpr (h _ b)
  · exact h x hx
theorem foldl_all {P : Nat → Prop} : ∀ {l : List Edge} {f : List Nat}, (∀ x ∈ f, P x) → (∀ e ∈ l, (P e.1 ↔ P e.2.1)) → ∀ x ∈ l.foldl gstep f, P x
  | [], _, h, _ => h
  | e :: l, _, h, he => foldl_all (l := l) (gstep_all h (he e (.head _))) fun e' h' => he e' (.tail _ h')
theorem gclose_all {P : Nat → Prop} {es : List Edge} {f : List Nat} (h : ∀ x ∈ f, P x) (he : ∀ e ∈ es, (P e.1 ↔ P e.2.1)) : ∀ k, ∀ x ∈ gclose es f k, P x
  | 0 => h
  | k + 1 => foldl_all (gclose_all h he k) he
theorem gstep_nodup {f : List Nat} {e : Edge} (h : f.Nodup) : (gstep f e).Nodup := by
  unfold gstep
  split
  · rename_i hne
    refine List.nodup_append.mpr ⟨h, by simp, ?_⟩
    intro x hx y hy
    rw [List.mem_singleton.mp hy]
    by_cases a : e.1 ∈ f
    · rw [if_pos a]
      have b : e.2.1 ∉ f := fun b => by simp [a, b] at hne
      rintro rfl; exact b hx
    · rw [if_neg a]
      rintro rfl; exact a hx
  · exact h
theorem foldl_nodup : ∀ {l : List Edge} {f : List Nat}, f.Nodup → (l.foldl gstep f).Nodup
  | [], _, h => h
  | _ :: l, _, h => foldl_nodup (l := l) (gstep_nodup h)
theorem gclose_nodup {es : List Edge} {f : List Nat} (h : f.Nodup) : ∀ k, (gclose es f k).Nodup
  | 0 => h
  | k + 1 => foldl_nodup (gclose_nodup h k)

/-- the edges that lie within f -/
def inn (es : List Edge) (f : List Nat) : Nat := es.countP fun e => decide (e.1 ∈ f) && decide (e.2.1 ∈ f)
theorem inn_mono (es : List Edge) {f g : List Nat} (h : ∀ x ∈ f, x ∈ g) : inn es f ≤ inn es g := by
  unfold inn
  refine List.countP_mono_left fun e _ he => ?_
  simp only [Bool.and_eq_true, decide_eq_true_eq] at he ⊢
  exact ⟨h _ he.1, h _ he.2⟩
theorem countP_lt {α : Type} {p q : α → Bool} : ∀ {l : List α} {a : α}, a ∈ l → (∀ x ∈ l, p x = true → q x = true) → p a = false → q a = true → l.countP p < l.countP q
  | x :: l, a, h, hm, hp, hq => by
    rw [List.countP_cons, List.countP_cons]
    have hle : l.countP p ≤ l.countP q := List.countP_mono_left fun x hx => hm x (.tail _ hx)
    rcases List.mem_cons.mp h with rfl | h
    · rw [hp, hq]; simp; omega
    · have ih := countP_lt h (fun x hx => hm x (.tail _ hx)) hp hq
      by_cases c : p x = true
      · rw [if_pos c, if_pos (hm x (.head _) c)]; omega
      · rw [if_neg c]; split <;> omega
theorem inn_step {es : List Edge} {f : List Nat} {e : Edge} (he : e ∈ es) : (gstep f e = f ∧ (e.1 ∈ f ↔ e.2.1 ∈ f)) ∨ inn es f + 1 ≤ inn es (gstep f e) := by
  by_cases hne : decide (e.1 ∈ f) ≠ decide (e.2.1 ∈ f)
  · right
    have hg : gstep f e = f ++ [if e.1 ∈ f then e.2.1 else e.1] := by unfold gstep; rw [if_pos hne]
    refine countP_lt he (fun x _ hx => ?_) ?_ ?_
    · simp only [Bool.and_eq_true, decide_eq_true_eq] at hx ⊢
      exact ⟨gstep_sub _ _ _ hx.1, gstep_sub _ _ _ hx.2⟩
    · by_cases a : e.1 ∈ f
      · by_cases b : e.2.1 ∈ f
        · simp [a, b] at hne
        · simp [b]
      · simp [a]
    · rw [hg]
      by_cases a : e.1 ∈ f
      · simp [a]
      · have b : e.2.1 ∈ f := by
          by_cases b : e.2.1 ∈ f
          · exact b
          · simp [a, b] at hne
        simp [a, b]
  · left
    refine ⟨by unfold gstep; rw [if_neg hne], ?_⟩
    have := Decidable.not_not.mp hne
    simpa using this
theorem inn_round {es : List Edge} : ∀ {l : List Edge} {f : List Nat}, (∀ e ∈ l, e ∈ es) → (l.foldl gstep f = f ∧ ∀ e ∈ l, (e.1 ∈ f ↔ e.2.1 ∈ f)) ∨ inn es f + 1 ≤ inn es (l.foldl gstep f)
  | [], _, _ => .inl ⟨rfl, fun _ h => nomatch h⟩
  | e :: l, f, h => by
    show (l.foldl gstep (gstep f e) = f ∧ _) ∨ inn es f + 1 ≤ inn es (l.foldl gstep (gstep f e))
    rcases inn_step (f := f) (h e (.head _)) with ⟨h1, h2⟩ | h1
    · rw [h1]
      rcases inn_round (l := l) (f := f) (fun e' h' => h e' (.tail _ h')) with ⟨h3, h4⟩ | h3
      · refine .inl ⟨h3, fun e' h' => ?_⟩
        rcases List.mem_cons.mp h' with rfl | h'
        · exact h2
        · exact h4 e' h'
      · exact .inr h3
    · exact .inr (Nat.le_trans h1 (inn_mono es (foldl_sub l _)))
theorem gclose_inn {es : List Edge} {f : List Nat} : ∀ k, (∀ e ∈ es, (e.1 ∈ gclose es f k ↔ e.2.1 ∈ gclose es f k)) ∨ k ≤ inn es (gclose es f k)
  | 0 => .inr (Nat.zero_le _)
  | k + 1 => by
    rcases inn_round (es := es) (l := es) (f := gclose es f k) (fun _ h => h) with ⟨h1, h2⟩ | h1
    · left
      show ∀ e ∈ es, (e.1 ∈ ground es (gclose es f k) ↔ e.2.1 ∈ ground es (gclose es f k))
      unfold ground
      rw [h1]
      exact h2
    · rcases gclose_inn (es := es) (f := f) k with h2 | h2
      · -- closed already: the round changes nothing
        left
        have : es.foldl gstep (gclose es f k) = gclose es f k := by
          have gen : ∀ (l : List Edge), (∀ e ∈ l, (e.1 ∈ gclose es f k ↔ e.2.1 ∈ gclose es f k)) → l.foldl gstep (gclose es f k) = gclose es f k := by
            intro l
            induction l with
            | nil => intro _; rfl
            | cons e l ih =>
              intro hl
              have : gstep (gclose es f k) e = gclose es f k := by
                unfold gstep; rw [if_neg]; simp [hl e (.head _)]
              rw [List.foldl_cons, this]
              exact ih fun e' h' => hl e' (.tail _ h')
          exact gen es h2
        show ∀ e ∈ es, (e.1 ∈ ground es (gclose es f k) ↔ e.2.1 ∈ ground es (gclose es f k))
        unfold ground
        rw [this]
        exact h2
      · exact .inr (Nat.le_trans (Nat.succ_le_succ h2) h1)
theorem gclose_closed {es : List Edge} {f : List Nat} : ∀ e ∈ es, (e.1 ∈ gclose es f es.length ↔ e.2.1 ∈ gclose es f es.length) := by
  rcases gclose_inn (es := es) (f := f) es.length with h | h
  · exact h
  · have h2 : inn es (gclose es f es.length) = es.length := Nat.le_antisymm List.countP_le_length h
    intro e he
    have := List.countP_eq_length.mp h2 e he
    simp only [Bool.and_eq_true, decide_eq_true_eq] at this
    exact ⟨fun _ => this.2, fun _ => this.1⟩
theorem gclose_sub {es : List Edge} {f : List Nat} : ∀ k, ∀ x ∈ f, x ∈ gclose es f k
  | 0, _, h => h
  | k + 1, x, h => foldl_sub es _ x (gclose_sub k x h)
theorem gclose_iff {es : List Edge} {a : Nat} (x : Nat) : x ∈ gclose es [a] es.length ↔ Conn (fun e => e ∈ es) a x := by
  constructor
  · refine gclose_all (P := fun x => Conn (fun e => e ∈ es) a x) (fun x hx => by rw [List.mem_singleton.mp hx]; exact .refl) (fun e he => ⟨fun h => h.fwd he rfl, fun h => h.bwd he rfl⟩) es.length x
  · intro h
    induction h with
    | refl => exact gclose_sub _ _ (List.mem_singleton.mpr rfl)
    | @fwd b e _ he hb ih => exact (gclose_closed e he).mp (hb ▸ ih)
    | @bwd b e _ he hb ih => exact (gclose_closed e he).mpr (hb ▸ ih)
end Mine

namespace Mine
local macro_rules | `(tactic| walk_at "zzz") => `(tactic| fail "none")
local macro_rules | `(tactic| walk_at "zzz") => `(tactic| fail "none")
theorem start_L7Group : True := by
  w_top off
  trivial
local macro_rules | `(tactic| walk_at "setAttr ref") => `(tactic| ((with_reducible show wpAny _ _ (setAttr (Value.ref _) (Str.ofString "parent") _) _ _ _); k_dflt (refine row_setPar (by assumption) (by assumption) (by assumption) (by assumption) (by assumption) (by assumption) ?_); intro h' n' F' N' R' K' C'; (try k_sweep); (try dsimp only at C')))
local macro_rules | `(tactic| walk_at "setAttr ref") => `(tactic| ((with_reducible show wpAny _ _ (setAttr (Value.ref _) (Str.ofString "bond") _) _ _ _); k_dflt (refine row_setBond (by assumption) (by assumption) (by assumption) (by assumption) (by assumption) (by assumption) ?_); intro h' n' F' N' R' K' C'; (try k_sweep); (try dsimp only at C')))
local macro_rules | `(tactic| walk_at "setAttr ref") => `(tactic| ((with_reducible show wpAny _ _ (setAttr (Value.ref _) (Str.ofString "y_offset") _) _ _ _); k_dflt (refine row_setY (by assumption) (by assumption) (by assumption) (by assumption) (by assumption) (by assumption) ?_); intro h' n' F' N' R' K' C'; (try k_sweep); (try dsimp only at C')))
local macro_rules | `(tactic| walk_at "getAttr ref") => `(tactic| ((with_reducible show wpAny _ _ (getAttr (Value.ref _) (Str.ofString "parent") _) _ _ _); k_dflt (refine row_getPar (by assumption) (by assumption) (by assumption) (by assumption) (by assumption) (by assumption) ?_); intro tg))
local macro_rules | `(tactic| walk_at "getAttr ref") => `(tactic| ((with_reducible show wpAny _ _ (getAttr (Value.ref _) (Str.ofString "bond") _) _ _ _); k_dflt (refine row_getBond (by assumption) (by assumption) (by assumption) (by assumption) (by assumption) (by assumption) ?_); intro tg))
local macro_rules | `(tactic| walk_at "getAttr ref") => `(tactic| ((with_reducible show wpAny _ _ (getAttr (Value.ref _) (Str.ofString "y_offset") _) _ _ _); k_dflt (refine row_getY (by assumption) (by assumption) (by assumption) (by assumption) (by assumption) (by assumption) ?_); intro tg))
local macro_rules | `(tactic| walk_at "subscriptTail Name Name ref int") => `(tactic| ((with_reducible show wpAny _ _ (subscriptTail _ _ (Value.ref _) (Value.int _ _)) _ _ _); k_dflt (refine row_item (by assumption) (by assumption) rfl (by assumption) ?_)))
local macro_rules | `(tactic| walk_at "call builtin:len") => `(tactic| ((with_reducible show wpAny _ _ (call (Value.builtin "len") [Value.ref _]) _ _ _); k_dflt (refine list_len (by assumption) (by first | assumption | exact List.mem_cons_of_mem _ (by assumption)) (by omega) ?_); intro tl' tk'))
local macro_rules | `(tactic| walk_at "call builtin:zzz") => `(tactic| ((with_reducible show wpAny _ _ (call (Value.builtin "len") [Value.ref _]) _ _ _); k_dflt (refine row_len (by assumption) (by first | assumption | exact RowIn.sub (by assumption) (fun p hp => List.Mem.tail _ hp)) ?_); intro tl' tk'))
local macro_rules | `(tactic| walk_at "TurnQ") => `(tactic| (dsimp only [TurnQ]))
local macro_rules | `(tactic| walk_at "call builtin:list.append") => `(tactic| ((with_reducible show wpAny _ _ (call (Value.builtin "list.append") [Value.ref _, _]) _ _ _); k_dflt (refine app_list (by assumption) (by assumption) (by first | assumption | exact List.mem_cons_of_mem _ (by assumption)) (by omega) ?_); intro h' n' F' N' M' K'; (try k_sweep)))
local macro_rules | `(tactic| walk_at "getMethod ref") => `(tactic| ((with_reducible show wpAny _ _ (getMethod (Value.ref _) (Str.ofString "append") _) _ _ _); with_unfolding_all refine getMethod_append_N (by assumption) (by assumption) ?_))
local macro_rules | `(tactic| tb_start) => `(tactic| repeat' (first | ((fail_if_success (with_reducible show wpAny _ _ (exec (Stmt.While _ _ _ _) _) _ _ _)); (fail_if_success (with_reducible show wpAny _ _ (pyIter _) _ _ _)); first | (k_unfold; (try dsimp only)) | walk1 | (dsimp only; walk1)) | fail "no step"))
section
variable {w : World} {mean : ExcName → Option Value} {mg mb : Str → Option Value} {dp un : Nat} {gd : Option (List Code)} {cn : Str} {scp : Scope} {a : Addr} {ccd : Value} {cl : List (Str × Addr)} {outer : List Env} {A₀ : Around} {base h₀ : Heap} {L : Addr} {m : Str → Option Value} {news : Led} {s : Shared} {E : Value → Shared → Prop} {Q : Value → Shared → Prop}
variable {r : Addr} {ax : List (Addr × Addr)} {cs : List Cel}


abbrev natV (n : Nat) : Int := n
theorem ints_dat {vs : List Value} {ns : List Int} (h : IntsAre vs ns) : DatAll [] vs (ns.map Dat.int) := by
  induction h with
  | nil => exact .nil
  | cons _ t _ ih => exact .cons (.int _ _) ih
theorem in_nats {l : Addr} {vs : List Value} {f : List Nat} {n : Nat} {k : Nat} {t : Tok} {A : Around} {Q : Value → Shared → Prop} {E : Value → Shared → Prop} {prog : Program} (N : News h₀ L s.heap news) (hm : (l, listOf vs.toArray n) ∈ news) (hi : IntsAre vs (f.map natV)) (hu : A.units + 64 < cLine)
    (h : Q (.bool (decide (k ∈ f))) s) : wpAny (model prog w) A (compareOp .In (.int (k : Nat) t) (.ref l)) Q E s := by
  refine kqd_isIn (n₁ := []) (n₂ := []) N hm rfl rfl (ints_dat hi) (fun _ h => nomatch h) (.int _ _) (fun _ h => nomatch h) ?_ rfl hu ?_
  · intro d hd
    obtain ⟨z, _, rfl⟩ := List.mem_map.mp hd
    rfl
  · have e : (Dat.int (k : Nat) ∈ (f.map natV).map Dat.int) ↔ k ∈ f := by
      simp only [List.map_map, List.mem_map, Function.comp, Dat.int.injEq, natV]
      constructor
      · rintro ⟨a, ha, q⟩
        have : a = k := by omega
        exact this ▸ ha
      · intro q; exact ⟨k, q, rfl⟩
    have e2 : ∀ inst : Decidable (Dat.int (k : Nat) ∈ (f.map natV).map Dat.int), @decide _ inst = decide (k ∈ f) := by
      intro inst
      by_cases q : k ∈ f
      · rw [decide_eq_true q]; exact @decide_eq_true _ inst (e.mpr q)
      · rw [decide_eq_false q]; exact @decide_eq_false _ inst fun z => q (e.mp z)
    rw [e2]
    exact h
local macro_rules | `(tactic| walk_at "compareOp In int ref") => `(tactic| (k_dflt (refine in_nats (by assumption) (by first | assumption | exact List.mem_cons_of_mem _ (by assumption)) (by assumption) (by ktr_units) ?_)))

theorem group_spec {ai nn : Nat} {ta : Tok} {lk : Addr} {e0 : Nat} {vs : List Value} {es : List Edge} {tl : Led} (B : Below A₀ base outer h₀) (F : Fr h₀ L s.heap m) (X : (hd.heap_39 w.params).In h₀) (N : News h₀ L s.heap news)
    (T : Top hd.view_39 (looseW hd.view_39 []) mean mg mb h₀) (hk : scp.kind = .function) (hdp : dp + 1 < recursionLimit) (hun : un + 200 < cLine)
    (ML : (lk, listOf vs.toArray e0) ∈ news) (D0 : DatAll tl vs (es.map datE)) (T0' : ∀ p ∈ tl, p ∈ news) (hes : ∀ e ∈ es, e.1 < nn ∧ e.2.1 < nn) (hai : ai < nn) (hnn : Bnd nn) (hel : Bnd es.length)
    (h : ∀ h' tk news' D e (vs : List Value) (g : List Nat), Fr h₀ L h' m → News h₀ L h' news' → (D, listOf vs.toArray e) ∈ news' → IntsAre vs (g.map natV) → (∀ p ∈ news, p ∈ news') → (∀ p ∈ news, p.1 < D) → (∀ x, x ∈ g ↔ Conn (fun e => e ∈ es) ai x) → g.Pairwise (· < ·) → Q (.ref D) { s with heap := h', toks := tk }) :
    wpAny (model PySem.Challenge.rw_nu0149_01.row.prog w) (ktrTop dp un gd cn scp L a ccd cl outer) (call (.ref 122) [.ref lk, .int ai ta]) Q E s := by
  refine wpAny_call ?_
  k_dflt ktr_enter
  rename_i g0 L0 _ FG0 F1 N0 B0 X0 T0
  obtain ⟨u0, F0⟩ := fr_norm [(Str.ofString "links", .ref lk), (Str.ofString "at", .int ai ta)] F1 (by kst_all)
  clear F1
  simp only [kstB] at F0
  refine wpAny_noRaise ?_
  have hvl : vs.length = es.length := by have := D0.length; rwa [List.length_map] at this
  have hvB : vs.length ≤ 1000 := by unfold Bnd at hel; omega
  clear hvl
  tb_start
  rename_i l0 _ l1 _ _ _ _ _ _ _ _ _ _ IR F2 N2 _
  have hI0 : IntsAre [.int (ai : Nat) ta] (([ai] : List Nat).map natV) := .cons _ _ .nil
  refine iter_rangeM (n := vs.length) (fun i m nw => m (Str.ofString "links") = some (.ref lk) ∧ m (Str.ofString "found") = some (.ref l0) ∧ (∀ p ∈ news, p ∈ nw) ∧ ∃ (vf : List Value) (e : Nat), (l0, listOf vf.toArray e) ∈ nw ∧ IntsAre vf ((gclose es [ai] i).map natV))
    (by exact rfl) IR rfl hvB F2 N2 ⟨rfl, rfl, fun p hp => .tail _ hp, _, 0, .head _, hI0⟩ ?_ ?_
  · rintro i m1 nw I o h1 tk1 t1 hin ⟨hr, hf, hsub, vf, e, M1, hI1⟩ hoff hlt hoc F1 N1
    obtain ⟨u1, F3⟩ := fr_norm [(Str.ofString "links", .ref lk), (Str.ofString "found", .ref l0)] F1 (by simp (decide := true) [hr, hf])
    clear F1 F2 N2
    simp only [kstB] at F3
    k_sweep
    tb_start
    refine For_turns F3 ?_
    walk1
    refine iter_listTurns (by exact rfl) F3 N1 (List.mem_cons_of_mem _ (hsub _ ML)) rfl rfl (fun I2 hI2 => ?_)
    obtain ⟨f, hff⟩ : ∃ f, gclose es [ai] i = f := ⟨_, rfl⟩
    obtain ⟨fin, hfin⟩ : ∃ fin, es.foldl gstep f = fin := ⟨_, rfl⟩
    have hnext : gclose es [ai] (i + 1) = fin := by rw [← hfin, ← hff]; rfl
    have hnd : f.Nodup := hff ▸ gclose_nodup (by simp) i
    have hbd : ∀ x ∈ f, x < nn := hff ▸ gclose_all (P := fun x => x < nn) (by simpa using hai) (fun e he => ⟨fun _ => (hes e he).2, fun _ => (hes e he).1⟩) i
    rw [hff] at hI1
    clear hff
    generalize hlo : PySem.W.listOf vs.toArray e0 = lo at ML
    have hlc : lo.cls = .type "list" := by rw [← hlo]
    clear hlo hvB IR hI0
    have hIX : (I, o) ∈ (I, o) :: nw := .head _
    have hMX : (l0, PySem.W.listOf vf.toArray e) ∈ (I, o) :: nw := .tail _ M1
    have hNX : ∀ p ∈ news, p ∈ (I, o) :: nw := fun p hp => .tail _ (hsub p hp)
    have hl0I := hoff _ M1
    have hnI : ∀ p ∈ news, p.1 ≠ I := fun p hp => hoff p (hsub p hp)
    have hXI : ∀ p ∈ (I, o) :: nw, p.1 ≠ I2 := fun p hp => Nat.ne_of_lt (hI2 p hp)
    clear hI2 M1 hsub hoff hlt F3 N1
    generalize (I, o) :: nw = LX at hIX hMX hNX hXI
    generalize hmm : (fun y => if y = Str.ofString "links" then some (Value.ref lk) else if y = Str.ofString "found" then some (Value.ref l0) else u1 y) = mm
    have hr1 : mm (Str.ofString "links") = some (.ref lk) := by rw [← hmm]; rfl
    have hf1 : mm (Str.ofString "found") = some (.ref l0) := by rw [← hmm]; rfl
    clear hmm
    have hes2 : ∀ e ∈ es, e.1 < nn ∧ e.2.1 < nn := hes
    have D1 := D0
    obtain ⟨es1, hE⟩ : ∃ es1, es1 = es := ⟨es, rfl⟩
    rw [← hE] at D1 hfin hes2
    clear hr hf hE D0 hin
    induction es1 generalizing vs f vf e LX mm with
    | nil =>
      cases D1
      refine ItemsRest.zero (fun h3 tk3 F4 N4 => ?_)
      k_steps
      refine ⟨_, _, _, LX, dropL I LX, rfl, F4, N4, hIX, fun p hp => of_dropL hp, hr1, hf1, fun p hp => mem_dropL (hNX p hp) (hnI p hp), vf, e, mem_dropL hMX hl0I, ?_⟩
      rw [hnext, ← hfin]
      exact hI1
    | cons ed es1 ih =>
      cases D1 with
      | cons d1 d2 =>
      refine ItemsRest.val (fun h3 tk3 F4 => AllObj.cons (fun o2 ho2 => AllObj.nil (fun N4 => ?_)))
      obtain ⟨a5, n5, t1, t2, t3, rfl, hm⟩ := datE_inv d1
      have IT := News.isTup N4 (List.mem_cons_of_mem _ (hNX _ (T0' _ hm)))
      obtain ⟨u4, F5⟩ := fr_norm [(Str.ofString "found", .ref l0), (Str.ofString "links", .ref lk)] F4 (by simp [hr1, hf1])
      clear F4
      simp only [kstB] at F5
      have M4 := List.mem_append_right [((I2, "list_iterator").1, o2)] hMX
      have hv : vf.length ≤ 7 := by
        have h1 := hI1.length
        have h2 := nodup_len nn f hnd hbd
        unfold Bnd at hnn
        rw [List.length_map] at h1
        omega
      k_steps
      · rename_i n2 F6 N6 M6 K6
        have hin1 := ‹ed.1 ∈ f›
        have hb1 : ed.2.1 ∉ f := by intro q; simp_all
        have hg : gstep f ed = f ++ [ed.2.1] := by unfold gstep; rw [if_pos (by simp [hin1, hb1]), if_pos hin1]
        have hl2 : I2 ≠ l0 := fun q => hXI _ hMX q.symm
        refine ⟨_, _, _, dropL I2 n2, rfl, F6, news_sub N6 fun p hp => ?_, fun p hp q hq => by rw [List.mem_singleton.mp hq]; exact (of_dropL hp).2, ⟨mem_dropL (K6 _ (.tail _ (hNX _ ML)) (Nat.ne_of_lt (l1 _ ML))) (hXI _ (hNX _ ML)), trivial⟩, ?_⟩
        · rcases List.mem_append.mp hp with q | q
          · rw [List.mem_singleton.mp q]; exact K6 _ (.head _) hl2
          · exact (of_dropL q).1
        · refine ih (vf ++ [.int (ed.2.1 : Nat) t2]) (e + 1) (gstep f ed) ?_ (gstep_nodup hnd) (gstep_all (P := fun x => x < nn) hbd ⟨fun _ => (hes2 ed (.head _)).2, fun _ => (hes2 ed (.head _)).1⟩) hl0I (dropL I2 n2) (mem_dropL (K6 _ (.tail _ hIX) (Ne.symm hl0I)) (hXI _ hIX)) (mem_dropL M6 (fun q => hl2 q.symm)) (fun p hp => mem_dropL (K6 _ (.tail _ (hNX p hp)) (Nat.ne_of_lt (l1 p hp))) (hXI _ (hNX p hp))) (fun p hp => (of_dropL hp).2) _ rfl rfl (fun e he => hes2 e (.tail _ he)) hfin d2
          rw [hg, List.map_append]
          exact hI1.append (.cons _ _ .nil)
      · rename_i n2 F6 N6 M6 K6
        have hin1 := ‹¬ ed.1 ∈ f›
        have hb1 : ed.2.1 ∈ f := by
          by_cases q : ed.2.1 ∈ f
          · exact q
          · simp_all
        have hg : gstep f ed = f ++ [ed.1] := by unfold gstep; rw [if_pos (by simp [hin1, hb1]), if_neg hin1]
        have hl2 : I2 ≠ l0 := fun q => hXI _ hMX q.symm
        refine ⟨_, _, _, dropL I2 n2, rfl, F6, news_sub N6 fun p hp => ?_, fun p hp q hq => by rw [List.mem_singleton.mp hq]; exact (of_dropL hp).2, ⟨mem_dropL (K6 _ (.tail _ (hNX _ ML)) (Nat.ne_of_lt (l1 _ ML))) (hXI _ (hNX _ ML)), trivial⟩, ?_⟩
        · rcases List.mem_append.mp hp with q | q
          · rw [List.mem_singleton.mp q]; exact K6 _ (.head _) hl2
          · exact (of_dropL q).1
        · refine ih (vf ++ [.int (ed.1 : Nat) t1]) (e + 1) (gstep f ed) ?_ (gstep_nodup hnd) (gstep_all (P := fun x => x < nn) hbd ⟨fun _ => (hes2 ed (.head _)).2, fun _ => (hes2 ed (.head _)).1⟩) hl0I (dropL I2 n2) (mem_dropL (K6 _ (.tail _ hIX) (Ne.symm hl0I)) (hXI _ hIX)) (mem_dropL M6 (fun q => hl2 q.symm)) (fun p hp => mem_dropL (K6 _ (.tail _ (hNX p hp)) (Nat.ne_of_lt (l1 p hp))) (hXI _ (hNX p hp))) (fun p hp => (of_dropL hp).2) _ rfl rfl (fun e he => hes2 e (.tail _ he)) hfin d2
          rw [hg, List.map_append]
          exact hI1.append (.cons _ _ .nil)
      · have hg : gstep f ed = f := by
          unfold gstep
          rw [if_neg]
          intro q
          simp_all
        refine ⟨_, _, _, LX, rfl, ‹Fr g0 L0 _ _›, ‹News g0 L0 _ _›, fun p hp q hq => by rw [List.mem_singleton.mp hq]; exact hXI p hp, ⟨hNX _ ML, trivial⟩, ?_⟩
        exact ih vf e f hI1 hnd hbd hl0I LX hIX hMX hNX hXI _ rfl rfl (fun e he => hes2 e (.tail _ he)) (by rw [← hfin, List.foldl_cons, hg]) d2
  · rintro m1 nw h1 tk1 ⟨hr, hf, hsub, vf, e, M1, hI1⟩ F1 N1
    obtain ⟨u1, F3⟩ := fr_norm [(Str.ofString "found", .ref l0)] F1 (by simp (decide := true) [hf])
    clear F1 F2 N2
    simp only [kstB] at F3
    have hvl : vs.length = es.length := by have := D0.length; rwa [List.length_map] at this
    rw [hvl] at hI1
    have hnd : (gclose es [ai] es.length).Nodup := gclose_nodup (by simp) _
    have hbd : ∀ x ∈ gclose es [ai] es.length, x < nn := gclose_all (P := fun x => x < nn) (by simpa using hai) (fun e he => ⟨fun _ => (hes e he).2, fun _ => (hes e he).1⟩) _
    have hv : vf.length < 64 := by
      have h1 := hI1.length
      have h2 := nodup_len nn _ hnd hbd
      unfold Bnd at hnn
      rw [List.length_map] at h1
      omega
    tb_start
    refine sorted_N F3 N1 (News.isList N1 M1) hI1 hv (fun h2 vs2 ns2 e2 F4 N4 a1 a2 a3 => ?_)
    k_steps
    have hg : ∃ g : List Nat, ns2 = g.map natV ∧ g.Perm (gclose es [ai] es.length) := by
      have nn2 : ∀ z ∈ ns2, 0 ≤ z := fun z hz => by
        obtain ⟨x, _, rfl⟩ := List.mem_map.mp (a2.mem_iff.mp hz)
        exact Int.natCast_nonneg x
      refine ⟨ns2.map Int.toNat, ?_, ?_⟩
      · rw [List.map_map]
        conv => lhs; rw [← List.map_id ns2]
        exact List.map_congr_left fun z hz => by have := nn2 z hz; simp only [Function.comp, natV, id]; omega
      · have := a2.map Int.toNat
        rw [List.map_map] at this
        have e3 : (Int.toNat ∘ natV) = id := by funext z; simp [natV]
        rw [e3, List.map_id] at this
        exact this
    obtain ⟨g, rfl, hgp⟩ := hg
    refine h _ _ _ _ _ vs2 g ‹Fr h₀ L _ _› ‹News h₀ L _ _› (.head _) a1 (fun p hp => .tail _ (hsub p hp)) (fun p hp => ?_) (fun x => by rw [hgp.mem_iff]; exact gclose_iff x) ?_
    · exact Nat.lt_succ_of_lt (Heap.lt_size (N1 p (hsub p hp)).1)
    · have b1 : g.Pairwise (· ≤ ·) := by
        rw [List.pairwise_map] at a3
        exact a3.imp fun h => by simp only [natV] at h; omega
      have b2 : g.Nodup := hgp.nodup_iff.mpr hnd
      exact (List.Pairwise.and b1 b2).imp fun h => by omega
end
end Mine

namespace Mine
/-- chains_of's dict: roots with their members -/
def cput (P : List (Nat × List Nat)) (r a : Nat) : List (Nat × List Nat) :=
  if r ∈ P.map (·.1) then P.map (fun p => if p.1 = r then (p.1, p.2 ++ [a]) else p) else P ++ [(r, [a])]
noncomputable def chn (rt : Nat → Nat) : Nat → List (Nat × List Nat)
  | 0 => []
  | k + 1 => cput (chn rt k) (rt k) k
def reps (rt : Nat → Nat) (k : Nat) : List Nat := (List.range k).filter fun i => decide (∀ j, j < i → rt j ≠ rt i)
def grp (rt : Nat → Nat) (k r : Nat) : List Nat := (List.range k).filter fun x => decide (rt x = r)
theorem grp_succ (rt : Nat → Nat) (k r : Nat) : grp rt (k + 1) r = if rt k = r then grp rt k r ++ [k] else grp rt k r := by
  unfold grp
  rw [List.range_succ, List.filter_append]
  by_cases h : rt k = r
  · simp [h]
  · simp [h]
theorem reps_succ (rt : Nat → Nat) (k : Nat) : reps rt (k + 1) = if (∀ j, j < k → rt j ≠ rt k) then reps rt k ++ [k] else reps rt k := by
  unfold reps
  rw [List.range_succ, List.filter_append]
  by_cases h : ∀ j, j < k → rt j ≠ rt k
  · rw [if_pos h, List.filter_cons_of_pos (by simpa using h), List.filter_nil]
  · rw [if_neg h, List.filter_cons_of_neg (by simpa using h), List.filter_nil, List.append_nil]
theorem mem_reps {rt : Nat → Nat} {k i : Nat} : i ∈ reps rt k ↔ i < k ∧ ∀ j, j < i → rt j ≠ rt i := by
  unfold reps
  simp
theorem mem_grp {rt : Nat → Nat} {k r x : Nat} : x ∈ grp rt k r ↔ x < k ∧ rt x = r := by
  unfold grp; simp
/-- the least of a kind -/
theorem rep_of (rt : Nat → Nat) (k : Nat) : ∀ i, i < k → ∃ j, j ∈ reps rt k ∧ rt j = rt i ∧ j ≤ i := by
  intro i
  induction i using Nat.strongRecOn with
  | _ i ih =>
    intro hi
    by_cases h : ∀ j, j < i → rt j ≠ rt i
    · exact ⟨i, mem_reps.mpr ⟨hi, h⟩, rfl, Nat.le_refl _⟩
    · have : ∃ j, j < i ∧ rt j = rt i := by
        apply Classical.byContradiction
        intro q
        exact h fun j hj e => q ⟨j, hj, e⟩
      obtain ⟨j, hj, e⟩ := this
      obtain ⟨m, hm, em, hl⟩ := ih j hj (Nat.lt_trans hj hi)
      exact ⟨m, hm, em.trans e, by omega⟩
theorem chn_eq (rt : Nat → Nat) : ∀ k, chn rt k = (reps rt k).map fun i => (rt i, grp rt k (rt i))
  | 0 => rfl
  | k + 1 => by
    show cput (chn rt k) (rt k) k = _
    rw [chn_eq rt k]
    unfold cput
    rw [reps_succ]
    by_cases h : ∀ j, j < k → rt j ≠ rt k
    · have h1 : ¬ rt k ∈ ((reps rt k).map fun i => (rt i, grp rt k (rt i))).map (·.1) := by
        simp only [List.map_map, List.mem_map, Function.comp, not_exists, not_and]
        intro i hi
        exact h i (mem_reps.mp hi).1
      rw [if_neg h1, if_pos h, List.map_append]
      congr 1
      · refine List.map_congr_left fun i hi => ?_
        rw [grp_succ, if_neg (fun e => h i (mem_reps.mp hi).1 e.symm)]
      · have : grp rt k (rt k) = [] := by
          cases e : grp rt k (rt k) with
          | nil => rfl
          | cons x l =>
            have := mem_grp.mp (e ▸ List.mem_cons_self : x ∈ grp rt k (rt k))
            exact absurd this.2 (h x this.1)
        simp [grp_succ, this]
    · have h1 : rt k ∈ ((reps rt k).map fun i => (rt i, grp rt k (rt i))).map (·.1) := by
        have : ∃ j, j < k ∧ rt j = rt k := by
          apply Classical.byContradiction
          intro q
          exact h fun j hj e => q ⟨j, hj, e⟩
        obtain ⟨j, hj, e⟩ := this
        obtain ⟨i, hi, ei, -⟩ := rep_of rt k j hj
        simp only [List.map_map, List.mem_map, Function.comp]
        exact ⟨i, hi, ei.trans e⟩
      rw [if_pos h1, if_neg h, List.map_map]
      refine List.map_congr_left fun i hi => ?_
      simp only [Function.comp]
      rw [grp_succ]
      by_cases e : rt i = rt k
      · rw [if_pos e, if_pos e.symm]
      · rw [if_neg e, if_neg (Ne.symm e)]
theorem reps_inj {rt : Nat → Nat} {k i j : Nat} (hi : i ∈ reps rt k) (hj : j ∈ reps rt k) (e : rt i = rt j) : i = j := by
  have h1 := (mem_reps.mp hi).2 j
  have h2 := (mem_reps.mp hj).2 i
  rcases Nat.lt_trichotomy i j with h | h | h
  · exact absurd e (h2 h)
  · exact h
  · exact absurd e.symm (h1 h)
theorem reps_pw (rt : Nat → Nat) (k : Nat) : (reps rt k).Pairwise (· < ·) := List.Pairwise.filter _ List.pairwise_lt_range
theorem chn_nodup (rt : Nat → Nat) (k : Nat) : ((chn rt k).map (·.1)).Nodup := by
  rw [chn_eq, List.map_map]
  have h := reps_pw rt k
  have h2 : ∀ i ∈ reps rt k, i ∈ reps rt k := fun _ h => h
  show ((reps rt k).map rt).Nodup
  unfold List.Nodup
  rw [List.pairwise_map]
  refine List.Pairwise.imp_of_mem (fun {i j} hi hj hlt e => ?_) h
  have := reps_inj hi hj e
  omega
theorem grp_len (rt : Nat → Nat) (k r : Nat) : (grp rt k r).length ≤ k := by
  have := List.length_filter_le (fun x => decide (rt x = r)) (List.range k)
  unfold grp
  simpa using this
theorem chn_len (rt : Nat → Nat) (k : Nat) : (chn rt k).length ≤ k := by
  rw [chn_eq, List.length_map]
  have := List.length_filter_le (fun i => decide (∀ j, j < i → rt j ≠ rt i)) (List.range k)
  unfold reps
  simpa using this
theorem chn_mem_len {rt : Nat → Nat} {k : Nat} {p : Nat × List Nat} (h : p ∈ chn rt k) : p.2.length ≤ k := by
  rw [chn_eq] at h
  obtain ⟨i, _, rfl⟩ := List.mem_map.mp h
  exact grp_len _ _ _
theorem nodup_fst : ∀ {P : List (Nat × List Nat)}, (P.map (·.1)).Nodup → ∀ p ∈ P, ∀ q ∈ P, p.1 = q.1 → p = q
  | [], _, _, h, _, _, _ => nomatch h
  | x :: P, hn, p, hp, q, hq, e => by
    rw [List.map_cons, List.nodup_cons] at hn
    rcases List.mem_cons.mp hp with h1 | h1 <;> rcases List.mem_cons.mp hq with h2 | h2
    · rw [h1, h2]
    · rw [h1] at e
      exact absurd (List.mem_map.mpr ⟨q, h2, e.symm⟩) hn.1
    · rw [h2] at e
      exact absurd (List.mem_map.mpr ⟨p, h1, e⟩) hn.1
    · exact nodup_fst hn.2 p h1 q h2 e

/-- what chains_of answers -/
noncomputable def chL (rt : Nat → Nat) (n : Nat) : List (List Nat) := ((chn rt n).filter fun p => decide (1 < p.2.length)).map (·.2)
theorem chL_eq (rt : Nat → Nat) (n : Nat) : chL rt n = ((reps rt n).filter fun i => decide (1 < (grp rt n (rt i)).length)).map fun i => grp rt n (rt i) := by
  unfold chL
  rw [chn_eq, List.filter_map, List.map_map]
  rfl
theorem grp_head {rt : Nat → Nat} {n i : Nat} (h : i ∈ reps rt n) : ∃ t, grp rt n (rt i) = i :: t := by
  have hm : i ∈ grp rt n (rt i) := mem_grp.mpr ⟨(mem_reps.mp h).1, rfl⟩
  have pw : (grp rt n (rt i)).Pairwise (· < ·) := List.Pairwise.filter _ List.pairwise_lt_range
  cases e : grp rt n (rt i) with
  | nil => rw [e] at hm; cases hm
  | cons x t =>
    rw [e] at hm pw
    rcases List.mem_cons.mp hm with rfl | hm
    · exact ⟨t, rfl⟩
    · have h1 := (List.pairwise_cons.mp pw).1 i hm
      have h2 := mem_grp.mp (e ▸ List.mem_cons_self : x ∈ grp rt n (rt i))
      exact absurd h2.2 ((mem_reps.mp h).2 x h1)
theorem chL_pw (rt : Nat → Nat) (n : Nat) : (chL rt n).Pairwise fun a b => ∃ x s y t, a = x :: s ∧ b = y :: t ∧ x < y := by
  rw [chL_eq, List.pairwise_map]
  refine List.Pairwise.imp_of_mem (fun {i j} hi hj hlt => ?_) (List.Pairwise.filter _ (reps_pw rt n))
  obtain ⟨s, hs⟩ := grp_head (List.mem_filter.mp hi).1
  obtain ⟨t, ht⟩ := grp_head (List.mem_filter.mp hj).1
  exact ⟨i, s, j, t, hs, ht, hlt⟩
theorem chL_len (rt : Nat → Nat) (n : Nat) : (chL rt n).length ≤ n := by
  unfold chL
  rw [List.length_map]
  exact Nat.le_trans (List.length_filter_le _ _) (chn_len rt n)
theorem chL_mem_len {rt : Nat → Nat} {n : Nat} {c : List Nat} (h : c ∈ chL rt n) : c.length ≤ n := by
  unfold chL at h
  obtain ⟨p, hp, rfl⟩ := List.mem_map.mp h
  exact chn_mem_len (List.mem_filter.mp hp).1

/-- the law's heaps -/
noncomputable def hps (g : Nat → List Nat) : Nat → List (List Nat)
  | 0 => []
  | k + 1 => if 1 < (g k).length ∧ g k ∉ hps g k then hps g k ++ [g k] else hps g k
theorem hps_eq (rt : Nat → Nat) (n : Nat) : ∀ k, k ≤ n → hps (fun i => grp rt n (rt i)) k = ((reps rt k).filter fun i => decide (1 < (grp rt n (rt i)).length)).map fun i => grp rt n (rt i)
  | 0, _ => rfl
  | k + 1, hk => by
    have ih := hps_eq rt n k (by omega)
    have hkk : k ∈ grp rt n (rt k) := mem_grp.mpr ⟨by omega, rfl⟩
    show (if 1 < (grp rt n (rt k)).length ∧ grp rt n (rt k) ∉ hps (fun i => grp rt n (rt i)) k then hps (fun i => grp rt n (rt i)) k ++ [grp rt n (rt k)] else hps (fun i => grp rt n (rt i)) k) = _
    rw [ih, reps_succ]
    by_cases h : ∀ j, j < k → rt j ≠ rt k
    · rw [if_pos h, List.filter_append]
      by_cases hl : 1 < (grp rt n (rt k)).length
      · have hnot : grp rt n (rt k) ∉ ((reps rt k).filter fun i => decide (1 < (grp rt n (rt i)).length)).map fun i => grp rt n (rt i) := by
          intro q
          obtain ⟨i, hi, e⟩ := List.mem_map.mp q
          have hi' := (mem_reps.mp (List.mem_filter.mp hi).1).1
          rw [← e] at hkk
          exact h i hi' (mem_grp.mp hkk).2.symm
        rw [if_pos ⟨hl, hnot⟩, List.filter_cons_of_pos (by simpa using hl), List.filter_nil, List.map_append]
        rfl
      · rw [if_neg (fun q => hl q.1), List.filter_cons_of_neg (by simpa using hl), List.filter_nil, List.append_nil]
    · rw [if_neg h, if_neg]
      rintro ⟨hl, hq⟩
      have : ∃ j, j < k ∧ rt j = rt k := by
        apply Classical.byContradiction
        intro q
        exact h fun j hj e => q ⟨j, hj, e⟩
      obtain ⟨j, hj, e⟩ := this
      obtain ⟨i, hi, ei, -⟩ := rep_of rt k j hj
      exact hq (List.mem_map.mpr ⟨i, List.mem_filter.mpr ⟨hi, by rw [ei, e]; simpa using hl⟩, by rw [ei, e]⟩)
theorem hps_chL (rt : Nat → Nat) (n : Nat) : hps (fun i => grp rt n (rt i)) n = chL rt n := by
  rw [hps_eq rt n n (Nat.le_refl _), chL_eq]
end Mine

namespace Mine
/-- the cell at c holds v -/
structure CellIn (c : Addr) (v : Option Value) (news : Led) : Prop where
  ex : ∃ o, (c, o) ∈ news ∧ o.data = .cell v
theorem CellIn.cons {c : Addr} {v : Option Value} {news : Led} {p : Addr × Obj} (h : CellIn c v news) : CellIn c v (p :: news) := let ⟨⟨o, a, b⟩⟩ := h; ⟨o, .tail _ a, b⟩
theorem CellIn.sub {c : Addr} {v : Option Value} {l l' : Led} (h : CellIn c v l) (k : ∀ p ∈ l, p ∈ l') : CellIn c v l' := let ⟨⟨o, a, b⟩⟩ := h; ⟨o, k _ a, b⟩
theorem CellIn.away {c d : Addr} {v : Option Value} {l l' : Led} (h : CellIn c v l) (k : ∀ p ∈ l, p.1 ≠ d → p ∈ l') (hn : c ≠ d) : CellIn c v l' := let ⟨⟨o, a, b⟩⟩ := h; ⟨o, k _ a hn, b⟩
section
variable {prog : Program} {w : World} {A : Around} {E : Value → Shared → Prop} {s : Shared} {h₀ : Heap} {L r : Addr} {m : Str → Option Value} {news : Led}
theorem cell_get {L' a c : Addr} {cn x : Str} {cs : Scope} {ccd v : Value} {cl : List (Str × Addr)} {pos : Pos} {Q : Value → Shared → Prop} (N : News h₀ L s.heap news) (hc : cl.lookup x = some c) (C : CellIn c (some v) news) (h : Q v s)
    (hk : cs.kind = .function := by rfl) (hx : (envX cn cs L' a ccd cl).kindOf x = some .cell := by rfl) (hb : (x == ("__debug__" : Str)) = false := by decide) :
    wpAny (model prog w) A (eval (.Name x pos) (envX cn cs L' a ccd cl)) Q E s := by
  obtain ⟨o, hm, hd⟩ := C
  exact wpAny_Name (wpAny_loadName_cell hk hx hc ⟨o, N.get hm, hd⟩ h) hb
theorem cell_set {L' a c : Addr} {cn x : Str} {cs : Scope} {ccd v : Value} {v₀ : Option Value} {cl : List (Str × Addr)} {Q : Unit → Shared → Prop} (F : Fr h₀ L s.heap m) (N : News h₀ L s.heap news) (hc : cl.lookup x = some c) (C : CellIn c v₀ news)
    (h : ∀ h' news', Fr h₀ L h' m → News h₀ L h' news' → CellIn c (some v) news' → (∀ p ∈ news, p.1 ≠ c → p ∈ news') → Q () { s with heap := h' })
    (hk : cs.kind = .function := by rfl) (hx : (envX cn cs L' a ccd cl).kindOf x = some .cell := by rfl) : wpAny (model prog w) A (storeName (envX cn cs L' a ccd cl) x v) Q E s := by
  obtain ⟨o, hm, hd⟩ := C
  refine wpAny_storeName_cell hk hx hc ⟨o, (N _ hm).1, hd⟩ fun h' hv hs => ?_
  obtain ⟨o', ho', hd'⟩ := hv
  exact h h' _ (fr_updL F N hm hs) (news_updL N hm hs ho') ⟨o', mem_updL_self hm, hd'⟩ fun p hp hn => mem_updL_ne hp hn

/-- the dict at d: ints to values -/
structure DictIn (prog : Program) (w : World) (d : Addr) (kvs : List (Int × Value)) (news : Led) : Prop where
  ex : ∃ o, (d, o) ∈ news ∧ o.IsDictOf (intKind prog w) kvs
theorem DictIn.cons {d : Addr} {kvs : List (Int × Value)} {news : Led} {p : Addr × Obj} (h : DictIn prog w d kvs news) : DictIn prog w d kvs (p :: news) := let ⟨⟨o, a, b⟩⟩ := h; ⟨o, .tail _ a, b⟩
theorem DictIn.sub {d : Addr} {kvs : List (Int × Value)} {l l' : Led} (h : DictIn prog w d kvs l) (k : ∀ p ∈ l, p ∈ l') : DictIn prog w d kvs l' := let ⟨⟨o, a, b⟩⟩ := h; ⟨o, k _ a, b⟩
theorem DictIn.away {c d : Addr} {kvs : List (Int × Value)} {l l' : Led} (h : DictIn prog w d kvs l) (k : ∀ p ∈ l, p.1 ≠ c → p ∈ l') (hn : d ≠ c) : DictIn prog w d kvs l' := let ⟨⟨o, a, b⟩⟩ := h; ⟨o, k _ a hn, b⟩
theorem dict_notin {d : Addr} {kvs : List (Int × Value)} {k : Int} {t : Tok} {Q : Value → Shared → Prop} (N : News h₀ L s.heap news) (C : DictIn prog w d kvs news) (lo : (d == sysModules) = false)
    (h : Q (.bool (!(PySem.valueAt kvs k).isSome)) { s with toks := s.toks + 1 }) : wpAny (model prog w) A (compareOp .NotIn (.int k t) (.ref d)) Q E s := by
  obtain ⟨o, hm, hd⟩ := C
  exact kdg_notin (knd := PySem.intKind _ _) N hm hd lo (intKind_is _ _ _ _) _ rfl h
theorem dict_item {value slice : PySem.Expr} {d : Addr} {kvs : List (Int × Value)} {k : Int} {t : Tok} {v : Value} {Q : Value → Shared → Prop} (N : News h₀ L s.heap news) (C : DictIn prog w d kvs news)
    (hl : PySem.valueAt kvs k = some v) (h : Q v { s with toks := s.toks + 1 })
    (hs : subscripted slice false (.ref d) (.int k t) = operate [.ref d, .int k t] (getItem (.ref d) (.int k t)) := by with_unfolding_all rfl) (hg : ∀ r, letTemporaryGo value (.ref d) r = pure () := by intro _; with_unfolding_all rfl) :
    wpAny (model prog w) A (subscriptTail value slice (.ref d) (.int k t)) Q E s := by
  obtain ⟨o, hm, hd⟩ := C
  exact kda_item (knd := PySem.intKind _ _) N hm hd (intKind_is _ _ _ _) hl h hs hg
theorem dict_set {d : Addr} {kvs : List (Int × Value)} {k : Int} {t : Tok} {v : Value} {Q : Unit → Shared → Prop} (F : Fr h₀ L s.heap m) (N : News h₀ L s.heap news) (C : DictIn prog w d kvs news) (hsz : kvs.length ≤ 1000)
    (h : ∀ h' news', Fr h₀ L h' m → News h₀ L h' news' → DictIn prog w d (PySem.stored kvs k v) news' → (∀ p ∈ news, p.1 ≠ d → p ∈ news') → Q () { s with heap := h', toks := s.toks + 1 }) :
    wpAny (model prog w) A (setItem (.ref d) (.int k t) v) Q E s := by
  obtain ⟨o, hm, hd⟩ := C
  refine wpAny_setItem_pairs (knd := PySem.intKind _ _) (hsz := by rw [sizeLine_eq]; omega) (intKind_is _ _ _ _) (Heap.dictOf_iff.mpr ⟨o, (N _ hm).1, hd⟩) fun h' hmm hs => ?_
  obtain ⟨o', ho', hd'⟩ := Heap.dictOf_iff.mp hmm
  exact h h' _ (fr_updL F N hm hs) (news_updL N hm hs ho') ⟨o', mem_updL_self hm, hd'⟩ fun p hp hn => mem_updL_ne hp hn
end

/-- the dict's pairs from the pure ones and the lists' addresses -/
def kvsOf2 (adr : Nat → Addr) (P : List (Nat × List Nat)) : List (Int × Value) := P.map fun p => ((p.1 : Int), Value.ref (adr p.1))
theorem kvs_find (adr : Nat → Addr) : ∀ (P : List (Nat × List Nat)) (r : Nat), PySem.valueAt (kvsOf2 adr P) (r : Int) = if r ∈ P.map (·.1) then some (Value.ref (adr r)) else none
  | [], r => rfl
  | p :: P, r => by
    have ih := kvs_find adr P r
    unfold PySem.valueAt kvsOf2 at ih ⊢
    rw [List.map_cons, List.find?_cons]
    by_cases e : p.1 = r
    · simp [e]
    · have e2 : ¬ ((p.1 : Int) = (r : Int)) := by omega
      simp only [e2, decide_false]
      rw [ih]
      have : (r ∈ (p :: P).map (·.1)) ↔ r ∈ P.map (·.1) := by simp [Ne.symm e]
      simp only [this]
theorem kvs_len (adr : Nat → Addr) (P : List (Nat × List Nat)) : (kvsOf2 adr P).length = P.length := List.length_map ..
theorem valueAt_put {kvs : List (Int × Value)} {k : Int} {v : Value} (h : PySem.valueAt kvs k = none) : PySem.valueAt (PySem.stored kvs k v) k = some v := by
  rw [PyProof.Rows.stored_absent h]
  unfold PySem.valueAt at h ⊢
  rw [List.find?_append]
  cases e : kvs.find? fun kv => kv.1 = k with
  | none => simp
  | some x => rw [e] at h; cases h

/-- the dict and its lists as in P -/
structure ChIn (prog : Program) (w : World) (d : Addr) (adr : Nat → Addr) (P : List (Nat × List Nat)) (news : Led) : Prop where
  dic : DictIn prog w d (kvsOf2 adr P) news
  mem : ∀ p ∈ P, d < adr p.1 ∧ ∃ (vs : List Value) (e : Nat), (adr p.1, listOf vs.toArray e) ∈ news ∧ IntsAre vs (p.2.map fun n => ((n : Nat) : Int))
  inj : ∀ p ∈ P, ∀ q ∈ P, adr p.1 = adr q.1 → p.1 = q.1
theorem ChIn.sub {prog : Program} {w : World} {d : Addr} {adr : Nat → Addr} {P : List (Nat × List Nat)} {l l' : Led} (C : ChIn prog w d adr P l) (k : ∀ p ∈ l, p ∈ l') : ChIn prog w d adr P l' :=
  ⟨C.dic.sub k, fun p hp => let ⟨a, vs, e, b, c⟩ := C.mem p hp; ⟨a, vs, e, k _ b, c⟩, C.inj⟩
theorem ChIn.grow {prog : Program} {w : World} {d : Addr} {adr : Nat → Addr} {P : List (Nat × List Nat)} {l l' : Led} {r a e : Nat} {t : Tok} {vs : List Value} (C : ChIn prog w d adr P l) (hr : r ∈ P.map (·.1))
    (hv : ∀ p ∈ P, p.1 = r → IntsAre vs (p.2.map fun n => ((n : Nat) : Int)))
    (hm : (adr r, listOf (vs ++ [Value.int (a : Nat) t]).toArray e) ∈ l') (k : ∀ p ∈ l, p.1 ≠ adr r → p ∈ l') : ChIn prog w d adr (cput P r a) l' := by
  have hc : cput P r a = P.map (fun p => if p.1 = r then (p.1, p.2 ++ [a]) else p) := by unfold cput; rw [if_pos hr]
  have hk : kvsOf2 adr (cput P r a) = kvsOf2 adr P := by
    rw [hc]
    unfold kvsOf2
    rw [List.map_map]
    refine List.map_congr_left fun p _ => ?_
    simp only [Function.comp]
    split <;> rfl
  obtain ⟨q0, hq0, e0⟩ := List.mem_map.mp hr
  have e0' : q0.1 = r := e0
  refine ⟨?_, fun p hp => ?_, fun p hp q hq he => ?_⟩
  · rw [hk]
    exact C.dic.away k (Nat.ne_of_lt (e0' ▸ (C.mem q0 hq0).1))
  · rw [hc] at hp
    obtain ⟨q, hq, rfl⟩ := List.mem_map.mp hp
    obtain ⟨x1, vs1, e1, x2, x3⟩ := C.mem q hq
    by_cases h : q.1 = r
    · rw [if_pos h]
      have hi := hv q hq h
      refine ⟨x1, _, e, by rw [h]; exact hm, ?_⟩
      rw [List.map_append]
      exact hi.append (.cons _ _ .nil)
    · rw [if_neg h]
      refine ⟨x1, vs1, e1, k _ x2 (fun hh => h ?_), x3⟩
      rw [← e0'] at hh ⊢
      exact C.inj q hq q0 hq0 hh
  · rw [hc] at hp hq
    obtain ⟨p', hp', rfl⟩ := List.mem_map.mp hp
    obtain ⟨q', hq', rfl⟩ := List.mem_map.mp hq
    have e1 : ∀ z : Nat × List Nat, (if z.1 = r then (z.1, z.2 ++ [a]) else z).1 = z.1 := fun z => by split <;> rfl
    rw [e1, e1] at he ⊢
    exact C.inj p' hp' q' hq' he
theorem ChIn.new {prog : Program} {w : World} {d ln : Addr} {adr : Nat → Addr} {P : List (Nat × List Nat)} {l l' : Led} {r a e : Nat} {t : Tok} (C : ChIn prog w d adr P l) (hr : r ∉ P.map (·.1))
    (hd : DictIn prog w d (PySem.stored (kvsOf2 adr P) (r : Int) (.ref ln)) l') (hln : d < ln) (hfr : ∀ p ∈ l, p.1 ≠ ln)
    (hm : (ln, listOf [Value.int (a : Nat) t].toArray e) ∈ l') (k : ∀ p ∈ l, p.1 ≠ d → p ∈ l') : ChIn prog w d (fun x => if x = r then ln else adr x) (cput P r a) l' := by
  have hc : cput P r a = P ++ [(r, [a])] := by unfold cput; rw [if_neg hr]
  have hne : ∀ p ∈ P, p.1 ≠ r := fun p hp e => hr (List.mem_map.mpr ⟨p, hp, e⟩)
  have hk : kvsOf2 (fun x => if x = r then ln else adr x) (cput P r a) = PySem.stored (kvsOf2 adr P) (r : Int) (.ref ln) := by
    rw [PyProof.Rows.stored_absent (by rw [kvs_find, if_neg hr]), hc]
    unfold kvsOf2
    rw [List.map_append]
    congr 1
    · refine List.map_congr_left fun p hp => ?_
      simp only [hne p hp, if_false]
    · simp
  refine ⟨by rw [hk]; exact hd, fun p hp => ?_, fun p hp q hq he => ?_⟩
  · rw [hc] at hp
    rcases List.mem_append.mp hp with hp | hp
    · obtain ⟨x1, vs1, e1, x2, x3⟩ := C.mem p hp
      simp only [hne p hp, if_false]
      exact ⟨x1, vs1, e1, k _ x2 (Nat.ne_of_gt x1), x3⟩
    · rw [List.mem_singleton.mp hp]
      simp only [if_true]
      exact ⟨hln, _, e, hm, .cons _ _ .nil⟩
  · rw [hc] at hp hq
    have al : ∀ p ∈ P, adr p.1 ≠ ln := fun p hp => let ⟨_, _, _, x2, _⟩ := C.mem p hp; hfr _ x2
    rcases List.mem_append.mp hp with hp | hp <;> rcases List.mem_append.mp hq with hq | hq
    · simp only [hne p hp, hne q hq, if_false] at he
      exact C.inj p hp q hq he
    · rw [List.mem_singleton.mp hq] at he ⊢
      simp only [hne p hp, if_false, if_true] at he
      exact absurd he (al p hp)
    · rw [List.mem_singleton.mp hp] at he ⊢
      simp only [hne q hq, if_false, if_true] at he
      exact absurd he.symm (al q hq)
    · rw [List.mem_singleton.mp hp, List.mem_singleton.mp hq]
end Mine

namespace Mine
section
variable {prog : Program} {w : World} {A : Around} {E : Value → Shared → Prop} {s : Shared} {h₀ : Heap} {L : Addr} {m : Str → Option Value} {env : Env}
/-- the source of a comprehension is a dict with int keys -/
structure SrcD (prog : Program) (w : World) (A : Around) (h₀ : Heap) (L : Addr) (m : Str → Option Value) (env : Env) (ct elt : PySem.Expr) (x : Str) (scope : Scope) (cl : List (Str × Addr)) (Q : Value → Shared → Prop) (xv : Value) (s₁ : Shared) : Prop where
  ex : ∃ d o kvs news, xv = .ref d ∧ A.handled = none ∧ Fr h₀ L s₁.heap m ∧ News h₀ L s₁.heap news ∧ (d, o) ∈ news ∧ o.IsDictOf (intKind prog w) kvs ∧ (d == sysModules) = false ∧ kvs.length ≤ 1000 ∧
    ∀ s₂ : Shared, (∃ h, s₂ = { s₁ with heap := h }) → LCt.CompRestT prog w A h₀ L m env ct elt x scope cl s₂ (fun nw => (d, o) ∈ nw) (fun i v => ∃ (k : Int) (y : Value) (t : Tok), kvs[i]? = some (k, y) ∧ v = .int k t) (LCg.FinE h₀ L m s₂ Q) kvs.length 0 [] news

theorem ListComp_D {ct elt iter : PySem.Expr} {x : Str} {px : Pos} {scope : Scope} {cl : List (Str × Addr)} {pos : Pos} {Q : Value → Shared → Prop} (_F₀ : Fr h₀ L s.heap m)
    (hclos : closureFor scope env = pure cl) (hcell : ∀ y ∈ scope.names, y.2 ≠ .cell) (hkind : scope.kind = .function)
    (hnames : ∀ y ∈ scope.names, y.2 = .local → scope.names.lookup y.1 = some .local) (hx : scope.names.lookup x = some .local)
    (h : wpAny (model prog w) A (eval iter env) (SrcD prog w A h₀ L m env ct elt x scope cl Q) E s)
    (hs : ∀ x, foldedSetIterable iter env x = pure x := by intro _; rfl) :
    wpAny (model prog w) A (eval (.ListComp elt [⟨.Name x px, iter, [ct], 0⟩] scope pos) env) Q E s := by
  rw [eval_ListComp]
  refine wpAny_comprehension_free (use := none) rfl hs hclos hkind hnames (wpAny_mono h (fun xv s₁ h₁ => ?_) fun _ _ e => e)
  obtain ⟨d, o, kvs, news, rfl, hh, F, N, hm, hd, lo, hsz, R⟩ := h₁.ex
  obtain ⟨ep, ha⟩ := KdkAt.of hd
  have hD := ha.dictAt (N _ hm).1
  refine wpAny_pyIter_dict lo hD ?_
  have up : ∀ b o', s₁.heap.get? b = some o' → (s₁.heap.push { cls := .type "dict_keyiterator", data := .fields #[.ref d, .int 0 0, .int kvs.length 0, .int ep 0] }).get? b = some o' := fun b o' e => Heap.get?_push_of_some _ e
  have hlt := hD.lt_size
  refine LCt.block_T (S := fun nw => (d, o) ∈ nw) (P := fun i v => ∃ (k : Int) (y : Value) (t : Tok), kvs[i]? = some (k, y) ∧ v = .int k t)
    ((Walks.dictKeys (knd := intKind prog w) hh s₁.heap.objs.size d (Nat.ne_of_lt hlt) kvs ep).weaken fun i v ⟨k, y, e1, e2⟩ => ?_) (by rw [sizeLine_eq]; omega)
    (fun i h st => by obtain ⟨o, e, _⟩ := st.1; exact ⟨o, e⟩) (fun i g g' o' nw st e e' k N' S' => ⟨?_, ha.dictAt (N' _ S').1⟩) hcell hkind hx ⟨⟨_, Heap.get?_push_size _ rfl, rfl, rfl⟩, hD.push _⟩ (fun b hb => ?_)
    (F.keeps up) (N.grown up) (Nat.ne_of_lt F.ns.lt) (next_is_new F) (fun p hp => Nat.ne_of_lt (Heap.lt_size (N p hp).1)) hm (R _ ⟨_, rfl⟩) ?_
  · obtain ⟨t, rfl⟩ := PySem.Value.isInt_shape e2
    exact ⟨k, y, t, e1, rfl⟩
  · obtain ⟨o₂, q, r⟩ := st.1
    rw [e] at q; cases q
    exact ⟨o', e', r⟩
  · show b < (s₁.heap.push _).objs.size
    rw [Heap.size_push]
    rcases List.mem_cons.mp hb with rfl | hb
    · exact Nat.lt_succ_self _
    · rw [List.mem_singleton.mp hb]; exact Nat.lt_succ_of_lt hlt
  · intro D C h tk m' ys news' F' N' o1 hn hC₀ hD₀ hCL hDL hCD offC fin
    refine ⟨m', hn, fun h'' hs'' => fin D h'' tk (F'.change hs'' hCL hC₀) (fun p hp => ?_) o1⟩
    refine ⟨hs''.extBut _ _ ?_ (N' p hp).1, (N' p hp).2⟩
    rcases List.mem_cons.mp hp with rfl | hp
    · exact Ne.symm hCD
    · exact offC p hp

theorem cell_getC {x : Str} {scope : Scope} {cl : List (Str × Addr)} {C c : Addr} {v : Value} {pos : Pos} {Q : Value → Shared → Prop} {news : Led} (N : News h₀ L s.heap news) (hc : cl.lookup x = some c) (K : CellIn c (some v) news) (h : Q v s)
    (hk : (compEnvC scope cl C env).scope.kind = .function := by rfl) (hx : (compEnvC scope cl C env).kindOf x = some .cell := by rfl) (hb : (x == ("__debug__" : Str)) = false := by decide) :
    wpAny (model prog w) A (eval (.Name x pos) (compEnvC scope cl C env)) Q E s := by
  obtain ⟨⟨o, hm, hd⟩⟩ := K
  exact wpAny_Name (wpAny_loadName_cell hk hx hc ⟨o, N.get hm, hd⟩ h) hb
/-- induction over a comprehension's turns, the ledger unchanged -/
theorem crt_ind {ct elt : PySem.Expr} {x : Str} {scope : Scope} {cl : List (Str × Addr)} {S : Led → Prop} {P : Nat → Value → Prop} {Fin : List Value → Led → Prop} {nw : Led} (J : Nat → List Value → Prop) (n : Nat)
    (step : ∀ k i ys, i < n → J i ys → (∀ ys', J (i + 1) ys' → LCt.CompRestT prog w A h₀ L m env ct elt x scope cl s S P Fin k (i + 1) ys' nw) → LCt.CompRestT prog w A h₀ L m env ct elt x scope cl s S P Fin (k + 1) i ys nw)
    (fin : ∀ ys, J n ys → Fin ys nw) : ∀ k i ys, i + k = n → J i ys → LCt.CompRestT prog w A h₀ L m env ct elt x scope cl s S P Fin k i ys nw
  | 0, i, ys, e, j => LCt.CompRestT.zero (fin ys (by rw [← e]; exact j))
  | k + 1, i, ys, e, j => step k i ys (by omega) j fun ys' j' => crt_ind J n step fin k (i + 1) ys' (by omega) j'
end
end Mine

namespace Mine
open AutoSeq1 (wpAny_loadPart')
open MeetsSeq
theorem lt_loop (l b : Addr) (x y : Int) (t u : Tok) (items items2 : Array Value) (n n2 : Nat) (hi1 : items[((0 : Nat) : Int).toNat]? = some (Value.int x t)) (hi2 : items2[((0 : Nat) : Int).toNat]? = some (Value.int y u)) (hne : x ≠ y) : Meets (Builtin.«list.__eq__.loop» ⟨[.ref l, .ref b, rawInt (0 : Nat), rawInt 0], []⟩)
    (fun _ R s => s.heap.get? l = some { cls := .type "list", dict := none, data := .seq items n, slots := #[] } ∧ s.heap.get? b = some { cls := .type "list", dict := none, data := .seq items2 n2, slots := #[] } ∧
      R (.ok (.ret (.bool (decide (x < y))))) s) := by
  intro prog w A R s h
  obtain ⟨hp, g, d, tk, os⟩ := s; obtain ⟨hl, hb, h⟩ := h
  wp_walk using wpAny_loadPart' hl, wpAny_loadPart' hb
  rw [hi1, hi2]
  refine wpAny_bind (wpAny_eqBool_int ?_)
  have hb' : (x == y) = false := by simpa using hne
  rw [hb']
  wp_walk using wpAny_loadPart' hl, wpAny_loadPart' hb
  rw [hi1, hi2]
  refine wpAny_bind ?_
  refine lt_int ?_
  exact wpAny_pure h
theorem list_lt (l b : Addr) (x y : Int) (t u : Tok) (items items2 : Array Value) (n n2 : Nat) (hi1 : items[((0 : Nat) : Int).toNat]? = some (Value.int x t)) (hi2 : items2[((0 : Nat) : Int).toNat]? = some (Value.int y u)) (hne : x ≠ y) : Meets (Builtin.«list.__lt__» ⟨[.ref l, .ref b], []⟩)
    (fun _ R s => s.heap.get? l = some { cls := .type "list", dict := none, data := .seq items n, slots := #[] } ∧ s.heap.get? b = some { cls := .type "list", dict := none, data := .seq items2 n2, slots := #[] } ∧
      R (.ok (.ret (.bool (decide (x < y))))) s) := by
  intro prog w A R s h
  obtain ⟨hp, g, d, tk, os⟩ := s; obtain ⟨hl, hb, h⟩ := h
  have f3 := AutoSeq1.sub_list_list
  wp_walk using wpAny_loadPart' hl, wpAny_loadPart' hb
  exact ⟨plainId_quiet MeetsSeq3.plain_eq_loop _, codeAny_builtin MeetsSeq3.entry_eq_loop (by
    rw [Around.under_plainId MeetsSeq3.plain_eq_loop _]
    exact lt_loop l b x y t u items items2 n n2 hi1 hi2 hne prog w A R _ ⟨hl, hb, h⟩)⟩
section
variable {prog : Program} {w : World} {A : Around} {E : Value → Shared → Prop} {s : Shared} {h₀ : Heap} {L : Addr} {m : Str → Option Value} {news : Led} {vs : List Value}
theorem key_lists {a b : Addr} {x y : Int} {t u : Tok} {items items2 : Array Value} {n n2 : Nat} {Q : Bool → Shared → Prop} (hu : A.units < cLine) (ha : s.heap.get? a = some (listOf items n)) (hb : s.heap.get? b = some (listOf items2 n2))
    (hi1 : items[((0 : Nat) : Int).toNat]? = some (Value.int x t)) (hi2 : items2[((0 : Nat) : Int).toNat]? = some (Value.int y u)) (hne : x ≠ y) (h : Q (decide (x < y)) s) : wpAny (model prog w) A (keyLt' oneType' (.ref a) (.ref b)) Q E s := by
  rw [keyLt'_oneType, oneLt'_eq]
  simp only [if_true]
  refine wpAny_bind (wpAny_cRoomFor hu ?_)
  refine wpAny_bind (wpAny_callSpecialIfBound?_slot (T := "list") ⟨_, ha, rfl⟩ PySem.F.slot_list_lt (call_meets PySem.F.slot_list_lt ⟨_, ha, rfl⟩ PySem.F.entry_list_lt (PySem.F.args_list_lt_2 _ _) (list_lt a b x y t u items items2 n n2 hi1 hi2 hne) ⟨ha, hb, ?_⟩))
  exact wpAny_truthy_bool h
theorem sorted_lists {l : Addr} {n : Nat} {Q : Value → Shared → Prop} (F : Fr h₀ L s.heap m) (N : News h₀ L s.heap news) (hm : (l, listOf vs.toArray n) ∈ news) (h64 : vs.length < 64) (hu : A.units + 64 < cLine)
    (hds : Nat → Int) (hq : ∀ k v, vs[k]? = some v → ∃ a t xs e, v = .ref a ∧ (a, listOf (Value.int (hds k) t :: xs).toArray e) ∈ news) (hlt : ∀ k, 1 ≤ k → k < vs.length → hds (k - 1) < hds k)
    (h : ∀ D e h', Fr h₀ L h' m → News h₀ L h' ((D, listOf vs.toArray e) :: news) → (∀ q ∈ news, q.1 < D) → Q (.ref D) { s with heap := h' }) :
    wpAny (model prog w) A (call (.builtin "sorted") [.ref l]) Q E s := by
  refine sorted_same F N (News.isList N hm) h64 (fun h2 h' news' F' N' hsub => ?_) h
  refine kas_kind (T := .type "list") h2 (fun v hv => ?_) (by decide) (by decide) ⟨rfl, fun k h1 hk C hC => ?_⟩
  · obtain ⟨k, hk, e⟩ := List.getElem_of_mem hv
    obtain ⟨a, t, xs, e2, rfl, hma⟩ := hq k v (by rw [List.getElem?_eq_getElem hk, e])
    exact (Looks.ld (N' _ (hsub _ hma)).1).andThen .now
  · obtain ⟨a, t, xs, e2, q1, m1⟩ := hq k vs[k] (List.getElem?_eq_getElem hk)
    obtain ⟨b, u, ys, e3, q2, m2⟩ := hq (k - 1) (vs[k - 1]'(by omega)) (List.getElem?_eq_getElem (by omega))
    have hl := hlt k h1 hk
    have g1 : vs.getD k Value.none = .ref a := by rw [List.getD_eq_getElem?_getD, List.getElem?_eq_getElem hk, q1]; rfl
    have g2 : vs.getD (k - 1) Value.none = .ref b := by rw [List.getD_eq_getElem?_getD, List.getElem?_eq_getElem (by omega), q2]; rfl
    unfold kas_ask
    rw [g1, g2]
    refine key_lists (x := hds k) (y := hds (k - 1)) (t := t) (u := u) (by simp only [units_in1]; omega) (N' _ (hsub _ m1)).1 (N' _ (hsub _ m2)).1 (by simp) (by simp) (by omega) ?_
    have : decide (hds k < hds (k - 1)) = false := by simp; omega
    rw [this]
    exact hC
end
end Mine

namespace Mine
theorem start_L8Chains : True := by
  w_top off
  trivial
local macro_rules | `(tactic| walk_at "setAttr ref") => `(tactic| ((with_reducible show wpAny _ _ (setAttr (Value.ref _) (Str.ofString "parent") _) _ _ _); k_dflt (refine row_setPar (by assumption) (by assumption) (by assumption) (by assumption) (by assumption) (by assumption) ?_); intro h' n' F' N' R' K' C'; (try k_sweep); (try dsimp only at C')))
local macro_rules | `(tactic| walk_at "setAttr ref") => `(tactic| ((with_reducible show wpAny _ _ (setAttr (Value.ref _) (Str.ofString "bond") _) _ _ _); k_dflt (refine row_setBond (by assumption) (by assumption) (by assumption) (by assumption) (by assumption) (by assumption) ?_); intro h' n' F' N' R' K' C'; (try k_sweep); (try dsimp only at C')))
local macro_rules | `(tactic| walk_at "setAttr ref") => `(tactic| ((with_reducible show wpAny _ _ (setAttr (Value.ref _) (Str.ofString "y_offset") _) _ _ _); k_dflt (refine row_setY (by assumption) (by assumption) (by assumption) (by assumption) (by assumption) (by assumption) ?_); intro h' n' F' N' R' K' C'; (try k_sweep); (try dsimp only at C')))
local macro_rules | `(tactic| walk_at "getAttr ref") => `(tactic| ((with_reducible show wpAny _ _ (getAttr (Value.ref _) (Str.ofString "parent") _) _ _ _); k_dflt (refine row_getPar (by assumption) (by assumption) (by assumption) (by assumption) (by assumption) (by assumption) ?_); intro tg))
local macro_rules | `(tactic| walk_at "getAttr ref") => `(tactic| ((with_reducible show wpAny _ _ (getAttr (Value.ref _) (Str.ofString "bond") _) _ _ _); k_dflt (refine row_getBond (by assumption) (by assumption) (by assumption) (by assumption) (by assumption) (by assumption) ?_); intro tg))
local macro_rules | `(tactic| walk_at "getAttr ref") => `(tactic| ((with_reducible show wpAny _ _ (getAttr (Value.ref _) (Str.ofString "y_offset") _) _ _ _); k_dflt (refine row_getY (by assumption) (by assumption) (by assumption) (by assumption) (by assumption) (by assumption) ?_); intro tg))
local macro_rules | `(tactic| walk_at "subscriptTail Name Name ref int") => `(tactic| ((with_reducible show wpAny _ _ (subscriptTail _ _ (Value.ref _) (Value.int _ _)) _ _ _); k_dflt (refine row_item (by assumption) (by assumption) rfl (by assumption) ?_)))
local macro_rules | `(tactic| walk_at "call builtin:len") => `(tactic| ((with_reducible show wpAny _ _ (call (Value.builtin "len") [Value.ref _]) _ _ _); k_dflt (refine row_len (by assumption) (by first | assumption | exact RowIn.sub (by assumption) (fun p hp => List.Mem.tail _ hp)) ?_); intro tl' tk'))
local macro_rules | `(tactic| walk_at "TurnQ") => `(tactic| (dsimp only [TurnQ]))
local macro_rules | `(tactic| walk_at "call builtin:list.append") => `(tactic| ((with_reducible show wpAny _ _ (call (Value.builtin "list.append") [Value.ref _, _]) _ _ _); k_dflt (refine app_list (by assumption) (by assumption) (by first | assumption | exact List.mem_cons_of_mem _ (by assumption)) (by omega) ?_); intro h' n' F' N' M' K'; (try k_sweep)))
local macro_rules | `(tactic| walk_at "getMethod ref") => `(tactic| ((with_reducible show wpAny _ _ (getMethod (Value.ref _) (Str.ofString "append") _) _ _ _); with_unfolding_all refine getMethod_append_N (by assumption) (by assumption) ?_))
local macro_rules | `(tactic| tb_start) => `(tactic| repeat' (first | ((fail_if_success (with_reducible show wpAny _ _ (exec (Stmt.While _ _ _ _) _) _ _ _)); (fail_if_success (with_reducible show wpAny _ _ (pyIter _) _ _ _)); (fail_if_success (with_reducible show wpAny _ _ (eval (Expr.ListComp _ _ _ _) _) _ _ _)); first | (k_unfold; (try dsimp only)) | walk1 | (dsimp only; walk1)) | fail "no step"))
section
variable {w : World} {mean : ExcName → Option Value} {mg mb : Str → Option Value} {dp un : Nat} {gd : Option (List Code)} {cn : Str} {scp : Scope} {a : Addr} {ccd : Value} {cl : List (Str × Addr)} {outer : List Env} {A₀ : Around} {base h₀ : Heap} {L : Addr} {m : Str → Option Value} {news : Led} {s : Shared} {E : Value → Shared → Prop} {Q : Value → Shared → Prop}
variable {r : Addr} {ax : List (Addr × Addr)} {cs : List Cel}

theorem dict_notin2 {prog : Program} {A : Around} {d : Addr} {kvs : List (Int × Value)} {k : Int} {t : Tok} {b : Bool} (N : News h₀ L s.heap news) (C : DictIn prog w d kvs news) (lo : (d == sysModules) = false) (hb : (PySem.valueAt kvs k).isSome = b)
    (h : Q (.bool (!b)) { s with toks := s.toks + 1 }) : wpAny (model prog w) A (compareOp .NotIn (.int k t) (.ref d)) Q E s := dict_notin N C lo (by rw [hb]; exact h)
theorem root_spec2 {rt : Nat → Nat} {ai : Nat} {ta : Tok} (hrt : ∀ i rr, Up cs i rr → Root cs rr → rt i = rr) (B : Below A₀ base outer h₀) (F : Fr h₀ L s.heap m) (X : (hd.heap_39 w.params).In h₀) (N : News h₀ L s.heap news)
    (T : Top hd.view_39 (looseW hd.view_39 []) mean mg mb h₀) (hk : scp.kind = .function) (hdp : dp + 1 < recursionLimit)
    (R : RowIn r ax cs news) (W : Wf cs) (hai : ai < cs.length)
    (h : ∀ h' tk t, Fr h₀ L h' m → News h₀ L h' news → Q (.int (rt ai : Nat) t) { s with heap := h', toks := tk }) :
    wpAny (model PySem.Challenge.rw_nu0149_01.row.prog w) (ktrTop dp un gd cn scp L a ccd cl outer) (call (.ref 56) [.ref r, .int ai ta]) Q E s :=
  root_spec B F X N T hk hdp R W hai fun h' tk t rr F' N' U' RR' => by rw [← hrt _ _ U' RR']; exact h h' tk t F' N'
local macro_rules | `(tactic| walk_at "eval Name") => `(tactic| ((with_reducible show wpAny _ _ (eval (Expr.Name (Str.ofString "heaps") _) _) _ _ _); k_dflt (refine cell_get (by assumption) (by rfl) (by first | assumption | exact CellIn.cons (by assumption)) ?_)))
local macro_rules | `(tactic| walk_at "eval Name") => `(tactic| ((with_reducible show wpAny _ _ (eval (Expr.Name (Str.ofString "heaps") _) (compEnvC _ _ _ _)) _ _ _); k_dflt (refine cell_getC (by assumption) (by rfl) (by assumption) ?_)))
local macro_rules | `(tactic| walk_at "eval ListComp") => `(tactic| (k_dflt (refine ListComp_D (by with_unfolding_all rfl) (by decide) (by rfl) (by decide) (by rfl) ?_)))
local macro_rules | `(tactic| walk_at "call builtin:len") => `(tactic| ((with_reducible show wpAny _ _ (call (Value.builtin "len") [Value.ref _]) _ _ _); k_dflt (refine list_len (by assumption) (by assumption) (by assumption) ?_); intro tl' tk'))
local macro_rules | `(tactic| walk_at "storeName") => `(tactic| ((with_reducible show wpAny _ _ (storeName _ (Str.ofString "heaps") _) _ _ _); k_dflt (refine cell_set (by assumption) (by assumption) (by rfl) (by first | assumption | exact CellIn.cons (by assumption)) ?_); intro h' n' F' N' C' K'; (try k_sweep)))
local macro_rules | `(tactic| walk_at "call ref") => `(tactic| ((with_reducible show wpAny _ _ (call (Value.ref 56) _ _) _ _ _); k_dflt (refine' root_spec2 ?k0 ?k1 ?k2 ?k3 ?k4 ?k5 ?k6 ?k7 ?k8 ?k9 ?k10 ?_; (case k0 => assumption); (case k1 => k_asm); (case k2 => k_asm); (case k3 => k_asm); (case k4 => k_asm); (case k5 => k_asm); (case k6 => exact rfl); (case k7 => ktr_room); (case k8 => k_asm); (case k9 => k_asm); (case k10 => assumption)); intro h' tk' t' F' N'; (try k_sweep)))
local macro_rules | `(tactic| walk_at "compareOp NotIn int ref") => `(tactic| (k_dflt (refine dict_notin2 (by assumption) (by assumption) (by assumption) (by assumption) ?_)))
local macro_rules | `(tactic| walk_at "subscriptTail Name Name ref int") => `(tactic| ((with_reducible show wpAny _ _ (subscriptTail (Expr.Name (Str.ofString "heaps") _) _ (Value.ref _) (Value.int _ _)) _ _ _); k_dflt (refine dict_item (by assumption) (by assumption) (by assumption) ?_)))
local macro_rules | `(tactic| walk_at "setItem zzz int") => `(tactic| (k_dflt (refine dict_set (by assumption) (by assumption) (by first | assumption | exact DictIn.cons (by assumption)) (by assumption) ?_); intro h' n' F' N' D' K'; (try k_sweep)))
theorem rt_ex (cs : List Cel) : ∃ f : Nat → Nat, ∀ i r, Up cs i r → Root cs r → f i = r := by
  refine ⟨fun i => Classical.epsilon fun r => Up cs i r ∧ Root cs r, fun i r h1 h2 => ?_⟩
  have := Classical.epsilon_spec (p := fun r => Up cs i r ∧ Root cs r) ⟨r, h1, h2⟩
  exact Root.uniq this.1 h1 this.2 h2
abbrev chD (c : List Nat) : Dat := .list ((c.map natV).map Dat.int)
theorem datAll_of {α : Type} {nw : Led} {f : α → Value} {g : α → Dat} : ∀ l : List α, (∀ p ∈ l, DatIn nw (f p) (g p)) → DatAll nw (l.map f) (l.map g)
  | [], _ => .nil
  | p :: l, h => .cons (h p (.head _)) (datAll_of l fun q hq => h q (.tail _ hq))
theorem heads_of {vs : List Value} {c : List Nat} {x : Nat} {t : List Nat} (h : IntsAre vs (c.map fun n => ((n : Nat) : Int))) (e : c = x :: t) : ∃ tk xs, vs = Value.int (x : Nat) tk :: xs := by
  subst e
  cases h with
  | cons _ tk _ => exact ⟨tk, _, rfl⟩
theorem chains_spec {rt : Nat → Nat} (B : Below A₀ base outer h₀) (F : Fr h₀ L s.heap m) (X : (hd.heap_39 w.params).In h₀) (N : News h₀ L s.heap news)
    (T : Top hd.view_39 (looseW hd.view_39 []) mean mg mb h₀) (hk : scp.kind = .function) (hdp : dp + 2 < recursionLimit)
    (R : RowIn r ax cs news) (W : Wf cs) (hrt : ∀ i rr, Up cs i rr → Root cs rr → rt i = rr)
    (hun : un + 200 < cLine)
    (h : ∀ h' tk news' D e (vs : List Value), Fr h₀ L h' m → News h₀ L h' news' → (D, listOf vs.toArray e) ∈ news' → DatAll news' vs ((chL rt cs.length).map chD) → (∀ p ∈ news, p ∈ news') → Q (.ref D) { s with heap := h', toks := tk }) :
    wpAny (model PySem.Challenge.rw_nu0149_01.row.prog w) (ktrTop dp un gd cn scp L a ccd cl outer) (call (.ref 61) [.ref r]) Q E s := by
  refine wpAny_call ?_
  k_dflt (refine' code_defC ?k1 ?k2 ?k3 ?k4 ?k5 ?kA ?kF ?kK ?k6 ?k7 ?k8 ?k9 ?kB ?kD ?_ ?c2 ?c3 ?c4; (case kA => exact rfl); (case kF => exact rfl); (case kK => assumption); (case k1 => k_asm); (case k2 => k_asm); (case k3 => k_asm); (case k4 => k_asm); (case k5 => k_asm); (case k6 => k_is); (case k7 => k_is); (case k8 => ktr_room); (case k9 => exact BindsTo.of_eq rfl); (case kB => exact rfl); (case kD => decide +kernel); (case c2 => exact rfl); (case c3 => exact rfl); (case c4 => exact rfl); k_whole; intro g0 L0 h0 tk0 cells0 FG0 F1 N1 Y0 B0 X0 T0 l0; k_cells Y0; (try simp only [List.cons_append, List.nil_append] at N1); (try dsimp only); (try k_fold))
  rename_i oc dc
  obtain ⟨u0, F0⟩ := fr_norm [(Str.ofString "row", .ref r)] F1 (by kst_all)
  clear F1
  simp only [kstB] at F0
  have hcl0 : CellIn (L0 + 1) none ((L0 + 1, oc) :: news) := ⟨oc, .head _, dc⟩
  clear dc
  refine wpAny_noRaise ?_
  tb_start
  rename_i dH hx oD lo _ _ hDI _ lD hx2 n1 F2 N2 C2 K2
  have hne : ∀ p ∈ news, p.1 ≠ L0 + 1 := fun p hp => Nat.ne_of_lt (Nat.lt_succ_of_lt (l0 p hp))
  have hsub : ∀ p ∈ news, p ∈ n1 := fun p hp => K2 p (.tail _ (.tail _ hp)) (hne p hp)
  have R1 : RowIn r ax cs n1 := R.sub hsub
  have hD1 : DictIn PySem.Challenge.rw_nu0149_01.row.prog w dH (kvsOf2 (fun _ => 0) (chn rt 0)) n1 := ⟨oD, K2 _ (.head _) (Nat.ne_of_gt lD.1), hDI⟩
  have hlD : ∀ p ∈ news, p.1 < dH := fun p hp => Nat.lt_trans (Nat.lt_succ_of_lt (l0 p hp)) lD.1
  have hLD : L0 + 1 < dH := lD.1
  have hC1 : ChIn PySem.Challenge.rw_nu0149_01.row.prog w dH (fun _ => 0) (chn rt 0) n1 := ⟨hD1, (fun _ h => nomatch h), (fun _ h => nomatch h)⟩
  clear K2 lD hDI hD1
  tb_start
  rename_i IR F3 N3 _
  clear hne
  refine iter_rangeM (n := cs.length) (fun i m nw => m (Str.ofString "row") = some (.ref r) ∧ (∀ p ∈ news, p ∈ nw) ∧ CellIn (L0 + 1) (some (.ref dH)) nw ∧ ∃ adr, ChIn PySem.Challenge.rw_nu0149_01.row.prog w dH adr (chn rt i) nw)
    (by exact rfl) IR rfl (by have := R.len; have := R.small; omega) F3 N3 ⟨rfl, hsub, C2, _, hC1⟩ ?_ ?_
  · rintro i m1 nw I o h1 tk1 t1 hin ⟨hr, hnw, hC, adr, hG⟩ hoff hlt hoc F4 N4
    obtain ⟨u1, F5⟩ := fr_norm [(Str.ofString "row", .ref r), (Str.ofString "at", .int (i : Nat) t1)] F4 (by simp (decide := true) [hr])
    clear F4 F3 N3 hC1 R1 C2 hsub
    simp only [kstB] at F5
    replace F5 : Fr g0 L0 h1 _ := F5
    replace N4 : News g0 L0 h1 _ := N4
    k_sweep
    have R2 : RowIn r ax cs ((I, o) :: nw) := R.sub fun p hp => .tail _ (hnw p hp)
    have hC4 : CellIn (L0 + 1) (some (.ref dH)) ((I, o) :: nw) := hC.cons
    have hD4 := hG.dic.cons (p := (I, o))
    have hsz : (kvsOf2 adr (chn rt i)).length ≤ 1000 := by rw [kvs_len]; have := chn_len rt i; have := R.len; have := R.small; omega
    by_cases hrm : rt i ∈ (chn rt i).map (·.1)
    · have hv1 : PySem.valueAt (kvsOf2 adr (chn rt i)) (rt i) = some (.ref (adr (rt i))) := by rw [kvs_find, if_pos hrm]
      have hv2 : (PySem.valueAt (kvsOf2 adr (chn rt i)) (rt i)).isSome = true := by rw [hv1]; rfl
      obtain ⟨p0, hp0, ep0⟩ := List.mem_map.mp hrm
      obtain ⟨g1, vs, e, g2, g3⟩ := hG.mem p0 hp0
      have hvl : vs.length ≤ 1000 := by
        have h1 := g3.length
        have h2 := chn_mem_len hp0
        have := R.len; have := R.small
        rw [List.length_map] at h1
        omega
      have ep0' : p0.1 = rt i := ep0
      rw [ep0'] at g1 g2
      have g4 : (adr (rt i), listOf vs.toArray e) ∈ (I, o) :: nw := .tail _ g2
      k_steps
      rename_i n2 F6 N6 M6 K6
      obtain ⟨⟨oc', hc1, hc2⟩⟩ := hC
      have hgI : adr (rt i) ≠ I := hoff _ g2
      have hne1 : ∀ p ∈ news, p.1 ≠ adr (rt i) := fun p hp => Nat.ne_of_lt (Nat.lt_trans (hlD p hp) g1)
      refine ⟨_, _, _, n2, dropL I n2, rfl, F6, N6, K6 _ (.head _) (Ne.symm hgI), fun p hp => of_dropL hp, rfl, fun p hp => mem_dropL (K6 _ (.tail _ (hnw p hp)) (hne1 p hp)) (hoff p (hnw p hp)), ⟨⟨oc', mem_dropL (K6 _ (.tail _ hc1) (Nat.ne_of_lt (Nat.lt_trans hLD g1))) (hoff _ hc1), hc2⟩⟩, adr, ?_⟩
      exact ChIn.grow hG hrm (fun p hp e1 => by rw [nodup_fst (chn_nodup rt i) p hp p0 hp0 (e1.trans ep0'.symm)]; exact g3) (mem_dropL M6 hgI) fun p hp hn => mem_dropL (K6 _ (.tail _ hp) hn) (hoff p hp)
    · have hv1 : PySem.valueAt (kvsOf2 adr (chn rt i)) (rt i) = none := by rw [kvs_find, if_neg hrm]
      have hv2 : (PySem.valueAt (kvsOf2 adr (chn rt i)) (rt i)).isSome = false := by rw [hv1]; rfl
      k_steps
      rename_i lN hxN F6 N6 lI
      have hlI : ∀ p ∈ nw, p.1 < lN := tb_ltOf lI.2
      obtain ⟨⟨oD2, hd1, hd2⟩⟩ := hG.dic
      have hdl : dH < lN := hlI _ hd1
      obtain ⟨⟨oc', hc1, hc2⟩⟩ := hC
      refine dict_set F6 N6 hD4.cons hsz ?_
      intro h7 n7 F7 N7 D7 K7
      have hC7 : CellIn (L0 + 1) (some (.ref dH)) n7 := ⟨oc', K7 _ (.tail _ (.tail _ hc1)) (Nat.ne_of_lt hLD), hc2⟩
      have hv7 := valueAt_put (v := .ref lN) hv1
      have g7 : (lN, PySem.W.listOf ([] : List Value).toArray 0) ∈ n7 := K7 _ (.head _) (Nat.ne_of_gt hdl)
      have hvl : ([] : List Value).length ≤ 1000 := by decide
      clear N6 hD4 hC4
      k_steps
      rename_i n8 F8 N8 M8 K8
      obtain ⟨⟨oD3, hd3, hd4⟩⟩ := D7
      have hl8 : ∀ p ∈ nw, p.1 ≠ lN := fun p hp => Nat.ne_of_lt (hlI p hp)
      have hIl : lN ≠ I := Nat.ne_of_gt lI.1
      have hdI : dH ≠ I := hoff _ hd1
      have hk8 : ∀ p ∈ nw, p.1 ≠ dH → p ∈ dropL I n8 := fun p hp hn => mem_dropL (K8 _ (K7 _ (.tail _ (.tail _ hp)) hn) (hl8 p hp)) (hoff p hp)
      refine ⟨_, _, _, n8, dropL I n8, rfl, F8, N8, K8 _ (K7 _ (.tail _ (.head _)) (Ne.symm hdI)) (Ne.symm hIl), fun p hp => of_dropL hp, rfl, fun p hp => hk8 p (hnw p hp) (Nat.ne_of_lt (hlD p hp)), ⟨⟨oc', hk8 _ hc1 (Nat.ne_of_lt hLD), hc2⟩⟩, (fun x => if x = rt i then lN else adr x), ?_⟩
      exact ChIn.new hG hrm ⟨oD3, mem_dropL (K8 _ hd3 (Nat.ne_of_lt hdl)) hdI, hd4⟩ hdl hl8 (mem_dropL M8 hIl) hk8
  · rintro m1 nw h1 tk1 ⟨hr, hnw, hC, adr, hG⟩ F4 N4
    obtain ⟨u1, F5⟩ := fr_norm [(Str.ofString "row", .ref r)] F4 (by simp (decide := true) [hr])
    clear F4 F3 N3 hC1 R1 C2 hsub
    simp only [kstB] at F5
    replace F5 : Fr g0 L0 h1 _ := F5
    replace N4 : News g0 L0 h1 _ := N4
    k_sweep
    have hC4 := hC
    tb_start
    refine ListComp_D F5 (by with_unfolding_all rfl) (by decide) (by rfl) (by decide) (by rfl) ?_
    tb_start
    obtain ⟨⟨oD2, hd1, hd2⟩⟩ := hG.dic
    have hn7 : cs.length ≤ 7 := by have := R.len; have := R.small; omega
    refine ⟨⟨dH, oD2, kvsOf2 adr (chn rt cs.length), nw, rfl, by exact rfl, F5, N4, hd1, hd2, lo, by rw [kvs_len]; have := chn_len rt cs.length; omega, fun s2 hs2 => ?_⟩⟩
    obtain ⟨gg, rfl⟩ := hs2
    refine crt_ind (fun i ys => ys = (((chn rt cs.length).take i).filter fun p => decide (1 < p.2.length)).map fun p => Value.ref (adr p.1)) (kvsOf2 adr (chn rt cs.length)).length ?_ ?_ _ 0 [] (Nat.zero_add _) rfl
    · rintro k i ys hi rfl rest
      refine LCt.CompRestT.succ ?_
      rintro v I oI C oC D m2 h6 tk6 E6 ⟨kk, y, t, e1, rfl⟩ hNs hx F6 N6 off ne
      rw [kvs_len] at hi
      obtain ⟨p, hp⟩ : ∃ p, (chn rt cs.length)[i]? = some p := ⟨_, List.getElem?_eq_getElem hi⟩
      unfold kvsOf2 at e1
      rw [List.getElem?_map, hp] at e1
      cases e1
      have hpm : p ∈ chn rt cs.length := List.mem_of_getElem? hp
      obtain ⟨g1, vs, e, g2, g3⟩ := hG.mem p hpm
      have hvl : vs.length = p.2.length := by have := g3.length; rwa [List.length_map] at this
      have hvB : vs.length ≤ 1000 := by have := chn_mem_len hpm; omega
      have g4 : (adr p.1, PySem.W.listOf vs.toArray e) ∈ (I, oI) :: (C, oC) :: (D, LCg.lst ((((chn rt cs.length).take i).filter fun p => decide (1 < p.2.length)).map fun p => Value.ref (adr p.1))) :: nw := .tail _ (.tail _ (.tail _ g2))
      have hC6 : CellIn (L0 + 1) (some (.ref dH)) ((I, oI) :: (C, oC) :: (D, LCg.lst ((((chn rt cs.length).take i).filter fun p => decide (1 < p.2.length)).map fun p => Value.ref (adr p.1))) :: nw) := hC4.cons.cons.cons
      have hD6 := hG.dic.cons (p := (D, LCg.lst ((((chn rt cs.length).take i).filter fun p => decide (1 < p.2.length)).map fun p => Value.ref (adr p.1))))
      have hD6 := hD6.cons (p := (C, oC))
      have hD6 := hD6.cons (p := (I, oI))
      have hv6 : PySem.valueAt (kvsOf2 adr (chn rt cs.length)) (p.1 : Int) = some (.ref (adr p.1)) := by rw [kvs_find, if_pos (List.mem_map.mpr ⟨p, hpm, rfl⟩)]
      have htk : (chn rt cs.length).take (i + 1) = (chn rt cs.length).take i ++ [p] := by rw [List.take_succ, hp]; rfl
      k_steps
      · refine LCg.CompEnd.intro ‹Fr g0 L0 _ _› ‹News g0 L0 _ _› nw (fun p hp => hp) off hd1 (rest _ ?_)
        rw [htk, List.filter_append, List.map_append, List.filter_cons_of_pos (by simp only [decide_eq_true_eq]; omega), List.filter_nil]
        rfl
      · refine LCg.CompEnd.intro ‹Fr g0 L0 _ _› ‹News g0 L0 _ _› nw (fun p hp => hp) off hd1 (rest _ ?_)
        rw [htk, List.filter_append, List.filter_cons_of_neg (by simp only [decide_eq_true_eq]; omega), List.filter_nil, List.append_nil]
    · rintro ys rfl
      intro D h8 tk8 F8 N8 off
      rw [show ((chn rt cs.length).take (kvsOf2 adr (chn rt cs.length)).length) = chn rt cs.length from by rw [kvs_len, List.take_length]] at N8
      tb_start
      have hlen : (((chn rt cs.length).filter fun p => decide (1 < p.2.length)).map fun p => Value.ref (adr p.1)).length = (chL rt cs.length).length := by unfold chL; rw [List.length_map, List.length_map]
      have hget : ∀ (k : Nat) (v : Value), (((chn rt cs.length).filter fun p => decide (1 < p.2.length)).map fun p => Value.ref (adr p.1))[k]? = some v → ∃ p, p ∈ chn rt cs.length ∧ v = Value.ref (adr p.1) ∧ (chL rt cs.length)[k]? = some p.2 := by
        intro k v hv
        rw [List.getElem?_map] at hv
        obtain ⟨p, hp, rfl⟩ := Option.map_eq_some_iff.mp hv
        exact ⟨p, (List.mem_filter.mp (List.mem_of_getElem? hp)).1, rfl, by unfold chL; rw [List.getElem?_map, hp]; rfl⟩
      have hpw := chL_pw rt cs.length
      have hl7 := chL_len rt cs.length
      refine sorted_lists F8 N8 (n := _) (.head _) (by rw [hlen]; omega) (by ktr_units) (fun k => (((((chL rt cs.length)[k]?).getD []).headD 0 : Nat) : Int)) (fun k v hv => ?_) (fun k h1 hk => ?_) ?_
      · obtain ⟨p, hp, rfl, hck⟩ := hget k v hv
        obtain ⟨g1, vs, e, g2, g3⟩ := hG.mem p hp
        have hgt : ∃ x t, p.2 = x :: t := by
          have hm : p.2 ∈ chL rt cs.length := List.mem_of_getElem? hck
          unfold chL at hm
          obtain ⟨q, hq, eq⟩ := List.mem_map.mp hm
          have h2 := (List.mem_filter.mp hq).2
          simp only [decide_eq_true_eq] at h2
          rw [eq] at h2
          cases e3 : p.2 with
          | nil => rw [e3] at h2; simp at h2
          | cons x t => exact ⟨x, t, rfl⟩
        obtain ⟨x, t, ext⟩ := hgt
        obtain ⟨tk, xs, rfl⟩ := heads_of g3 ext
        refine ⟨adr p.1, tk, xs, e, rfl, ?_⟩
        rw [hck, ext]
        exact .tail _ g2
      · rw [hlen] at hk
        obtain ⟨x, s1, y, t1, q1, q2, q3⟩ := (List.pairwise_iff_getElem.mp hpw) (k - 1) k (by omega) hk (by omega)
        rw [List.getElem?_eq_getElem hk, List.getElem?_eq_getElem (show k - 1 < _ by omega), q1, q2]
        simp only [Option.getD_some, List.headD_cons]
        omega
      intro D2 e2 h9 F9 N9 l9
      k_steps
      refine h _ _ _ D2 e2 _ ‹Fr h₀ L _ _› ‹News h₀ L _ _› (.head _) ?_ fun p hp => .tail _ (.tail _ (hnw p hp))
      unfold chL
      rw [List.map_map]
      refine datAll_of _ fun p hp => ?_
      obtain ⟨g1, vs, e, g2, g3⟩ := hG.mem p (List.mem_filter.mp hp).1
      exact .list (.tail _ (.tail _ g2)) ((ints_dat g3).mono fun _ h => absurd h List.not_mem_nil)

end
end Mine

namespace Mine
theorem mem_lnk {cs : List Cel} {e : Edge} : ∀ k, e ∈ lnk cs k ↔ ∃ i, i < k ∧ EdAt cs i e
  | 0 => by
    constructor
    · intro h; cases h
    · rintro ⟨i, hi, _⟩; omega
  | k + 1 => by
    have ih := mem_lnk (cs := cs) (e := e) k
    cases hc : cs[k]? with
    | none =>
      have h1 : lnk cs (k + 1) = lnk cs k := by show lnk cs k ++ _ = _; rw [hc]; simp
      rw [h1, ih]
      constructor
      · rintro ⟨i, hi, h⟩; exact ⟨i, by omega, h⟩
      · rintro ⟨i, hi, h⟩
        refine ⟨i, ?_, h⟩
        obtain ⟨c, h2, _⟩ := h
        by_cases q : i = k
        · rw [q, hc] at h2; cases h2
        · omega
    | some c =>
      by_cases hp : c.par = 0
      · rw [lnk_eq hc hp, ih]
        constructor
        · rintro ⟨i, hi, h⟩; exact ⟨i, by omega, h⟩
        · rintro ⟨i, hi, h⟩
          refine ⟨i, ?_, h⟩
          obtain ⟨c', h2, h3, _⟩ := h
          by_cases q : i = k
          · rw [q, hc] at h2; cases h2; exact absurd hp h3
          · omega
      · rw [lnk_ne hc hp, List.mem_append, ih, List.mem_singleton]
        constructor
        · rintro (⟨i, hi, h⟩ | rfl)
          · exact ⟨i, by omega, h⟩
          · exact ⟨k, by omega, c, hc, hp, rfl⟩
        · rintro ⟨i, hi, h⟩
          by_cases q : i = k
          · obtain ⟨c', h2, _, h4⟩ := h
            rw [q] at h2 h4
            rw [hc] at h2; cases h2
            exact .inr h4
          · exact .inl ⟨i, by omega, h⟩
theorem lnk_ed {cs : List Cel} {e : Edge} : e ∈ lnk cs cs.length ↔ Ed cs e := by
  rw [mem_lnk]
  constructor
  · rintro ⟨i, _, h⟩; exact ⟨i, h⟩
  · rintro ⟨i, h⟩
    refine ⟨i, ?_, h⟩
    obtain ⟨c, h2, _⟩ := h
    exact (List.getElem?_eq_some_iff.mp h2).1
theorem lnk_cnt (cs : List Cel) : ∀ k, k ≤ cs.length → (lnk cs k).length = (cs.take k).countP fun c => decide (c.par ≠ 0)
  | 0, _ => by simp [lnk]
  | k + 1, hk => by
    have ih := lnk_cnt cs k (by omega)
    have hc : cs[k]? = some cs[k] := List.getElem?_eq_getElem (by omega)
    rw [List.take_add_one, hc, Option.toList_some, List.countP_append, ← ih]
    by_cases hp : cs[k].par = 0
    · rw [lnk_eq hc hp, List.countP_singleton]
      simp [hp]
    · rw [lnk_ne hc hp, List.countP_singleton]
      simp [hp]
theorem lnk_nb (cs : List Cel) : (lnk cs cs.length).length = nb cs := by
  rw [lnk_cnt cs _ (Nat.le_refl _), List.take_length]
  rfl
theorem Ed.bound {cs : List Cel} (W : Wf cs) {e : Edge} (h : Ed cs e) : e.1 < cs.length ∧ e.2.1 < cs.length := by
  obtain ⟨i, c, hc, hp, rfl⟩ := h
  have hi := (List.getElem?_eq_some_iff.mp hc).1
  have hb := W.inb i c hc hp
  rcases normE_ends (i := i) (k := ((i : Int) + c.par).toNat) (c := c) (by omega) with ⟨h1, h2⟩ | ⟨h1, h2⟩ <;> rw [h1, h2] <;> omega
theorem Up.root_ex {cs : List Cel} (W : Wf cs) : ∀ i, ∃ r, Up cs i r ∧ Root cs r := by
  obtain ⟨rk, hrk⟩ := W.rank
  have gen : ∀ n i, rk i ≤ n → ∃ r, Up cs i r ∧ Root cs r := by
    intro n
    induction n with
    | zero =>
      intro i hi
      refine ⟨i, .refl, fun c hc => ?_⟩
      apply Classical.byContradiction
      intro hp
      have := hrk i c hc hp
      omega
    | succ n ih =>
      intro i hi
      by_cases h : Root cs i
      · exact ⟨i, .refl, h⟩
      · obtain ⟨c, hc, hp⟩ : ∃ c, cs[i]? = some c ∧ c.par ≠ 0 := by
          apply Classical.byContradiction
          intro q
          exact h fun c hc => Classical.byContradiction fun hp => q ⟨c, hc, hp⟩
        have h1 := hrk i c hc hp
        have h2 := W.inb i c hc hp
        obtain ⟨r, hu, hr⟩ := ih ((i : Int) + c.par).toNat (by omega)
        exact ⟨r, (Up.one hc hp (by omega)).trans hu, hr⟩
  exact fun i => gen _ i (Nat.le_refl _)
theorem conn_rt {cs : List Cel} (W : Wf cs) {rt : Nat → Nat} (hrt : ∀ i rr, Up cs i rr → Root cs rr → rt i = rr) {a x : Nat} : Conn (Ed cs) a x ↔ rt x = rt a := by
  obtain ⟨r, hu, hr⟩ := Up.root_ex W a
  obtain ⟨r', hu', hr'⟩ := Up.root_ex W x
  rw [hrt _ _ hu hr, hrt _ _ hu' hr']
  constructor
  · intro h
    have := (h.root W r hr).mp hu
    exact Root.uniq hu' this hr' hr
  · intro e
    subst e
    exact hu.conn.trans hu'.conn.symm
theorem Conn.lt {cs : List Cel} (W : Wf cs) {a x : Nat} (ha : a < cs.length) (h : Conn (Ed cs) a x) : x < cs.length := by
  cases h with
  | refl => exact ha
  | fwd _ he _ => exact (Ed.bound W he).2
  | bwd _ he _ => exact (Ed.bound W he).1
theorem sorted_eq : ∀ {a b : List Nat}, a.Pairwise (· < ·) → b.Pairwise (· < ·) → (∀ x, x ∈ a ↔ x ∈ b) → a = b
  | [], [], _, _, _ => rfl
  | [], y :: b, _, _, h => absurd ((h y).mpr (.head _)) List.not_mem_nil
  | x :: a, [], _, _, h => absurd ((h x).mp (.head _)) List.not_mem_nil
  | x :: a, y :: b, ha, hb, h => by
    rw [List.pairwise_cons] at ha hb
    have e : x = y := by
      have h1 := (h x).mp (.head _)
      have h2 := (h y).mpr (.head _)
      rcases List.mem_cons.mp h1 with q | q
      · exact q
      · rcases List.mem_cons.mp h2 with p | p
        · exact p.symm
        · have := ha.1 y p
          have := hb.1 x q
          omega
    subst e
    congr 1
    refine sorted_eq ha.2 hb.2 fun z => ?_
    have := h z
    constructor
    · intro hz
      have hlt := ha.1 z hz
      rcases List.mem_cons.mp (this.mp (.tail _ hz)) with q | q
      · omega
      · exact q
    · intro hz
      have hlt := hb.1 z hz
      rcases List.mem_cons.mp (this.mpr (.tail _ hz)) with q | q
      · omega
      · exact q
/-- what a sorted list of links says -/
structure LinksOf (cs : List Cel) (es : List Edge) : Prop where
  ed : ∀ e, e ∈ es ↔ Ed cs e
  len : es.length = nb cs
theorem LinksOf.of {cs : List Cel} {es : List Edge} (h : es.Perm (lnk cs cs.length)) : LinksOf cs es := ⟨fun e => by rw [h.mem_iff, lnk_ed], by rw [h.length_eq, lnk_nb]⟩
theorem LinksOf.conn {cs : List Cel} {es : List Edge} (h : LinksOf cs es) {a x : Nat} : Conn (fun e => e ∈ es) a x ↔ Conn (Ed cs) a x :=
  ⟨fun c => c.mono fun e he => (h.ed e).mp he, fun c => c.mono fun e he => (h.ed e).mpr he⟩
theorem LinksOf.small {cs : List Cel} {es : List Edge} (h : LinksOf cs es) : es.length ≤ cs.length := by
  rw [h.len]
  exact List.countP_le_length
/-- the group of a, by roots -/
theorem group_grp {cs : List Cel} (W : Wf cs) {es : List Edge} (h : LinksOf cs es) {rt : Nat → Nat} (hrt : ∀ i rr, Up cs i rr → Root cs rr → rt i = rr) {a : Nat} (ha : a < cs.length) {g : List Nat}
    (hg : ∀ x, x ∈ g ↔ Conn (fun e => e ∈ es) a x) (hp : g.Pairwise (· < ·)) : g = grp rt cs.length (rt a) := by
  refine sorted_eq hp (List.Pairwise.filter _ List.pairwise_lt_range) fun x => ?_
  rw [hg, h.conn, mem_grp]
  constructor
  · intro c; exact ⟨c.lt W ha, (conn_rt W hrt).mp c⟩
  · rintro ⟨_, e⟩; exact (conn_rt W hrt).mpr e
end Mine

namespace Mine
theorem listCls {its : Array Value} {n : Nat} : (PySem.W.listOf its n).cls = .type "list" := rfl
/-- the source of draws: its two lists -/
structure SrcIn (src cl : Addr) (vs : List Value) (nw : Led) : Prop where
  s : ∃ (k : Int) (t : Tok) (e : Nat), (src, PySem.W.listOf [.ref cl, .int k t].toArray e) ∈ nw
  c : ∃ e : Nat, (cl, PySem.W.listOf vs.toArray e) ∈ nw
theorem SrcIn.sub {src cl : Addr} {vs : List Value} {l l' : Led} (S : SrcIn src cl vs l) (h : ∀ p ∈ l, p ∈ l') : SrcIn src cl vs l' := by
  obtain ⟨⟨k, t, e, a⟩, ⟨e2, b⟩⟩ := S
  exact ⟨⟨k, t, e, h _ a⟩, ⟨e2, h _ b⟩⟩
theorem SrcIn.nd {src cl : Addr} {vs : List Value} {l l' : Led} (S : SrcIn src cl vs l) (h : KeepND l l') : SrcIn src cl vs l' := by
  obtain ⟨⟨k, t, e, a⟩, ⟨e2, b⟩⟩ := S
  exact ⟨⟨k, t, e, h _ a (.inl (by rw [listCls]; decide))⟩, ⟨e2, h _ b (.inl (by rw [listCls]; decide))⟩⟩
theorem SrcIn.away {src cl d : Addr} {vs : List Value} {l l' : Led} (S : SrcIn src cl vs l) (h1 : src ≠ d) (h2 : cl ≠ d) (h : ∀ p ∈ l, p.1 ≠ d → p ∈ l') : SrcIn src cl vs l' := by
  obtain ⟨⟨k, t, e, a⟩, ⟨e2, b⟩⟩ := S
  exact ⟨⟨k, t, e, h _ a h1⟩, ⟨e2, h _ b h2⟩⟩
theorem CellIn.nd {c : Addr} {v : Option Value} {l l' : Led} (C : CellIn c v l) (h : KeepND l l') : CellIn c v l' := let ⟨⟨o, a, b⟩⟩ := C; ⟨o, h _ a (.inr ⟨_, b⟩), b⟩
/-- another kind of thing at c may change -/
theorem RowIn.butC {r c : Addr} {ax : List (Addr × Addr)} {cs : List Cel} {h₀ h : Heap} {L : Addr} {v : Option Value} {l l' : Led} (R : RowIn r ax cs l) (N : News h₀ L h l) (C : CellIn c v l) (k : ∀ p ∈ l, p.1 ≠ c → p ∈ l') : RowIn r ax cs l' := by
  obtain ⟨⟨o, ho, hd⟩⟩ := C
  have ne : ∀ (p : Addr × Obj), p ∈ l → (∀ x, p.2.data ≠ .cell x) → p.1 ≠ c := fun p hp hx e => by
    have hp' : (c, p.2) ∈ l := e ▸ hp
    have := news_uniq N hp' ho
    exact hx v (by rw [this]; exact hd)
  obtain ⟨⟨e, he⟩, h2, h3, h4, h5, h6⟩ := R
  refine ⟨⟨e, k _ he (ne _ he fun x q => by cases q)⟩, h2, h3, h4, fun i p hp => k _ (h5 i p hp) (ne _ (h5 i p hp) fun x q => by cases q), fun i p c' hp hc => ?_⟩
  obtain ⟨es, n, a, b⟩ := h6 i p c' hp hc
  exact ⟨es, n, k _ a (ne _ a fun x q => by cases q), b⟩
theorem CellIn.ne_list {c d : Addr} {h₀ h : Heap} {L : Addr} {v : Option Value} {l : Led} {its : Array Value} {n : Nat} (C : CellIn c v l) (N : News h₀ L h l) (hd : (d, PySem.W.listOf its n) ∈ l) : d ≠ c := fun e => by
  obtain ⟨⟨o, ho, hdd⟩⟩ := C
  have := news_uniq N (e ▸ hd) ho
  rw [← this] at hdd
  cases hdd
/-- what the law holds between its steps -/
structure St (r : Addr) (ax : List (Addr × Addr)) (cs : List Cel) (src cl : Addr) (vs : List Value) (c1 c2 : Addr) (nw : Led) : Prop where
  row : RowIn r ax cs nw
  src : SrcIn src cl vs nw
  c1 : ∃ v, CellIn c1 v nw
  c2 : ∃ v, CellIn c2 v nw
section
variable {r src cl c1 c2 : Addr} {ax : List (Addr × Addr)} {cs : List Cel} {vs : List Value} {nw nw' : Led}
theorem St.sub (S : St r ax cs src cl vs c1 c2 nw) (h : ∀ p ∈ nw, p ∈ nw') : St r ax cs src cl vs c1 c2 nw' :=
  ⟨S.row.sub h, S.src.sub h, let ⟨v, x⟩ := S.c1; ⟨v, x.sub h⟩, let ⟨v, x⟩ := S.c2; ⟨v, x.sub h⟩⟩
theorem St.draw {h₀ h : Heap} {L : Addr} (S : St r ax cs src cl vs c1 c2 nw) (N : News h₀ L h nw) (hr : r ≠ src) (k : ∀ p ∈ nw, p.1 ≠ src → p ∈ nw') (S' : SrcIn src cl vs nw') : St r ax cs src cl vs c1 c2 nw' := by
  obtain ⟨⟨k0, t0, e0, a⟩, _⟩ := id S.src
  obtain ⟨v1, x1⟩ := S.c1
  obtain ⟨v2, x2⟩ := S.c2
  exact ⟨S.row.but N a (by rw [listCls]; decide) (by rw [listCls]; decide) hr k, S', ⟨v1, x1.away k (Ne.symm (x1.ne_list N a))⟩, ⟨v2, x2.away k (Ne.symm (x2.ne_list N a))⟩⟩
theorem St.nd {cs' : List Cel} (S : St r ax cs src cl vs c1 c2 nw) (R : RowIn r ax cs' nw') (h : KeepND nw nw') : St r ax cs' src cl vs c1 c2 nw' :=
  ⟨R, S.src.nd h, let ⟨v, x⟩ := S.c1; ⟨v, x.nd h⟩, let ⟨v, x⟩ := S.c2; ⟨v, x.nd h⟩⟩
theorem SrcIn.ne_cell {h₀ h : Heap} {L : Addr} {c : Addr} {v : Option Value} (S : SrcIn src cl vs nw) (N : News h₀ L h nw) (C : CellIn c v nw) : src ≠ c ∧ cl ≠ c := by
  obtain ⟨⟨k0, t0, e0, a⟩, ⟨e1, b⟩⟩ := S
  exact ⟨C.ne_list N a, C.ne_list N b⟩
theorem St.cell1 {h₀ h : Heap} {L : Addr} {v : Option Value} (S : St r ax cs src cl vs c1 c2 nw) (N : News h₀ L h nw) (hc : c1 ≠ c2) (k : ∀ p ∈ nw, p.1 ≠ c1 → p ∈ nw') (C : CellIn c1 v nw') : St r ax cs src cl vs c1 c2 nw' := by
  obtain ⟨v1, x1⟩ := S.c1
  obtain ⟨v2, x2⟩ := S.c2
  obtain ⟨n1, n2⟩ := S.src.ne_cell N x1
  exact ⟨S.row.butC N x1 k, S.src.away n1 n2 k, ⟨v, C⟩, ⟨v2, x2.away k (Ne.symm hc)⟩⟩
theorem St.cell2 {h₀ h : Heap} {L : Addr} {v : Option Value} (S : St r ax cs src cl vs c1 c2 nw) (N : News h₀ L h nw) (hc : c1 ≠ c2) (k : ∀ p ∈ nw, p.1 ≠ c2 → p ∈ nw') (C : CellIn c2 v nw') : St r ax cs src cl vs c1 c2 nw' := by
  obtain ⟨v1, x1⟩ := S.c1
  obtain ⟨v2, x2⟩ := S.c2
  obtain ⟨n1, n2⟩ := S.src.ne_cell N x2
  exact ⟨S.row.butC N x2 k, S.src.away n1 n2 k, ⟨v1, x1.away k hc⟩, ⟨v, C⟩⟩
end
/-- the Infos made so far -/
structure RowPre (ax : List (Addr × Addr)) (nw : Led) : Prop where
  nodup : (ax.map (·.2)).Nodup
  obj : ∀ (i : Nat) (p : Addr × Addr), ax[i]? = some p → (p.1, instObj 92 p.2) ∈ nw
  dic : ∀ (i : Nat) (p : Addr × Addr), ax[i]? = some p → ∃ es n, (p.2, dictOf es n) ∈ nw ∧ EsIs es ⟨0, Str.ofString "", 0⟩
theorem RowPre.snoc {ax : List (Addr × Addr)} {nw nw' : Led} {x d : Addr} {es : List DictEntry} {n : Nat} (R : RowPre ax nw) (hs : ∀ p ∈ nw, p ∈ nw') (h1 : (x, instObj 92 d) ∈ nw') (h2 : (d, dictOf es n) ∈ nw') (h3 : EsIs es ⟨0, Str.ofString "", 0⟩)
    (hd : ∀ p ∈ nw, p.1 ≠ d) : RowPre (ax ++ [(x, d)]) nw' := by
  have cases' : ∀ (i : Nat) (p : Addr × Addr), (ax ++ [(x, d)])[i]? = some p → ax[i]? = some p ∨ p = (x, d) := by
    intro i p hp
    by_cases q : i < ax.length
    · rw [List.getElem?_append_left q] at hp; exact .inl hp
    · rw [List.getElem?_append_right (by omega)] at hp
      cases e : i - ax.length with
      | zero => rw [e] at hp; exact .inr (Option.some.inj hp).symm
      | succ k => rw [e] at hp; simp at hp
  refine ⟨?_, fun i p hp => ?_, fun i p hp => ?_⟩
  · rw [List.map_append]
    refine List.nodup_append.mpr ⟨R.nodup, by simp, ?_⟩
    intro a ha b hb
    rw [List.map_cons, List.map_nil, List.mem_singleton] at hb
    obtain ⟨p, hp, rfl⟩ := List.mem_map.mp ha
    obtain ⟨i, hi⟩ := List.getElem?_of_mem hp
    obtain ⟨es', n', m', _⟩ := R.dic i p hi
    rw [hb]
    exact hd _ m'
  · rcases cases' i p hp with q | rfl
    · exact hs _ (R.obj i p q)
    · exact h1
  · rcases cases' i p hp with q | rfl
    · obtain ⟨es', n', m', e'⟩ := R.dic i p q
      exact ⟨es', n', hs _ m', e'⟩
    · exact ⟨es, n, h2, h3⟩
theorem RowPre.sub {ax : List (Addr × Addr)} {nw nw' : Led} (R : RowPre ax nw) (hs : ∀ p ∈ nw, p ∈ nw') : RowPre ax nw' :=
  ⟨R.nodup, fun i p hp => hs _ (R.obj i p hp), fun i p hp => let ⟨es, n, a, b⟩ := R.dic i p hp; ⟨es, n, hs _ a, b⟩⟩
theorem RowPre.row {ax : List (Addr × Addr)} {nw : Led} {r : Addr} {e : Nat} (R : RowPre ax nw) (hr : (r, PySem.W.listOf (ax.map fun p => Value.ref p.1).toArray e) ∈ nw) (h7 : ax.length ≤ 7) : RowIn r ax (List.replicate ax.length ⟨0, Str.ofString "", 0⟩) nw :=
  ⟨⟨e, hr⟩, by simp, h7, R.nodup, R.obj, fun i p c hp hc => by
    obtain ⟨es, n, a, b⟩ := R.dic i p hp
    rw [List.eq_of_mem_replicate (List.mem_of_getElem? hc)]
    exact ⟨es, n, a, b⟩⟩
theorem rowEnd {h₀ h' : Heap} {L I C D x d : Addr} {m : Str → Option Value} {s₁ : Shared} {oI oC oD : Obj} {S : Led → Prop} {rest : Value → Led → Prop} {tk : Nat} {es : List DictEntry} {k : Nat} {nwi : Led}
    (F : Fr h₀ L h' m) (N : News h₀ L h' ((x, instObj 92 d) :: (d, dictOf es k) :: (I, oI) :: (C, oC) :: (D, oD) :: nwi)) (l1 : I < d ∧ C < d ∧ D < d ∧ AllLt d nwi) (l2 : d < x) (off : LCg.Off3 I C D nwi) (hS : ∀ l, S l)
    (r : (∀ p ∈ nwi, p.1 ≠ d) → rest (.ref x) ((x, instObj 92 d) :: (d, dictOf es k) :: nwi)) : LCg.CompEnd h₀ L m s₁ I oI C oC D oD S rest (.ref x) { s₁ with heap := h', toks := tk } := by
  have l3 := l1.2.2.2
  refine LCg.CompEnd.intro F N _ (fun p hp => ?_) (LCg.Off3.of fun p hp => ?_) (hS _) (r fun p hp => Nat.ne_of_lt (tb_ltOf l3 p hp))
  · rcases List.mem_cons.mp hp with rfl | hp
    · exact .tail _ (.tail _ (.head _))
    rcases List.mem_cons.mp hp with rfl | hp
    · exact .tail _ (.tail _ (.tail _ (.head _)))
    rcases List.mem_cons.mp hp with rfl | hp
    · exact .tail _ (.tail _ (.tail _ (.tail _ (.head _))))
    rcases List.mem_cons.mp hp with rfl | hp
    · exact .head _
    rcases List.mem_cons.mp hp with rfl | hp
    · exact .tail _ (.head _)
    · exact .tail _ (.tail _ (.tail _ (.tail _ (.tail _ hp))))
  · rcases List.mem_cons.mp hp with rfl | hp
    · exact ⟨Nat.ne_of_gt (Nat.lt_trans l1.1 l2), Nat.ne_of_gt (Nat.lt_trans l1.2.1 l2), Nat.ne_of_gt (Nat.lt_trans l1.2.2.1 l2)⟩
    rcases List.mem_cons.mp hp with rfl | hp
    · exact ⟨Nat.ne_of_gt l1.1, Nat.ne_of_gt l1.2.1, Nat.ne_of_gt l1.2.2.1⟩
    · exact off.mem p hp
theorem wf_fresh (n : Nat) : Wf (List.replicate n ⟨0, Str.ofString "", 0⟩) :=
  have z : ∀ (i : Nat) (c : Cel), (List.replicate n (⟨0, Str.ofString "", 0⟩ : Cel))[i]? = some c → c.par = 0 := fun i c hc => by
    rw [List.eq_of_mem_replicate (List.mem_of_getElem? hc)]
  ⟨fun i c hc hp => absurd (z i c hc) hp, fun i c hc hp => absurd (z i c hc) hp, fun _ => 0, fun i c hc hp => absurd (z i c hc) hp⟩
section
variable {w : World} {mean : ExcName → Option Value} {mg mb : Str → Option Value} {dp un : Nat} {gd : Option (List Code)} {cn : Str} {scp : Scope} {a : Addr} {ccd : Value} {cl : List (Str × Addr)} {outer : List Env} {A₀ : Around} {base h₀ : Heap} {L : Addr} {m : Str → Option Value} {news : Led} {s : Shared} {E : Value → Shared → Prop} {Q : Value → Shared → Prop}
theorem draw_spec2 {src cla : Addr} {lim : Int} {tlim : Tok} {vs : List Value} {ns : List Int} (B : Below A₀ base outer h₀) (F : Fr h₀ L s.heap m) (X : (hd.heap_39 w.params).In h₀) (N : News h₀ L s.heap news)
    (T : Top hd.view_39 (looseW hd.view_39 []) mean mg mb h₀) (hk : scp.kind = .function) (hdp : dp + 1 < recursionLimit)
    (S : SrcIn src cla vs news) (hne : cla ≠ src) (hi : IntsAre vs ns) (h1 : 0 < ns.length) (h2 : ns.length ≤ 60) (h3 : 0 < lim)
    (h : ∀ h' tk news' k t, Fr h₀ L h' m → News h₀ L h' news' → 0 ≤ k → k < lim → SrcIn src cla vs news' → (∀ p ∈ news, p.1 ≠ src → p ∈ news') → Q (.int k t) { s with heap := h', toks := tk }) :
    wpAny (model PySem.Challenge.rw_nu0149_01.row.prog w) (ktrTop dp un gd cn scp L a ccd cl outer) (call (.ref 103) [.ref src, .int lim tlim]) Q E s := by
  obtain ⟨⟨k0, t0, e0, M⟩, ⟨e2, M2⟩⟩ := S
  exact draw_spec B F X N T hk hdp M M2 hne hi h1 h2 h3 fun h' tk news' k t t' F' N' a1 a2 M' K' => h h' tk news' k t F' N' a1 a2 ⟨⟨_, _, _, M'⟩, ⟨e2, K' _ M2 hne⟩⟩ K'
end
section
variable {prog : Program} {w : World} {A : Around} {s : Shared} {h₀ : Heap} {L : Addr} {m : Str → Option Value} {env : Env}
theorem cr_ind {elt : PySem.Expr} {x : Str} {scope : Scope} {cl : List (Str × Addr)} {S : Led → Prop} {P : Nat → Value → Prop} {Fin : List Value → Led → Prop} (J : Nat → List Value → Led → Prop) (n : Nat)
    (step : ∀ k i ys nw, i < n → J i ys nw → (∀ ys' nw', J (i + 1) ys' nw' → LCg.CompRest prog w A h₀ L m env elt x scope cl s S P Fin k (i + 1) ys' nw') → LCg.CompRest prog w A h₀ L m env elt x scope cl s S P Fin (k + 1) i ys nw)
    (fin : ∀ ys nw, J n ys nw → Fin ys nw) : ∀ k i ys nw, i + k = n → J i ys nw → LCg.CompRest prog w A h₀ L m env elt x scope cl s S P Fin k i ys nw
  | 0, i, ys, nw, e, j => LCg.CompRest.zero (fin ys nw (by rw [← e]; exact j))
  | k + 1, i, ys, nw, e, j => step k i ys nw (by omega) j fun ys' nw' j' => cr_ind J n step fin k (i + 1) ys' nw' (by omega) j'
end
end Mine

namespace Mine
theorem getL_cons {name x : Str} {t : Tok} {h : Int} {v : Value} {es : List DictEntry} : getL name (⟨h, .str x t, v⟩ :: es) = if (x == name) = true then some (some v) else getL name es := by
  unfold getL
  rw [List.find?_cons]
  have e : (Value.str x t).isStr name = (x == name) := rfl
  simp only [e]
  cases hq : (x == name) with
  | true => simp
  | false =>
    have hr : (⟨h, Value.str x t, v⟩ : DictEntry).refKey = false := rfl
    simp [hr]
theorem es_fresh {h0 h1 h2 h3 h4 h5 h6 h7 h8 h9 h10 h11 h12 h13 h14 : Int} {t0 t1 t2 t3 t4 t5 t6 t7 t8 t9 t10 t11 t12 t13 t14 ty tp tb : Tok} {v0 v1 v2 v3 v4 v5 v6 v7 v8 v9 v10 v11 : Value} : EsIs [⟨h0, .str (Str.ofString "code") t0, v0⟩, ⟨h1, .str (Str.ofString "glyph") t1, v1⟩, ⟨h2, .str (Str.ofString "cluster") t2, v2⟩, ⟨h3, .str (Str.ofString "mask") t3, v3⟩, ⟨h4, .str (Str.ofString "is_unsafe") t4, v4⟩, ⟨h5, .str (Str.ofString "lig_id") t5, v5⟩, ⟨h6, .str (Str.ofString "lig_part") t6, v6⟩, ⟨h7, .str (Str.ofString "lig_count") t7, v7⟩, ⟨h8, .str (Str.ofString "kind") t8, v8⟩, ⟨h9, .str (Str.ofString "x_advance") t9, v9⟩, ⟨h10, .str (Str.ofString "y_advance") t10, v10⟩, ⟨h11, .str (Str.ofString "x_offset") t11, v11⟩, ⟨h12, .str (Str.ofString "y_offset") t12, .int 0 ty⟩, ⟨h13, .str (Str.ofString "parent") t13, .int 0 tp⟩, ⟨h14, .str (Str.ofString "bond") t14, .str (Str.ofString "") tb⟩] ⟨0, Str.ofString "", 0⟩ := by
  refine ⟨⟨tp, ?_⟩, ⟨tb, ?_⟩, ⟨ty, ?_⟩, by simp⟩
  all_goals simp (decide := true) only [getL_cons, if_true, if_false, Bool.false_eq_true]
end Mine

namespace Mine
theorem mod_ne {n : Nat} {ci : Nat} {k : Int} (h0 : 0 ≤ k) (h1 : k < (n : Int) - 1) (hc : ci < n) : ∃ pi : Nat, ((ci : Int) + 1 + k).fmod (n : Int) = (pi : Nat) ∧ pi < n ∧ pi ≠ ci := by
  have hn : 0 < (n : Int) := by omega
  rw [Int.fmod_eq_emod_of_nonneg _ (by omega)]
  by_cases h : (ci : Int) + 1 + k < n
  · refine ⟨((ci : Int) + 1 + k).toNat, ?_, by omega, by omega⟩
    rw [Int.emod_eq_of_lt (by omega) h]; omega
  · refine ⟨((ci : Int) + 1 + k - n).toNat, ?_, by omega, by omega⟩
    have e : ((ci : Int) + 1 + k) = ((ci : Int) + 1 + k - n) + n := by omega
    rw [e, Int.add_emod_right, Int.emod_eq_of_lt (by omega) (by omega)]; omega
/-- lists and tuples stay -/
def KeepS (l l' : Led) : Prop := ∀ p ∈ l, p.2.cls ≠ .type "dict" → (∃ its n, p.2.data = .seq its n) → p ∈ l'
theorem KeepS.of_sub {l l' : Led} (h : ∀ p ∈ l, p ∈ l') : KeepS l l' := fun p hp _ _ => h p hp
theorem KeepS.of_nd {l l' : Led} (h : KeepND l l') : KeepS l l' := fun p hp hc _ => h p hp (.inl hc)
theorem KeepS.trans {a b c : Led} (h : KeepS a b) (k : KeepS b c) : KeepS a c := fun p hp x y => k p (h p hp x y) x y
theorem KeepS.of_cell {l l' : Led} {c : Addr} {v : Option Value} {h₀ h : Heap} {L : Addr} (N : News h₀ L h l) (C : CellIn c v l) (k : ∀ p ∈ l, p.1 ≠ c → p ∈ l') : KeepS l l' := fun p hp _ ⟨its, n, hd⟩ => k p hp fun e => by
  obtain ⟨⟨o, ho, hdd⟩⟩ := C
  have hp' : (c, p.2) ∈ l := e ▸ hp
  rw [← news_uniq N hp' ho, hd] at hdd
  cases hdd
theorem datE_keep {l l' : Led} (k : KeepS l l') : ∀ {vs : List Value} {es : List Edge}, DatAll l vs (es.map datE) → DatAll l' vs (es.map datE)
  | [], [], .nil => .nil
  | _ :: _, _ :: _, .cons d ds => by
    obtain ⟨a, n, t1, t2, t3, rfl, hm⟩ := datE_inv d
    exact .cons (datE_mk (k _ hm (by simp) ⟨_, _, rfl⟩) rfl rfl rfl) (datE_keep k ds)
/-- a list of links -/
structure LinksIn (D : Addr) (es : List Edge) (nw : Led) : Prop where
  ex : ∃ (vs : List Value) (e : Nat), (D, PySem.W.listOf vs.toArray e) ∈ nw ∧ DatAll nw vs (es.map datE)
theorem LinksIn.keep {D : Addr} {es : List Edge} {l l' : Led} (h : LinksIn D es l) (k : KeepS l l') : LinksIn D es l' := by
  obtain ⟨⟨vs, e, a, b⟩⟩ := h
  exact ⟨vs, e, k _ a (by rw [listCls]; decide) ⟨_, _, rfl⟩, datE_keep k b⟩
theorem LinksIn.mk' {D : Addr} {es : List Edge} {nw tl : Led} {vs : List Value} {e : Nat} (h : (D, PySem.W.listOf vs.toArray e) ∈ nw) (d : DatAll tl vs (es.map datE)) (ht : ∀ p ∈ tl, p ∈ nw ∧ p.2.cls = .type "tuple") : LinksIn D es nw :=
  ⟨vs, e, h, d.mono fun p hp => (ht p hp).1⟩
theorem St.drop {r src cl c1 c2 I : Addr} {ax : List (Addr × Addr)} {cs : List Cel} {vs : List Value} {nw : Led} {h₀ h : Heap} {L : Addr} {o : Obj} (S : St r ax cs src cl vs c1 c2 nw) (N : News h₀ L h nw) (hI : (I, o) ∈ nw) (ho : o.cls = .type "range_iterator") (h1 : c1 ≠ I) (h2 : c2 ≠ I) :
    St r ax cs src cl vs c1 c2 (dropL I nw) := by
  have ne : ∀ {a : Addr} {its : Array Value} {n : Nat}, (a, PySem.W.listOf its n) ∈ nw → a ≠ I := fun {a its n} ha e => by
    have := news_uniq N (e ▸ ha) hI
    have := congrArg Obj.cls this
    rw [ho, listCls] at this
    revert this; decide
  obtain ⟨e, he⟩ := S.row.lst
  obtain ⟨⟨k0, t0, e0, a⟩, ⟨e1, b⟩⟩ := id S.src
  obtain ⟨v1, x1⟩ := S.c1
  obtain ⟨v2, x2⟩ := S.c2
  have k : ∀ p ∈ nw, p.1 ≠ I → p ∈ dropL I nw := fun p hp hn => mem_dropL hp hn
  exact ⟨S.row.but N hI (by rw [ho]; decide) (by rw [ho]; decide) (ne he) k, S.src.away (ne a) (ne b) k, ⟨v1, x1.away k h1⟩, ⟨v2, x2.away k h2⟩⟩
end Mine

namespace Mine
section
variable {prog : Program} {w : World} {A : Around} {E : Value → Shared → Prop} {s : Shared} {h₀ : Heap} {L : Addr} {news : Led} {Q : Value → Shared → Prop}
theorem dat_ne {x y : Value} {da db : Dat} (N : News h₀ L s.heap news) (Da : DatIn news x da) (Db : DatIn news y db) (ha : kqdOk 8 da = true) (hb : kqdOk 8 db = true) (hu : A.units + 64 < cLine) (c : Bool) (hc : c = true ↔ da = db)
    (h : Q (.bool (!c)) s) : wpAny (model prog w) A (compareOp .NotEq x y) Q E s := by
  obtain ⟨as, ra⟩ := kqd_in N 8 Da ha
  obtain ⟨bs, rb⟩ := kqd_in N 8 Db hb
  have la := kqd_lay 8 da ha
  have lb := kqd_lay 8 db hb
  have e : PyData.eqv (kqdP da) (kqdP db) = c := by
    rw [Bool.eq_iff_iff, hc]
    exact kqd_eqv 8 da db 8 ha hb
  refine ne_dataH ra rb ?_ ?_ hu (by rw [e]; exact h)
  · unfold SeqAt.shaped; rw [la.1, Bool.true_and]; exact decide_eq_true (Nat.le_trans la.2 (by decide))
  · unfold SeqAt.shaped; rw [lb.1, Bool.true_and]; exact decide_eq_true (Nat.le_trans lb.2 (by decide))
theorem dat_notin {l : Addr} {vs : List Value} {n : Nat} {ds : List Dat} {x : Value} {d : Dat} (N : News h₀ L s.heap news) (hl : (l, PySem.W.listOf vs.toArray n) ∈ news) (Dl : DatAll news vs ds) (Dx : DatIn news x d) (ha : ∀ d ∈ ds, kqdOk 8 d = true) (hd : kqdOk 8 d = true)
    (hu : A.units + 64 < cLine) (c : Bool) (hc : c = true ↔ d ∈ ds) (h : Q (.bool (!c)) s) : wpAny (model prog w) A (compareOp .NotIn x (.ref l)) Q E s := by
  refine kqd_notIn N hl rfl rfl Dl (fun _ h => h) Dx (fun _ h => h) ha hd hu ?_
  have e2 : ∀ inst : Decidable (d ∈ ds), @decide _ inst = c := by
    intro inst
    rw [Bool.eq_iff_iff, hc]
    exact decide_eq_true_iff
  rw [e2]
  exact h
theorem datE_inj {e f : Edge} (h : datE e = datE f) : e = f := by
  have h' : Dat.tuple [.int e.1, .int e.2.1, .int e.2.2] = Dat.tuple [.int f.1, .int f.2.1, .int f.2.2] := h
  simp only [Dat.tuple.injEq, List.cons.injEq, Dat.int.injEq, and_true] at h'
  obtain ⟨a, b, c⟩ := h'
  obtain ⟨e1, e2, e3⟩ := e
  obtain ⟨f1, f2, f3⟩ := f
  simp only at a b c
  have a' : e1 = f1 := by omega
  have b' : e2 = f2 := by omega
  rw [a', b', c]
theorem datE_ok (e : Edge) : kqdOk 8 (datE e) = true := by
  show kqdOk 8 (Dat.tuple [.int e.1, .int e.2.1, .int e.2.2]) = true
  simp [kqdOk]
theorem mem_datE {e : Edge} {es : List Edge} : datE e ∈ es.map datE ↔ e ∈ es := by
  rw [List.mem_map]
  exact ⟨fun ⟨f, hf, q⟩ => datE_inj q ▸ hf, fun h => ⟨e, h, rfl⟩⟩
theorem edge_ne {x y : Value} {e f : Edge} (N : News h₀ L s.heap news) (Dx : DatIn news x (datE e)) (Dy : DatIn news y (datE f)) (hu : A.units + 64 < cLine) (h : Q (.bool (!decide (e = f))) s) : wpAny (model prog w) A (compareOp .NotEq x y) Q E s :=
  dat_ne N Dx Dy (datE_ok e) (datE_ok f) hu _ (by rw [decide_eq_true_iff]; exact ⟨fun q => by rw [q], datE_inj⟩) h
theorem edge_notin {x : Value} {e : Edge} {D : Addr} {es : List Edge} (N : News h₀ L s.heap news) (LI : LinksIn D es news) (Dx : DatIn news x (datE e)) (hu : A.units + 64 < cLine) (h : Q (.bool (!decide (e ∈ es))) s) :
    wpAny (model prog w) A (compareOp .NotIn x (.ref D)) Q E s := by
  obtain ⟨⟨vs, n, a, b⟩⟩ := LI
  refine dat_notin N a b Dx (fun d hd => ?_) (datE_ok e) hu _ (by rw [decide_eq_true_iff]; exact mem_datE.symm) h
  obtain ⟨f, _, rfl⟩ := List.mem_map.mp hd
  exact datE_ok f
theorem links_len {D : Addr} {es : List Edge} (N : News h₀ L s.heap news) (LI : LinksIn D es news) (hB : Bnd es.length) (h : ∀ t tk, Q (.int (es.length : Nat) t) { s with toks := tk }) : wpAny (model prog w) A (call (.builtin "len") [.ref D]) Q E s := by
  obtain ⟨⟨vs, n, a, b⟩⟩ := LI
  have e := b.length
  rw [List.length_map] at e
  unfold Bnd at hB
  refine list_len N a (by omega) fun t tk => ?_
  rw [e]
  exact h t tk
theorem chD_ok (c : List Nat) : kqdOk 7 (chD c) = true := by
  show kqdOk 7 (Dat.list ((c.map natV).map Dat.int)) = true
  simp [kqdOk]
theorem chD_ok8 (c : List Nat) : kqdOk 8 (chD c) = true := by
  show kqdOk 8 (Dat.list ((c.map natV).map Dat.int)) = true
  simp [kqdOk]
theorem chD_inj {c d : List Nat} (h : chD c = chD d) : c = d := by
  have h' : Dat.list ((c.map natV).map Dat.int) = Dat.list ((d.map natV).map Dat.int) := h
  rw [Dat.list.injEq] at h'
  have h2 : c.map natV = d.map natV := List.map_inj_right (fun x y q => Dat.int.inj q) |>.mp h'
  exact List.map_inj_right (fun x y q => by simp only [natV] at q; omega) |>.mp h2
theorem heap_notin {l : Addr} {vs : List Value} {n : Nat} {hs : List (List Nat)} {x : Value} {g : List Nat} (N : News h₀ L s.heap news) (hl : (l, PySem.W.listOf vs.toArray n) ∈ news) (Dl : DatAll news vs (hs.map chD)) (Dx : DatIn news x (chD g)) (hu : A.units + 64 < cLine)
    (h : Q (.bool (!decide (g ∈ hs))) s) : wpAny (model prog w) A (compareOp .NotIn x (.ref l)) Q E s := by
  refine dat_notin N hl Dl Dx (fun d hd => ?_) (chD_ok8 g) hu _ ?_ h
  · obtain ⟨f, _, rfl⟩ := List.mem_map.mp hd
    exact chD_ok8 f
  · rw [decide_eq_true_iff, List.mem_map]
    exact ⟨fun q => ⟨g, q, rfl⟩, fun ⟨f, hf, q⟩ => chD_inj q ▸ hf⟩
theorem heaps_ne {a b : Addr} {vs us : List Value} {n k : Nat} {hs gs : List (List Nat)} (N : News h₀ L s.heap news) (ha : (a, PySem.W.listOf vs.toArray n) ∈ news) (Da : DatAll news vs (hs.map chD)) (hb : (b, PySem.W.listOf us.toArray k) ∈ news) (Db : DatAll news us (gs.map chD))
    (hu : A.units + 64 < cLine) (he : hs = gs) (h : Q (.bool false) s) : wpAny (model prog w) A (compareOp .NotEq (.ref a) (.ref b)) Q E s := by
  have ok : ∀ l : List (List Nat), kqdOk 8 (.list (l.map chD)) = true := fun l => by
    have : kqdOk 8 (.list (l.map chD)) = (l.map chD).all (kqdOk 7) := by rw [kqdOk]
    rw [this, List.all_eq_true]
    intro d hd
    obtain ⟨c, _, rfl⟩ := List.mem_map.mp hd
    exact chD_ok c
  exact dat_ne N (.list ha Da) (.list hb Db) (ok hs) (ok gs) hu true (by simp [he]) h
end
theorem normE_lt {ci pi : Nat} {b : Str} {ht : Int} (h : ci < pi) : normE ci ⟨(pi : Int) - ci, b, ht⟩ = (ci, pi, -ht) := by
  unfold normE
  have e : ((ci : Int) + ((pi : Int) - ci)).toNat = pi := by omega
  simp only [e]
  rw [if_neg (by omega)]
theorem normE_gt {ci pi : Nat} {b : Str} {ht : Int} (h : pi < ci) : normE ci ⟨(pi : Int) - ci, b, ht⟩ = (pi, ci, ht) := by
  unfold normE
  have e : ((ci : Int) + ((pi : Int) - ci)).toNat = pi := by omega
  simp only [e]
  rw [if_pos h]
end Mine

namespace Mine
/-- the law's heaps: the list hL, its groups above it -/
structure HeapsIn (hL : Addr) (hs : List (List Nat)) (nw : Led) : Prop where
  ex : ∃ (vs : List Value) (e : Nat), (hL, PySem.W.listOf vs.toArray e) ∈ nw ∧ ∃ us : List (Addr × List Nat), vs = us.map (fun u => Value.ref u.1) ∧ hs = us.map (·.2) ∧
    ∀ u ∈ us, hL < u.1 ∧ ∃ (ws : List Value) (k : Nat), (u.1, PySem.W.listOf ws.toArray k) ∈ nw ∧ IntsAre ws (u.2.map natV)
theorem HeapsIn.sub {hL : Addr} {hs : List (List Nat)} {nw nw' : Led} (H : HeapsIn hL hs nw) (h : ∀ p ∈ nw, p ∈ nw') : HeapsIn hL hs nw' := by
  obtain ⟨⟨vs, e, a, us, b, c, d⟩⟩ := H
  exact ⟨vs, e, h _ a, us, b, c, fun u hu => let ⟨x, ws, k, y, z⟩ := d u hu; ⟨x, ws, k, h _ y, z⟩⟩
theorem HeapsIn.dat {hL : Addr} {hs : List (List Nat)} {nw : Led} (H : HeapsIn hL hs nw) : ∃ (vs : List Value) (e : Nat), (hL, PySem.W.listOf vs.toArray e) ∈ nw ∧ DatAll nw vs (hs.map chD) := by
  obtain ⟨⟨vs, e, a, us, rfl, rfl, d⟩⟩ := H
  refine ⟨_, e, a, ?_⟩
  rw [List.map_map]
  refine datAll_of us fun u hu => ?_
  obtain ⟨_, ws, k, y, z⟩ := d u hu
  exact .list y ((ints_dat z).mono fun _ h => absurd h List.not_mem_nil)
theorem HeapsIn.snoc {hL a : Addr} {hs : List (List Nat)} {g : List Nat} {nw nw' : Led} {vs ws : List Value} {e k : Nat} (H : HeapsIn hL hs nw) (hv : ∀ vs' e', (hL, PySem.W.listOf vs'.toArray e') ∈ nw → vs' = vs) (hm : (hL, PySem.W.listOf (vs ++ [Value.ref a]).toArray e) ∈ nw')
    (ha : hL < a) (hw : (a, PySem.W.listOf ws.toArray k) ∈ nw) (hi : IntsAre ws (g.map natV)) (h : ∀ p ∈ nw, p.1 ≠ hL → p ∈ nw') : HeapsIn hL (hs ++ [g]) nw' := by
  obtain ⟨⟨vs', e', a', us, b, c, d⟩⟩ := H
  have q := hv vs' e' a'
  refine ⟨_, e, hm, us ++ [(a, g)], by rw [← q, b, List.map_append]; rfl, by rw [c, List.map_append]; rfl, fun u hu => ?_⟩
  rcases List.mem_append.mp hu with hu | hu
  · obtain ⟨x, ws', k', y, z⟩ := d u hu
    exact ⟨x, ws', k', h _ y (Nat.ne_of_gt x), z⟩
  · rw [List.mem_singleton.mp hu]
    exact ⟨ha, ws, k, h _ hw (Nat.ne_of_gt ha), hi⟩
/-- the list at hL changes -/
theorem St.list {r src cl c1 c2 hL : Addr} {ax : List (Addr × Addr)} {cs : List Cel} {vs : List Value} {nw nw' : Led} {h₀ h : Heap} {L : Addr} {its : Array Value} {n : Nat} (S : St r ax cs src cl vs c1 c2 nw) (N : News h₀ L h nw) (hl : (hL, PySem.W.listOf its n) ∈ nw)
    (hr : r ≠ hL) (h1 : src ≠ hL) (h2 : cl ≠ hL) (k : ∀ p ∈ nw, p.1 ≠ hL → p ∈ nw') : St r ax cs src cl vs c1 c2 nw' := by
  obtain ⟨v1, x1⟩ := S.c1
  obtain ⟨v2, x2⟩ := S.c2
  exact ⟨S.row.but N hl (by rw [listCls]; decide) (by rw [listCls]; decide) hr k, S.src.away h1 h2 k, ⟨v1, x1.away k (Ne.symm (x1.ne_list N hl))⟩, ⟨v2, x2.away k (Ne.symm (x2.ne_list N hl))⟩⟩
theorem LinksIn.list {D hL : Addr} {es : List Edge} {nw nw' : Led} {h₀ h : Heap} {L : Addr} {its : Array Value} {n : Nat} (H : LinksIn D es nw) (N : News h₀ L h nw) (hl : (hL, PySem.W.listOf its n) ∈ nw) (hD : D ≠ hL) (k : ∀ p ∈ nw, p.1 ≠ hL → p ∈ nw') : LinksIn D es nw' := by
  obtain ⟨⟨vs, e, a, b⟩⟩ := H
  refine ⟨vs, e, k _ a hD, ?_⟩
  clear a
  generalize hds : es.map datE = ds at b
  have gen : ∀ {vs : List Value} {es : List Edge}, DatAll nw vs (es.map datE) → DatAll nw' vs (es.map datE) := by
    intro vs es
    induction es generalizing vs with
    | nil => intro b; cases b; exact .nil
    | cons f es ih =>
      intro b
      cases b with
      | cons d ds =>
        obtain ⟨a, m, t1, t2, t3, rfl, hm⟩ := datE_inv d
        refine .cons (datE_mk (k _ hm fun q => ?_) rfl rfl rfl) (ih ds)
        have q' : a = hL := q
        have := news_uniq N (q' ▸ hm) hl
        have := congrArg Obj.cls this
        rw [listCls] at this
        simp at this
  rw [← hds] at b ⊢
  exact gen b
end Mine

namespace Mine
theorem start_L9Law : True := by
  w_top off
  trivial
def SrcOut (h₀ : Heap) (L : Addr) (m : Str → Option Value) (news : Led) (s : Shared) (v : Value) (s' : Shared) : Prop :=
  ∃ src cl' e1 e2 vs' ns' t h' tk news', v = .ref src ∧ s' = { s with heap := h', toks := tk } ∧ Fr h₀ L h' m ∧ News h₀ L h' news' ∧ (src, PySem.W.listOf [.ref cl', .int 0 t].toArray e1) ∈ news' ∧ (cl', PySem.W.listOf (vs' : List Value).toArray e2) ∈ news' ∧ cl' ≠ src ∧
    IntsAre vs' ns' ∧ 0 < ns'.length ∧ ns'.length ≤ 60 ∧ (∀ p ∈ news, p ∈ news') ∧ ∀ p ∈ news, p.1 ≠ src ∧ p.1 ≠ cl'
theorem src_join {prog : Program} {w : World} {A : Around} {h₀ : Heap} {L : Addr} {m : Str → Option Value} {news : Led} {s : Shared} {c : Sem Value} {Q E : Value → Shared → Prop} (_F : Fr h₀ L s.heap m) (_N : News h₀ L s.heap news) (h : wpAny (model prog w) A c (SrcOut h₀ L m news s) E s)
    (k : ∀ src cl' e1 e2 (vs' : List Value) (ns' : List Int) t h' tk news', Fr h₀ L h' m → News h₀ L h' news' → (src, PySem.W.listOf [.ref cl', .int 0 t].toArray e1) ∈ news' → (cl', PySem.W.listOf (vs' : List Value).toArray e2) ∈ news' → cl' ≠ src →
      IntsAre vs' ns' → 0 < ns'.length → ns'.length ≤ 60 → (∀ p ∈ news, p ∈ news') → (∀ p ∈ news, p.1 ≠ src ∧ p.1 ≠ cl') → Q (.ref src) { s with heap := h', toks := tk }) : wpAny (model prog w) A c Q E s := by
  refine wpAny_mono h (fun v s' hv => ?_) (fun _ _ e => e)
  obtain ⟨src, cl', e1, e2, vs', ns', t, h', tk, news', rfl, rfl, a1, a2, a3, a4, a5, a6, a7, a8, a9, a10⟩ := hv
  exact k src cl' e1 e2 vs' ns' t h' tk news' a1 a2 a3 a4 a5 a6 a7 a8 a9 a10
theorem off1_mem {D : Addr} : ∀ {l : Led}, LCg.Off1 D l → ∀ p ∈ l, p.1 ≠ D
  | [], _, _, h => nomatch h
  | _ :: _, x, p, h => by
    rcases List.mem_cons.mp h with rfl | h
    · exact x.1
    · exact off1_mem x.2 p h
local macro_rules | `(tactic| walk_at "call ref") => `(tactic| ((with_reducible show wpAny _ _ (call (Value.ref 103) _ _) _ _ _); k_dflt (refine' draw_spec2 ?k1 ?k2 ?k3 ?k4 ?k5 ?k6 ?k7 ?k8 ?k9 ?k10 ?k11 ?k12 ?k13 ?_; (case k1 => k_asm); (case k2 => k_asm); (case k3 => k_asm); (case k4 => k_asm); (case k5 => k_asm); (case k6 => exact rfl); (case k7 => ktr_room); (case k8 => assumption); (case k9 => assumption); (case k10 => assumption); (case k11 => assumption); (case k12 => assumption); (case k13 => first | decide | omega)); intro h' tk' n' k' t' F' N' lo' hi' S' K'; (try k_sweep)))
local macro_rules | `(tactic| walk_at "storeName") => `(tactic| ((with_reducible show wpAny _ _ (storeName _ (Str.ofString "links") _) _ _ _); k_dflt (refine cell_set (by assumption) (by assumption) (by rfl) (by first | assumption | exact CellIn.cons (by assumption)) ?_); intro h' n' F' N' C' K'; (try k_sweep)))
local macro_rules | `(tactic| walk_at "storeName") => `(tactic| ((with_reducible show wpAny _ _ (storeName _ (Str.ofString "fresh") _) _ _ _); k_dflt (refine cell_set (by assumption) (by assumption) (by rfl) (by first | assumption | exact CellIn.cons (by assumption)) ?_); intro h' n' F' N' C' K'; (try k_sweep)))
local macro_rules | `(tactic| walk_at "eval Name") => `(tactic| ((with_reducible show wpAny _ _ (eval (Expr.Name (Str.ofString "links") _) _) _ _ _); k_dflt (refine cell_get (by assumption) (by rfl) (by assumption) ?_)))
local macro_rules | `(tactic| walk_at "eval Name") => `(tactic| ((with_reducible show wpAny _ _ (eval (Expr.Name (Str.ofString "fresh") _) _) _ _ _); k_dflt (refine cell_get (by assumption) (by rfl) (by assumption) ?_)))
local macro_rules | `(tactic| walk_at "compareOp In int ref") => `(tactic| (k_dflt (refine in_nats (by assumption) (by assumption) (by assumption) (by ktr_units) ?_)))
local macro_rules | `(tactic| walk_at "eval Name") => `(tactic| ((with_reducible show wpAny _ _ (eval (Expr.Name (Str.ofString "links") _) (compEnvC _ _ _ _)) _ _ _); k_dflt (refine cell_getC (by assumption) (by rfl) (by assumption) ?_)))
local macro_rules | `(tactic| walk_at "eval Name") => `(tactic| ((with_reducible show wpAny _ _ (eval (Expr.Name (Str.ofString "fresh") _) (compEnvC _ _ _ _)) _ _ _); k_dflt (refine cell_getC (by assumption) (by rfl) (by assumption) ?_)))
local macro_rules | `(tactic| walk_at "call ref") => `(tactic| ((with_reducible show wpAny _ _ (call (Value.ref 56) _ _) _ _ _); k_dflt (refine' root_spec ?k1 ?k2 ?k3 ?k4 ?k5 ?k6 ?k7 ?k8 ?k9 ?k10 ?_; (case k1 => k_asm); (case k2 => k_asm); (case k3 => k_asm); (case k4 => k_asm); (case k5 => k_asm); (case k6 => exact rfl); (case k7 => ktr_room); (case k8 => assumption); (case k9 => assumption); (case k10 => assumption)); intro h' tk' t' rt' F' N' U' RR'; (try k_sweep)))
def Box (P : Prop) : Prop := P
theorem box_of {P : Prop} (h : Box P) : P := h
theorem box_to {P : Prop} (h : P) : Box P := h
local macro_rules | `(tactic| walk_at "KswEnd") => `(tactic| ((with_reducible show KswEnd _ _ _ _ _ _ _ _ _ _ _ _); refine box_of ?_))
def IntOut (h₀ : Heap) (L : Addr) (m : Str → Option Value) (news : Led) (s : Shared) (z : Int) (v : Value) (s' : Shared) : Prop :=
  ∃ t h' tk, v = .int z t ∧ s' = { s with heap := h', toks := tk } ∧ Fr h₀ L h' m ∧ News h₀ L h' news
theorem int_join {prog : Program} {w : World} {A : Around} {h₀ : Heap} {L : Addr} {m : Str → Option Value} {news : Led} {s : Shared} {c : Sem Value} {Q E : Value → Shared → Prop} (z : Int) (_F : Fr h₀ L s.heap m) (_N : News h₀ L s.heap news)
    (h : wpAny (model prog w) A c (IntOut h₀ L m news s z) E s)
    (k : ∀ t h' tk, Fr h₀ L h' m → News h₀ L h' news → Q (.int z t) { s with heap := h', toks := tk }) : wpAny (model prog w) A c Q E s := by
  refine wpAny_mono h (fun v s' hv => ?_) (fun _ _ e => e)
  obtain ⟨t, h', tk, rfl, rfl, a1, a2⟩ := hv
  exact k t h' tk a1 a2
def FrOut (h₀ : Heap) (L : Addr) (m : Str → Option Value) (news : Led) (s : Shared) (e : Edge) (v : Value) (s' : Shared) : Prop :=
  ∃ a its n h' tk, v = .ref a ∧ s' = { s with heap := h', toks := tk } ∧ Fr h₀ L h' m ∧ News h₀ L h' ((a, ({ cls := .type "tuple", data := .seq its n } : Obj)) :: news) ∧ DatIn [(a, ({ cls := .type "tuple", data := .seq its n } : Obj))] (.ref a) (datE e)
theorem fresh_join {prog : Program} {w : World} {A : Around} {h₀ : Heap} {L : Addr} {m : Str → Option Value} {news : Led} {s : Shared} {c : Sem Value} {Q E : Value → Shared → Prop} (e : Edge) (_F : Fr h₀ L s.heap m) (_N : News h₀ L s.heap news) (h : wpAny (model prog w) A c (FrOut h₀ L m news s e) E s)
    (k : ∀ a its n h' tk, Fr h₀ L h' m → News h₀ L h' ((a, ({ cls := .type "tuple", data := .seq its n } : Obj)) :: news) → DatIn [(a, ({ cls := .type "tuple", data := .seq its n } : Obj))] (.ref a) (datE e) → Q (.ref a) { s with heap := h', toks := tk }) : wpAny (model prog w) A c Q E s := by
  refine wpAny_mono h (fun v s' hv => ?_) (fun _ _ e => e)
  obtain ⟨a, its, n, h', tk, rfl, rfl, a1, a2, a3⟩ := hv
  exact k a its n h' tk a1 a2 a3
local macro_rules | `(tactic| walk_at "getAttr ref") => `(tactic| ((with_reducible show wpAny _ _ (getAttr (Value.ref _) (Str.ofString "parent") _) _ _ _); k_dflt (refine row_getPar (by assumption) (by assumption) (by assumption) (by assumption) (by assumption) (by assumption) ?_); intro tg))
local macro_rules | `(tactic| walk_at "getAttr ref") => `(tactic| ((with_reducible show wpAny _ _ (getAttr (Value.ref _) (Str.ofString "bond") _) _ _ _); k_dflt (refine row_getBond (by assumption) (by assumption) (by assumption) (by assumption) (by assumption) (by assumption) ?_); intro tg))
local macro_rules | `(tactic| walk_at "getAttr ref") => `(tactic| ((with_reducible show wpAny _ _ (getAttr (Value.ref _) (Str.ofString "y_offset") _) _ _ _); k_dflt (refine row_getY (by assumption) (by assumption) (by assumption) (by assumption) (by assumption) (by assumption) ?_); intro tg))
local macro_rules | `(tactic| walk_at "subscriptTail Name Name ref int") => `(tactic| ((with_reducible show wpAny _ _ (subscriptTail _ _ (Value.ref _) (Value.int _ _)) _ _ _); k_dflt (refine row_item (by assumption) (by assumption) rfl (by assumption) ?_)))
local macro_rules | `(tactic| walk_at "TurnQ") => `(tactic| (dsimp only [TurnQ]))
local macro_rules | `(tactic| walk_at "compareOp NotIn ref ref") => `(tactic| (k_dflt (refine edge_notin (by assumption) (by assumption) (by assumption) (by ktr_units) ?_)))
theorem hps_yes {f : Nat → List Nat} {k : Nat} {g : List Nat} (hg : g = f k) (h1 : 1 < g.length) (h2 : g ∉ hps f k) : hps f (k + 1) = hps f k ++ [g] := by
  subst hg
  show (if _ then _ else _) = _
  rw [if_pos ⟨h1, h2⟩]
theorem hps_no {f : Nat → List Nat} {k : Nat} {g : List Nat} (hg : g = f k) (h1 : 1 < g.length → g ∈ hps f k) : hps f (k + 1) = hps f k := by
  subst hg
  show (if _ then _ else _) = _
  rw [if_neg fun q => q.2 (h1 q.1)]
local macro_rules | `(tactic| walk_at "compareOp NotEq ref ref") => `(tactic| (k_dflt (refine heaps_ne (by assumption) (by assumption) (by assumption) (by assumption) (by assumption) (by ktr_units) (by assumption) ?_)))
theorem hps_len (g : Nat → List Nat) : ∀ k, (hps g k).length ≤ k
  | 0 => Nat.le_refl _
  | k + 1 => by
    have := hps_len g k
    unfold hps
    split
    · rw [List.length_append]; simp only [List.length_cons, List.length_nil]; omega
    · omega
local macro_rules | `(tactic| walk_at "compareOp NotIn ref ref") => `(tactic| (k_dflt (refine heap_notin (by assumption) (by assumption) (by assumption) (by assumption) (by ktr_units) ?_)))
local macro_rules | `(tactic| walk_at "call builtin:len") => `(tactic| ((with_reducible show wpAny _ _ (call (Value.builtin "len") [Value.ref _]) _ _ _); k_dflt (refine list_len (by assumption) (by assumption) (by assumption) ?_); intro tl' tk'))
local macro_rules | `(tactic| walk_at "call builtin:list.append") => `(tactic| ((with_reducible show wpAny _ _ (call (Value.builtin "list.append") [Value.ref _, _]) _ _ _); k_dflt (refine app_list (by assumption) (by assumption) (by assumption) (by assumption) ?_); intro h' n' F' N' M' K'; (try k_sweep)))
local macro_rules | `(tactic| walk_at "getMethod ref") => `(tactic| ((with_reducible show wpAny _ _ (getMethod (Value.ref _) (Str.ofString "append") _) _ _ _); with_unfolding_all refine getMethod_append_N (by assumption) (by assumption) ?_))
local macro_rules | `(tactic| walk_at "compareOp NotEq ref ref") => `(tactic| (k_dflt (refine edge_ne (by assumption) (by assumption) (by assumption) (by ktr_units) ?_)))
local macro_rules | `(tactic| walk_at "call builtin:len") => `(tactic| ((with_reducible show wpAny _ _ (call (Value.builtin "len") [Value.ref _]) _ _ _); k_dflt (refine links_len (by assumption) (by assumption) (by assumption) ?_); intro tl' tk'))
local macro_rules | `(tactic| tb_start) => `(tactic| repeat' (first | ((fail_if_success (with_reducible show wpAny _ _ (exec (Stmt.While _ _ _ _) _) _ _ _)); (fail_if_success (with_reducible show wpAny _ _ (call (Value.ref 108) _ _) _ _ _)); (fail_if_success (with_reducible show wpAny _ _ (exec (Stmt.Assign _ (Expr.ListComp _ _ _ _) _) _) _ _ _)); (fail_if_success (with_reducible show wpAny _ _ (pyIter _) _ _ _)); (fail_if_success (with_reducible show wpAny _ _ (eval (Expr.IfExp _ _ _ _) _) _ _ _)); (fail_if_success (with_reducible show wpAny _ _ (eval (Expr.ListComp _ _ _ _) _) _ _ _)); (fail_if_success (with_reducible show wpAny _ _ (call (Value.ref 115) _ _) _ _ _)); (fail_if_success (with_reducible show wpAny _ _ (call (Value.ref 122) _ _) _ _ _)); (fail_if_success (with_reducible show wpAny _ _ (call (Value.ref 49) _ _) _ _ _)); (fail_if_success (with_reducible show wpAny _ _ (call (Value.ref 56) _ _) _ _ _)); (fail_if_success (with_reducible show wpAny _ _ (call (Value.ref 61) _ _) _ _ _)); (fail_if_success (with_reducible show LCg.CompSrc _ _ _ _ _ _ _ _ _ _ _ _ _ _)); (fail_if_success (with_reducible show LCt.CompSrcT _ _ _ _ _ _ _ _ _ _ _ _ _ _ _)); first | (k_unfold; (try dsimp only)) | walk1 | (dsimp only; walk1)) | fail "no step"))
theorem t : PySem.Challenge.rw_nu0149_01.Holds := hd (by
  k_go0
  (all_goals try k_fold)
  rename_i w s0 s1 mg mb G0 Y0 fa ofa pm doc hofa hgens KX XM VL GL T0 TB TE TW a1 o1 BM a2 a3 hcd ns hs hlay hlL hrr hl2 la1 la2 sx vs la3 hLs hra hw1 hr0 hI hr2 hc63 hctr K0 hD h1 tk1 F1 oc1 oc2 dc1 dc2 N1 XC
  have hgB := box_to hgens
  clear G0 Y0 hofa hgens XM VL GL TB TE TW BM hcd hs hlay hlL hrr hl2 hra hw1 hr0 hr2 hctr hD XC
  obtain ⟨u0, F0⟩ := fr_norm [(Str.ofString "script", .ref sx)] F1 (by intro p hp; rw [List.mem_singleton.mp hp]; rfl)
  clear F1
  simp only [kstB] at F0
  have hC1 : CellIn (s1.heap.objs.size + 1) none [(s1.heap.objs.size + 1 + 1, oc1), (s1.heap.objs.size + 1, oc2)] := ⟨oc2, .tail _ (.head _), dc2⟩
  have hC2 : CellIn (s1.heap.objs.size + 1 + 1) none [(s1.heap.objs.size + 1 + 1, oc1), (s1.heap.objs.size + 1, oc2)] := ⟨oc1, .head _, dc1⟩
  clear dc1 dc2
  tb_start
  refine wpAny_noRaise ?_
  refine src_join F0 N1 ?_ ?_
  · k_steps
    · rename_i hI8 hL8 dL hx tkx o1 hpos lS hx2 Fx Nx lx kF kN _ kX
      refine ⟨lS, dL, 0, _, ys, _, _, _, _, _, rfl, rfl, kF, kN, .head _, .tail _ (.head _), Nat.ne_of_lt lx.1, hI8, hpos, ?_, fun p hp => .tail _ (.tail _ (.tail _ hp)), ?_⟩
      · rw [List.length_map, List.length_take]; omega
      · intro p hp
        rcases List.mem_cons.mp hp with rfl | hp
        · exact ⟨Nat.ne_of_lt lx.2.2.1, o1.2.1⟩
        · rw [List.mem_singleton.mp hp]
          exact ⟨Nat.ne_of_lt lx.2.2.2, o1.2.2⟩
    · rename_i hI8 hL8 dL hx tkx o1 hpos dZ hx3 lz lS hx2 Fx Nx lx kF kN _ kX
      refine ⟨lS, dZ, 0, 0, [.int 0 (tkx + 1 + 1)], [0], _, _, _, _, rfl, rfl, kF, kN, .head _, .tail _ (.head _), Nat.ne_of_lt lx.1, .cons _ _ .nil, by decide, by decide, fun p hp => .tail _ (.tail _ (.tail _ (.tail _ hp))), ?_⟩
      intro p hp
      rcases List.mem_cons.mp hp with rfl | hp
      · exact ⟨Nat.ne_of_lt lx.2.2.2.1, Nat.ne_of_lt lz.2.2.1⟩
      · rw [List.mem_singleton.mp hp]
        exact ⟨Nat.ne_of_lt lx.2.2.2.2, Nat.ne_of_lt lz.2.2.2⟩
  intro src cl e1 e2 vs2 ns2 t h2 tk2 nw F2 N2 M1 M2 hne hi2 hn1 hn2 hsub hlt
  clear F0 N1 hLs hI hc63
  have S2 : SrcIn src cl vs2 nw := ⟨⟨_, _, _, M1⟩, ⟨_, M2⟩⟩
  clear M1 M2
  tb_start
  rename_i hz tkz n3 kz tz kz0 kz6 S3 K3 hz2 F3 N3
  obtain ⟨n, hn, hn2', hnB⟩ : ∃ n : Nat, (2 : Int) + kz = n ∧ 2 ≤ n ∧ Bnd n := ⟨(2 + kz).toNat, by omega, by omega, by unfold Bnd; omega⟩
  rw [hn] at F3
  obtain ⟨u1, F4⟩ := fr_norm [(Str.ofString "source", .ref src), (Str.ofString "size", .int (n : Nat) tkz)] F3 (by simp (decide := true))
  clear F3
  simp only [kstB] at F4
  have hnoc1 : ∀ p ∈ [(s1.heap.objs.size + 1 + 1, oc1), (s1.heap.objs.size + 1, oc2)], p ∈ n3 := fun p hp => K3 _ (hsub p hp) (hlt p hp).1
  have hC3 := hC1.sub hnoc1
  have hC4 := hC2.sub hnoc1
  clear hnoc1 hsub hlt S2 K3 hC1 hC2
  k_dflt (refine LCg.Assign_ListComp_U (F₀ := F4) (by rfl) (by with_unfolding_all rfl) (by with_unfolding_all rfl) (by decide) (by rfl) (by decide) (by rfl) (by rfl) (by rfl) ?_)
  tb_start
  rename_i hR tkR tR uR vR IR F5 N5 _
  have hn7 : n ≤ 7 := hnB
  refine LCg.CompSrc.range (n := n) (by rfl) F5 N5 IR (small_one (by omega) (by omega) (by omega) (by omega)) (by rw [rangeSize_nat]; omega) (by rw [sizeLine_eq]; omega) ?_
  intro gg
  refine cr_ind (fun i ys nw => ∃ ax : List (Addr × Addr), ax.length = i ∧ ys = ax.map (fun p => Value.ref p.1) ∧ RowPre ax nw ∧ SrcIn src cl vs2 nw ∧ CellIn (s1.heap.objs.size + 1) none nw ∧ CellIn (s1.heap.objs.size + 1 + 1) none nw) n ?_ ?_ n 0 [] n3 (Nat.zero_add n)
    ⟨[], rfl, rfl, ⟨List.nodup_nil, (fun i p h => by simp at h), (fun i p h => by simp at h)⟩, S3, hC3, hC4⟩
  · rintro k i ys nwi hin ⟨ax, rfl, rfl, R1, S4, C1, C2⟩ rest
    refine LCg.CompRest.succ ?_
    rintro v I oI C oC D m2 h6 tk6 E6 ⟨tv, rfl⟩ hNs hx F6 N6 off ne
    k_steps
    refine rowEnd (by assumption) (by assumption) (by assumption) (by assumption) off (fun _ => trivial) (fun hd => rest _ _ ⟨ax ++ [(_, _)], ?_, ?_, R1.snoc (fun p hp => .tail _ (.tail _ hp)) (.head _) (.tail _ (.head _)) ?_ hd, S4.sub (fun p hp => .tail _ (.tail _ hp)), C1.cons.cons, C2.cons.cons⟩)
    · rw [List.length_append]; rfl
    · rw [List.map_append]; rfl
    · exact es_fresh
  · rintro ys nw4 ⟨ax, rfl, rfl, R1, S4, C1, C2⟩
    intro r0 h7 tk7 F7 N7 off7
    have S7 : St r0 ax (List.replicate ax.length ⟨0, Str.ofString "", 0⟩) src cl vs2 (s1.heap.objs.size + 1) (s1.heap.objs.size + 1 + 1) ((r0, LCg.lst (ax.map fun p => Value.ref p.1)) :: nw4) :=
      ⟨(R1.sub fun p hp => .tail _ hp).row (.head _) hn7, S4.sub fun p hp => .tail _ hp, ⟨_, C1.cons⟩, ⟨_, C2.cons⟩⟩
    have hrs : r0 ≠ src := by obtain ⟨⟨k, t, e, a⟩, _⟩ := S4; exact fun q => off1_mem off7 _ a q.symm
    have hdr7 := fun l' k S' => S7.draw (nw' := l') N7 hrs k S'
    have hSrc7 := S7.src
    clear R1 S4 C1 C2 off7 S3 hC3 hC4 IR hn7
    tb_start
    rename_i hA tkA n8 k9 t9 F8' N8' k90 k99 S8 K8 hB tkB tB uB vB IR F8 N8 _
    obtain ⟨nt, hnt, hnt9⟩ : ∃ nt : Nat, (1 : Int) + k9 = nt ∧ nt ≤ 1000 := ⟨(1 + k9).toNat, by omega, by omega⟩
    rw [hnt] at IR
    have St8 := hdr7 _ K8 S8
    clear K8 hdr7 hSrc7 S7 S8
    have hn1' : (1 : Int) ≤ ax.length - 1 := by omega
    refine iter_rangeM (n := nt) (fun i m nw => m (Str.ofString "source") = some (.ref src) ∧ m (Str.ofString "size") = some (.int (ax.length : Nat) tkz) ∧ m (Str.ofString "row") = some (.ref r0) ∧ ∃ cs, St r0 ax cs src cl vs2 (s1.heap.objs.size + 1) (s1.heap.objs.size + 1 + 1) nw ∧ Wf cs)
      (by exact rfl) IR rfl hnt9 F8 N8 ⟨rfl, rfl, rfl, _, St8, wf_fresh _⟩ ?_ ?_
    · rintro i m1 nw I o h1 tk1 t1 hin ⟨hmr, hms, hmw, cs, hS, hW⟩ hoff hltI hoc F1 N1
      obtain ⟨u2, F9⟩ := fr_norm [(Str.ofString "source", .ref src), (Str.ofString "size", .int (ax.length : Nat) tkz), (Str.ofString "row", .ref r0)] F1 (by simp (decide := true) [hmr, hms, hmw])
      clear F1 F8 N8 F8' N8'
      simp only [kstB] at F9
      replace F9 : Fr s1.heap s1.heap.objs.size h1 _ := F9
      replace N1 : News s1.heap s1.heap.objs.size h1 _ := N1
      have S1 := hS.sub (nw' := (I, o) :: nw) fun p hp => .tail _ hp
      have hdr := fun l' k S' => S1.draw (nw' := l') N1 hrs k S'
      have hSr := S1.src
      clear S1 hmr hms hmw hltI
      tb_start
      rename_i hc tc nc kc tkc lc0 lcn Sc Kc hc2 tkx1 hp tp np kp tkp lp0 lpn Sp Kp hp2 tkx2 hh th nh kh tkh lh0 lhn Sh Kh hh2 Fh Nh
      obtain ⟨ci, hci, hcin⟩ : ∃ ci : Nat, kc = ci ∧ ci < ax.length := ⟨kc.toNat, by omega, by omega⟩
      subst hci
      obtain ⟨pi, hpi, hpin, hpc⟩ := mod_ne lp0 lpn hcin
      obtain ⟨ht, hht⟩ : ∃ ht, kh - 20 = ht := ⟨_, rfl⟩
      obtain ⟨tc3, hmc⟩ := fr_int Fh (x := Str.ofString "child") (k := (ci : Nat)) rfl
      obtain ⟨tp3, hmp⟩ := fr_int Fh (x := Str.ofString "parent") (k := (pi : Nat)) (by rw [← hpi]; rfl)
      obtain ⟨th3, hmh⟩ := fr_int Fh (x := Str.ofString "height") (k := ht) (by rw [← hht]; rfl)
      obtain ⟨u3, Fz⟩ := fr_norm [(Str.ofString "source", .ref src), (Str.ofString "size", .int (ax.length : Nat) tkz), (Str.ofString "row", .ref r0), (Str.ofString "child", .int (ci : Nat) tc3), (Str.ofString "parent", .int (pi : Nat) tp3), (Str.ofString "height", .int ht th3)] Fh
        (by intro p hp; simp only [List.mem_cons, List.not_mem_nil, or_false] at hp; rcases hp with rfl | rfl | rfl | rfl | rfl | rfl <;> first | rfl | assumption)
      have S2 := hdr nh (fun p hp hn => Kh _ (Kp _ (Kc _ hp hn) hn) hn) Sh
      obtain ⟨⟨ksr, tsr, esr, asr⟩, _⟩ := id hS.src
      have hI2 : (I, o) ∈ nh := Kh _ (Kp _ (Kc _ (.head _) (Ne.symm (hoff _ asr))) (Ne.symm (hoff _ asr))) (Ne.symm (hoff _ asr))
      have hcI1 : s1.heap.objs.size + 1 ≠ I := by obtain ⟨v, ⟨⟨x, hx, _⟩⟩⟩ := hS.c1; exact hoff _ hx
      have hcI2 : s1.heap.objs.size + 1 + 1 ≠ I := by obtain ⟨v, ⟨⟨x, hx, _⟩⟩⟩ := hS.c2; exact hoff _ hx
      clear Fh F9 N1 hdr hSr Kh Kp Kc Sc Sp Sh hmc hmp hmh hS asr lc0 lcn lp0 lpn lh0 lhn
      simp only [kstB] at Fz
      have hlen : cs.length = ax.length := S2.row.len
      have hc12 : s1.heap.objs.size + 1 ≠ s1.heap.objs.size + 1 + 1 := Nat.ne_of_lt (Nat.lt_succ_self _)
      refine links_spec K0 Fz KX Nh T0 rfl (by ktr_room) S2.row hW ?_
      intro hL1 tkL1 nL Dl el vl es tl FL NL ML DL TL SubL LtL PL
      have LK := LinksOf.of PL
      have LI := LinksIn.mk' ML DL TL
      have S3 := S2.sub SubL
      have hI3 := SubL _ hI2
      obtain ⟨v1, x1⟩ := S3.c1
      have hS3 := fun l' v k C => S3.cell1 (nw' := l') (v := v) NL hc12 k C
      have hK3 := fun l' k => KeepS.of_cell (l' := l') NL x1 k
      clear S2 ML DL TL SubL LtL PL hI2 Nh
      tb_start
      rename_i hLs nLs FLs NLs CLs KLs
      have S4 := hS3 _ _ KLs CLs
      have LI4 := LI.keep (hK3 _ KLs)
      have hI4 := KLs _ hI3 (Ne.symm hcI1)
      clear hS3 hK3 KLs hI3 LI S3 x1
      obtain ⟨⟨vsL, eL, mL, dL⟩⟩ := id LI4
      refine group_spec (nn := ax.length) K0 FLs KX NLs T0 rfl (by ktr_room) (by ktr_units) mL dL (fun p hp => hp) (fun e he => by rw [← hlen]; exact Ed.bound hW ((LK.ed e).mp he)) hcin hnB (by have := LK.small; unfold Bnd at *; omega) ?_
      intro hG1 tkG nG Dg eg vg g FG NG MG IG SubG _ hg pg
      have S5 := S4.sub SubG
      have LI5 := LI4.keep (.of_sub SubG)
      have hI5 := SubG _ hI4
      have C5 := CLs.sub SubG
      clear S4 LI4 hI4 CLs SubG mL dL NLs FLs
      tb_start
      rename_i hTg FTg NTg
      refine tie_spec K0 FTg KX NTg T0 rfl (by ktr_room) S5.row hW (by omega) (by omega) hpc ?_
      intro hT tkT nT G FT NT RT KT TO
      have S6 := S5.nd RT KT
      have LI6 := LI5.keep (.of_nd KT)
      have hI6 := KT _ hI5 (.inl (by rw [hoc]; decide))
      have C6 := C5.nd KT
      clear S5 LI5 hI5 C5 RT KT MG IG
      tb_start
      refine fresh_join (normE ci ⟨(pi : Int) - ci, BONDS, ht⟩) ‹Fr _ _ _ _› ‹News _ _ _ _› ?_ ?_
      · k_steps
        · refine ⟨_, _, _, _, _, rfl, rfl, ‹Fr _ _ _ _›, ‹News _ _ _ _›, ?_⟩
          rw [normE_lt (by omega)]
          exact datE_mk (.head _) rfl rfl rfl
        · refine ⟨_, _, _, _, _, rfl, rfl, ‹Fr _ _ _ _›, ‹News _ _ _ _›, ?_⟩
          rw [normE_gt (by omega)]
          exact datE_mk (.head _) rfl rfl rfl
      intro ft fits fn hF tkF FF NF DF
      have hcs : ∀ p ∈ nT, p ∈ (ft, ({ cls := .type "tuple", data := .seq fits fn } : Obj)) :: nT := fun p hp => .tail _ hp
      have S7 := S6.sub hcs
      have LI7 := LI6.keep (.of_sub hcs)
      have C7 := C6.sub hcs
      have hI7 := hcs _ hI6
      obtain ⟨v2, x2⟩ := S7.c2
      have hS7 := fun l' v k C => S7.cell2 (nw' := l') (v := v) NF hc12 k C
      have hK7 := fun l' k => KeepS.of_cell (l' := l') NF x2 k
      clear S6 LI6 C6 hI6 hcs
      tb_start
      rename_i hFr nFr FFr NFr CFr KFr
      have S8 := hS7 _ _ KFr CFr
      have LI8 := LI7.keep (hK7 _ KFr)
      have C8 := C7.away KFr hc12
      have hI8 := KFr _ hI7 (Ne.symm hcI2)
      have DF8 : DatIn nFr (.ref ft) (datE (normE ci ⟨(pi : Int) - ci, BONDS, ht⟩)) := DF.mono fun p hp => by rw [List.mem_singleton.mp hp]; exact hK7 _ KFr _ (.head _) (by simp) ⟨_, _, rfl⟩
      clear hS7 hK7 KFr hI7 LI7 C7 S7 DF x2
      refine links_spec K0 FFr KX NFr T0 rfl (by ktr_room) S8.row TO.wf ?_
      intro hN1 tkN nN Dn en vn es1 tn FN NN MN DN TN SubN LtN PN
      have LK1 := LinksOf.of PN
      have LIn := LinksIn.mk' MN DN TN
      have S9 := S8.sub SubN
      have LI9 := LI8.keep (.of_sub SubN)
      have C9 := C8.sub SubN
      have CF9 := CFr.sub SubN
      have DF9 := DF8.mono SubN
      have hI9 := SubN _ hI8
      clear S8 LI8 C8 CFr DF8 hI8 MN DN TN SubN LtN PN FFr NFr
      have R9 := S9.row
      obtain ⟨⟨xc, dc⟩, hxc⟩ : ∃ p, ax[ci]? = some p := ⟨_, List.getElem?_eq_getElem hcin⟩
      have hGc := TO.at_
      have hB1 : Bnd es1.length := by have := LK1.small; have := TO.len; unfold Bnd at *; omega
      have hB0 : Bnd es.length := by have := LK.small; unfold Bnd at *; omega
      have hfe : normE ci ⟨(pi : Int) - ci, BONDS, ht⟩ ∈ es1 := (LK1.ed _).mpr ⟨ci, _, hGc, by simp only; omega, rfl⟩
      have hLens : (es1.length : Int) = (es.length : Int) + (if pi ∈ g then (0 : Int) else 1) := by
        have hy := TO.yes
        have hno := TO.no
        rw [LK1.len, LK.len]
        by_cases q : pi ∈ g
        · rw [if_pos q, hy (LK.conn.mp ((hg pi).mp q))]; omega
        · rw [if_neg q, hno (fun c => q ((hg pi).mpr (LK.conn.mpr c)))]; omega
      have hold : ∀ e ∈ es1, e = normE ci ⟨(pi : Int) - ci, BONDS, ht⟩ ∨ e ∈ es := fun e he => (TO.edges e ((LK1.ed e).mp he)).imp id (LK.ed e).mpr
      tb_start
      · exact absurd rfl ‹_ ≠ (pi : Int) - ci›
      · exact absurd ‹(_ != _) = true› (by simp)
      · exact absurd rfl ‹_ ≠ ht›
      · refine int_join (if pi ∈ g then (0 : Int) else 1) ‹Fr _ _ _ _› ‹News _ _ _ _› ?_ ?_
        · k_steps
          · exact ⟨_, _, _, by rw [if_pos ‹pi ∈ g›], rfl, ‹Fr _ _ _ _›, ‹News _ _ _ _›⟩
          · exact ⟨_, _, _, by rw [if_neg ‹¬ pi ∈ g›], rfl, ‹Fr _ _ _ _›, ‹News _ _ _ _›⟩
        intro tz0 hZ tkZ FZ NZ
        tb_start
        · exact absurd hLens ‹_›
        refine LCt.ListComp_T (F₀ := by assumption) (by with_unfolding_all rfl) (by decide) (by rfl) (by decide) (by rfl) ?_
        tb_start
        obtain ⟨⟨vsN, eN, mN, dN⟩⟩ := id LIn
        have hvN : vsN.length = es1.length := by have := dN.length; rwa [List.length_map] at this
        refine LCt.CompSrcT.ledger (by rfl) FZ NZ mN (by rw [sizeLine_eq, List.size_toArray, hvN]; unfold Bnd at hB1; omega) ?_
        intro gg2
        refine crt_ind (fun i ys => ys = []) vsN.toArray.size ?_ ?_ _ 0 [] (Nat.zero_add _) rfl
        · rintro k2 i2 ys hi2' rfl rest2
          refine LCt.CompRestT.succ ?_
          rintro v5 I5 oI5 C5 oC5 D5 m5 h5 tk5 E5 hv5 hNs5 hx5 F5 N5 off5 ne5
          have hi3 : i2 < vsN.length := by simpa using hi2'
          obtain ⟨dd, q1, q2⟩ := datAll_get dN hi3
          rw [List.getElem?_map] at q1
          obtain ⟨e5, he5, rfl⟩ := Option.map_eq_some_iff.mp q1
          have hv6 : vsN.getD i2 Value.none = v5 := by
            rw [List.getElem?_toArray] at hv5
            rw [List.getD_eq_getElem?_getD, hv5]; rfl
          rw [hv6] at q2
          obtain ⟨a5, n5, t51, t52, t53, q3, m5'⟩ := datE_inv q2
          subst q3
          have LL : ∀ p ∈ nN, p ∈ (I5, oI5) :: (C5, oC5) :: (D5, LCg.lst []) :: nN := fun p hp => .tail _ (.tail _ (.tail _ hp))
          have Dx := q2.mono LL
          have Df := DF9.mono LL
          have LI' := LI9.keep (.of_sub LL)
          have C' := C9.sub LL
          have CF' := CF9.sub LL
          have hor := hold e5 (List.mem_of_getElem? he5)
          k_steps
          · exact LCg.CompEnd.intro ‹Fr _ _ _ _› ‹News _ _ _ _› nN (fun p hp => hp) off5 (.inr ⟨_, mN, rfl, _, rfl⟩) (rest2 _ rfl)
          · exact LCg.CompEnd.intro ‹Fr _ _ _ _› ‹News _ _ _ _› nN (fun p hp => hp) off5 (.inr ⟨_, mN, rfl, _, rfl⟩) (rest2 _ rfl)
          · rcases hor with q | q
            · exact absurd q ‹¬ e5 = _›
            · exact absurd q ‹¬ e5 ∈ es›
        · rintro ys rfl
          intro D6 h6 tk6 F6 N6 off6
          tb_start
          rename_i lE hlE fE nE l1E hP tkP tP uP vP IRP FP NP _
          have hsb : ∀ p ∈ nN, p ∈ (lE, PySem.W.listOf #[] 0) :: (D6, LCg.lst []) :: nN := fun p hp => .tail _ (.tail _ hp)
          have SP := S9.sub hsb
          have LP := LIn.keep (.of_sub hsb)
          have hIP := hsb _ hI9
          have hGn : G.length = ax.length := by rw [TO.len]; exact hlen
          clear S9 LIn hI9 LI9 C9 CF9 DF9 R9 hxc hold hLens hfe hB0 mN dN LK hW hg hsb hpi hht hn hn1' hnt hnt9 hpin hpc hGc hvN pg hin
          have hBox : Box ((cl ≠ src) ∧ (r0 ≠ src) ∧ (s1.heap.objs.size + 1 ≠ I) ∧ (s1.heap.objs.size + 1 + 1 ≠ I) ∧ (s1.heap.objs.size + 1 ≠ s1.heap.objs.size + 1 + 1)) := ⟨hne, hrs, hcI1, hcI2, hc12⟩
          clear hne hrs hcI1 hcI2 hc12
          refine iter_rangeM (n := ax.length) (fun i m nw => m (Str.ofString "source") = some (.ref src) ∧ m (Str.ofString "size") = some (.int (ax.length : Nat) tkz) ∧ m (Str.ofString "row") = some (.ref r0) ∧ m (Str.ofString "now") = some (.ref Dn) ∧
            St r0 ax G src cl vs2 (s1.heap.objs.size + 1) (s1.heap.objs.size + 1 + 1) nw ∧ LinksIn Dn es1 nw ∧ (I, o) ∈ nw)
            (by exact rfl) IRP rfl (by unfold Bnd at hnB; omega) FP NP ⟨rfl, rfl, rfl, rfl, SP, LP, hIP⟩ ?_ ?_
          · rintro ia ma nwa Ia oa ha tka ta hia ⟨hma1, hma2, hma3, hma4, hSa, LIa, hIa⟩ hoffa hlta hoca Fa Na
            obtain ⟨ua, Fb⟩ := fr_norm [(Str.ofString "source", .ref src), (Str.ofString "size", .int (ax.length : Nat) tkz), (Str.ofString "row", .ref r0), (Str.ofString "now", .ref Dn), (Str.ofString "at", .int (ia : Nat) ta)] Fa (by simp (decide := true) [hma1, hma2, hma3, hma4])
            clear Fa FP NP hma1 hma2 hma3 hma4 hlta
            simp only [kstB] at Fb
            replace Fb : Fr s1.heap s1.heap.objs.size ha _ := Fb
            replace Na : News s1.heap s1.heap.objs.size ha _ := Na
            have Ra : RowIn r0 ax G ((Ia, oa) :: nwa) := hSa.row.sub fun p hp => .tail _ hp
            have hWG := TO.wf
            have hiaG : ia < G.length := by omega
            obtain ⟨rk, hrk⟩ := hWG.rank
            tb_start
            refine ksw_while (σ := (Nat × Tok) × (Nat × Tok)) (fun _ => (Ia, oa) :: nwa) (fun c => [(Str.ofString "here", .int c.1.1 c.1.2), (Str.ofString "steps", .int c.2.1 c.2.2)]) (fun _ => True) [] (fun c => Steps G ia c.2.1 c.1.1) (fun c => rk c.1.1) ((ia, ta), (0, _)) (by assumption) (by assumption) trivial (by kst_all) .zero ?_
            rintro ⟨⟨here, th0⟩, ⟨stp, ts0⟩⟩ uw hw tkw - hStp Fw Nw
            k_sweep
            simp only [kstB, List.contains_nil, Bool.false_eq_true, if_false] at Fw
            have hlt0 : here < G.length := hStp.up.lt hWG hiaG
            have hstl : stp < G.length := hStp.lt hWG hiaG
            obtain ⟨c0, hc0⟩ : ∃ c, G[here]? = some c := ⟨_, List.getElem?_eq_getElem hlt0⟩
            obtain ⟨⟨x0, d0⟩, hx0⟩ : ∃ p, ax[here]? = some p := ⟨_, List.getElem?_eq_getElem (by omega)⟩
            dsimp only at Fw hStp
            k_steps
            · refine box_to ?_
              have hp0 := ‹c0.par ≠ 0›
              have hb := hWG.inb _ _ hc0 hp0
              have ek : ((((here : Int) + c0.par).toNat : Nat) : Int) = (here : Int) + c0.par := by omega
              rename Fr s1.heap _ _ _ => F2
              obtain ⟨tq, hm⟩ := fr_int F2 (x := Str.ofString "here") rfl
              obtain ⟨tq2, hm2⟩ := fr_int F2 (x := Str.ofString "steps") (k := ((stp + 1 : Nat) : Int)) rfl
              refine ksw_end ((((here : Int) + c0.par).toNat, tq), (stp + 1, tq2)) F2 (by assumption) (fun _ hp => hp) trivial (fun p hp => ?_) (by ksw_same) (hStp.succ hc0 hp0 ek) (hrk _ _ hc0 hp0)
              rcases List.mem_cons.mp hp with rfl | hp
              · show _ = some (Value.int _ _)
                rw [ek]
                exact hm
              · rw [List.mem_singleton.mp hp]
                exact hm2
            · rename_i UU RR ne
              exact absurd (congrArg Nat.cast (Root.uniq UU hStp.up RR fun c hc => by rw [hc0] at hc; cases hc; assumption)) ne
            · rename_i FF NN UU RR eqh
              exact ⟨_, _, _, _, nwa, rfl, FF, NN, .head _, fun p hp => ⟨.tail _ hp, hoffa p hp⟩, rfl, rfl, rfl, rfl, hSa, LIa, hIa⟩
          · rintro m3 nw3 h3 tk3 ⟨hma1, hma2, hma3, hma4, hSa, LIa, hIa⟩ F3' N3'
            obtain ⟨u5, F5⟩ := fr_norm [(Str.ofString "source", .ref src), (Str.ofString "size", .int (ax.length : Nat) tkz), (Str.ofString "row", .ref r0), (Str.ofString "now", .ref Dn)] F3' (by simp (decide := true) [hma1, hma2, hma3, hma4])
            clear F3' FP NP hma1 hma2 hma3 hma4 SP LP hIP IRP fE nE l1E off6
            simp only [kstB] at F5
            replace F5 : Fr s1.heap s1.heap.objs.size h3 _ := F5
            replace N3' : News s1.heap s1.heap.objs.size h3 _ := N3'
            obtain ⟨rt, hrt⟩ := rt_ex G
            tb_start
            rename_i hE hhE lE1 hq1 fq nq hP2 tkP2 tP2 uP2 vP2 IR2 FP2 NP2 _
            clear fq nq
            have hEb : Box (r0 ≠ hE ∧ src ≠ hE ∧ cl ≠ hE ∧ Dn ≠ hE ∧ I ≠ hE) := by
              refine box_to ?_
              obtain ⟨e, he⟩ := hSa.row.lst
              obtain ⟨⟨_, _, _, a⟩, ⟨_, b⟩⟩ := id hSa.src
              obtain ⟨⟨_, _, c, _⟩⟩ := id LIa
              exact ⟨Nat.ne_of_lt (lE1 _ he), Nat.ne_of_lt (lE1 _ a), Nat.ne_of_lt (lE1 _ b), Nat.ne_of_lt (lE1 _ c), Nat.ne_of_lt (lE1 _ hIa)⟩
            have S0 := hSa.sub (nw' := (hE, PySem.W.listOf #[] 0) :: nw3) fun p hp => .tail _ hp
            have L0 := LIa.keep (.of_sub (l' := (hE, PySem.W.listOf #[] 0) :: nw3) fun p hp => .tail _ hp)
            have H0 : HeapsIn hE (hps (fun i => grp rt ax.length (rt i)) 0) ((hE, PySem.W.listOf #[] 0) :: nw3) := ⟨[], 0, .head _, [], rfl, rfl, fun u hu => nomatch hu⟩
            clear lE1 hSa LIa
            refine iter_rangeM (n := ax.length) (fun i m nw => m (Str.ofString "source") = some (.ref src) ∧ m (Str.ofString "size") = some (.int (ax.length : Nat) tkz) ∧ m (Str.ofString "row") = some (.ref r0) ∧ m (Str.ofString "now") = some (.ref Dn) ∧ m (Str.ofString "heaps") = some (.ref hE) ∧
              St r0 ax G src cl vs2 (s1.heap.objs.size + 1) (s1.heap.objs.size + 1 + 1) nw ∧ LinksIn Dn es1 nw ∧ (I, o) ∈ nw ∧ HeapsIn hE (hps (fun i => grp rt ax.length (rt i)) i) nw)
              (by exact rfl) IR2 rfl (by unfold Bnd at hnB; omega) FP2 NP2 ⟨rfl, rfl, rfl, rfl, rfl, S0, L0, .tail _ hIa, H0⟩ ?_ ?_
            · rintro ib mb2 nwb Ib ob hb tkb tb hib ⟨k1, k2, k3, k4, k5, hSb, LIb, hIb, hHb⟩ hoffb hltb hocb Fb Nb
              obtain ⟨ub, Fb2⟩ := fr_norm [(Str.ofString "source", .ref src), (Str.ofString "size", .int (ax.length : Nat) tkz), (Str.ofString "row", .ref r0), (Str.ofString "now", .ref Dn), (Str.ofString "heaps", .ref hE), (Str.ofString "at", .int (ib : Nat) tb)] Fb (by simp (decide := true) [k1, k2, k3, k4, k5])
              clear Fb FP2 NP2 k1 k2 k3 k4 k5 hltb S0 L0 H0 hIa IR2
              simp only [kstB] at Fb2
              replace Fb2 : Fr s1.heap s1.heap.objs.size hb _ := Fb2
              replace Nb : News s1.heap s1.heap.objs.size hb _ := Nb
              obtain ⟨⟨vsb, eb, mlb, dlb⟩⟩ := id (LIb.keep (.of_sub (l' := (Ib, ob) :: nwb) fun p hp => .tail _ hp))
              have hibG : ib < G.length := by omega
              have hWG := TO.wf
              tb_start
              refine group_spec (nn := ax.length) K0 ‹Fr _ _ _ _› KX ‹News _ _ _ _› T0 rfl (by ktr_room) (by ktr_units) mlb dlb (fun p hp => hp) (fun e he => by rw [← hGn]; exact Ed.bound hWG ((LK1.ed e).mp he)) hib hnB hB1 ?_
              intro hG2 tkG2 nG2 Dg2 eg2 vg2 g2 FG2 NG2 MG2 IG2 SubG2 LtG2 hg2 pg2
              have hgg : g2 = grp rt ax.length (rt ib) := by rw [← hGn]; exact group_grp hWG LK1 hrt hibG hg2 pg2
              have Sg := hSb.sub (nw' := nG2) fun p hp => SubG2 _ (.tail _ hp)
              have Lg := LIb.keep (.of_sub (l' := nG2) fun p hp => SubG2 _ (.tail _ hp))
              have Hg := hHb.sub (nw' := nG2) fun p hp => SubG2 _ (.tail _ hp)
              have hIg := SubG2 _ (.tail _ hIb)
              have hIbg := SubG2 _ (.head _)
              have hEIb : Ib ≠ hE := by obtain ⟨⟨_, _, q, _⟩⟩ := id hHb; exact Ne.symm (hoffb _ q)
              have hED : hE < Dg2 := by obtain ⟨⟨_, _, q, _⟩⟩ := id hHb; exact LtG2 _ (.tail _ q)
              have hDI : Ib < Dg2 := LtG2 _ (.head _)
              have hbx : Box (hE < Dg2 ∧ Ib < Dg2 ∧ Ib ≠ hE) := box_to ⟨hED, hDI, hEIb⟩
              have hbo : Box (∀ p ∈ nwb, p ∈ nG2 ∧ p.1 ≠ Ib) := box_to fun p hp => ⟨SubG2 _ (.tail _ hp), hoffb p hp⟩
              obtain ⟨vsh, eh, mh, dh⟩ := Hg.dat
              have hgl : vg2.length = g2.length := by have := IG2.length; rwa [List.length_map] at this
              have hgs : vg2.length ≤ 1000 := by rw [hgl, hgg]; have := grp_len rt ax.length (rt ib); unfold Bnd at hnB; omega
              have hhs : vsh.length ≤ 1000 := by have h1 := dh.length; rw [List.length_map] at h1; have := hps_len (fun i => grp rt ax.length (rt i)) ib; unfold Bnd at hnB; omega
              have dg : DatIn nG2 (.ref Dg2) (chD g2) := .list MG2 ((ints_dat IG2).mono fun _ h => absurd h List.not_mem_nil)
              have hNG : Box (News s1.heap s1.heap.objs.size hG2 nG2) := box_to NG2
              clear hg2 pg2 LtG2 mlb dlb Fb2 Nb hED hDI hEIb hoffb hocb Sg Lg hIg
              k_steps
              · rename_i F8 N8 _ _ _ q1 q2
                rw [← hps_no (f := fun i => grp rt ax.length (rt i)) (k := ib) hgg fun _ => q2] at hHb
                exact ⟨_, _, _, nG2, nwb, rfl, F8, N8, hIbg, box_of hbo, rfl, rfl, rfl, rfl, rfl, hSb, LIb, hIb, hHb⟩
              · rename_i q1 q2 _ _ n8 F8 N8 M8 K8
                obtain ⟨e1, e2, e3⟩ := box_of hbx
                obtain ⟨f1, f2, f3, f4, f5⟩ := box_of hEb
                have kk : ∀ p ∈ nwb, p.1 ≠ hE → p ∈ dropL Ib n8 := fun p hp hn => mem_dropL (K8 _ (box_of hbo p hp).1 hn) (box_of hbo p hp).2
                have NB : News s1.heap s1.heap.objs.size hG2 nwb := news_sub (box_of hNG) fun p hp => (box_of hbo p hp).1
                obtain ⟨⟨vs8, e8, m8, _⟩⟩ := id hHb
                have hadd := HeapsIn.snoc (nw := (Dg2, PySem.W.listOf vg2.toArray eg2) :: nwb) (nw' := dropL Ib n8) (g := g2) (vs := vsh) (hHb.sub fun p hp => .tail _ hp) (fun vs' e' hm => by
                    have h1 : (hE, PySem.W.listOf vs'.toArray e') ∈ nG2 := by
                      rcases List.mem_cons.mp hm with q | q
                      · exact absurd (congrArg Prod.fst q) (Nat.ne_of_lt e1)
                      · exact (box_of hbo _ q).1
                    have h2 := congrArg Obj.data (news_uniq (box_of hNG) h1 mh)
                    unfold PySem.W.listOf at h2
                    cases h2
                    rfl) (mem_dropL M8 (Ne.symm e3)) e1 (.head _) IG2 (fun p hp hn => by
                      rcases List.mem_cons.mp hp with rfl | hp
                      · exact mem_dropL (K8 _ MG2 hn) (Nat.ne_of_gt e2)
                      · exact kk p hp hn)
                rw [← hps_yes (f := fun i => grp rt ax.length (rt i)) (k := ib) hgg (by omega) q2] at hadd
                exact ⟨_, _, _, n8, dropL Ib n8, rfl, F8, N8, K8 _ hIbg e3, fun p hp => of_dropL hp, rfl, rfl, rfl, rfl, rfl, hSb.list NB m8 f1 f2 f3 kk, LIb.list NB m8 f4 kk, kk _ hIb f5, hadd⟩
              · rename_i F8 N8 _ _ _ q1
                rw [← hps_no (f := fun i => grp rt ax.length (rt i)) (k := ib) hgg fun q => absurd q (by omega)] at hHb
                exact ⟨_, _, _, nG2, nwb, rfl, F8, N8, hIbg, box_of hbo, rfl, rfl, rfl, rfl, rfl, hSb, LIb, hIb, hHb⟩
            · rintro m4 nw4' h4 tk4 ⟨k1, k2, k3, k4, k5, hSb, LIb, hIb, hHb⟩ Fb Nb
              obtain ⟨ub, Fb2⟩ := fr_norm [(Str.ofString "source", .ref src), (Str.ofString "size", .int (ax.length : Nat) tkz), (Str.ofString "row", .ref r0), (Str.ofString "heaps", .ref hE)] Fb (by simp (decide := true) [k1, k2, k3, k5])
              clear Fb FP2 NP2 k1 k2 k3 k4 k5 S0 L0 H0 hIa IR2 LIb
              simp only [kstB] at Fb2
              replace Fb2 : Fr s1.heap s1.heap.objs.size h4 _ := Fb2
              replace Nb : News s1.heap s1.heap.objs.size h4 _ := Nb
              tb_start
              refine chains_spec K0 ‹Fr _ _ _ _› KX ‹News _ _ _ _› T0 rfl (by ktr_room) hSb.row TO.wf hrt (by ktr_units) ?_
              intro hCh tkCh nCh Dc ec vc FC NC MC DC SubC
              have Sc := hSb.sub SubC
              have hIc := SubC _ hIb
              obtain ⟨vsh, eh, mh, dh⟩ := (hHb.sub SubC).dat
              have heq : chL rt G.length = hps (fun i => grp rt ax.length (rt i)) ax.length := by rw [hGn, hps_chL]
              clear SubC hSb hIb hHb
              k_steps
              obtain ⟨g1, g2, g3, g4, g5⟩ := box_of hBox
              exact ⟨_, _, _, nCh, dropL I nCh, rfl, FC, NC, hIc, fun p hp => of_dropL hp, rfl, rfl, rfl, G, Sc.drop NC hIc hoc g3 g4, TO.wf⟩
      · exact absurd hfe ‹_›
    · rintro m1 nw h1 tk1 ⟨k1, k2, k3, cs, hS, hW⟩ F1 N1
      have hgens := box_of hgB
      k_steps
  )

end Mine

theorem PySem.Challenge.cw_nu0149_01_holds : PySem.Challenge.rw_nu0149_01.Holds := by
  exact Mine.t
